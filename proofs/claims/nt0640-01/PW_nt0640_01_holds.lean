import PyProof.Rows.All
import Wide.All
import OpenK.AllK
import Wide.FinOn
import Lean
import PySem.Challenge.RW_nt0640_01

/-! ### Lang -/
section
open PySem
set_option tactic.hygienic false
set_option genSizeOf false
set_option bootstrap.genMatcherCode false

namespace Mine

/-- frozen data, by content -/
inductive D where
  | none | bool (b : Bool) | int (i : Int) | str (s : Str) | bytes (b : List UInt8)
  | lst (xs : List D) | tup (xs : List D) | obj (c : Nat) (fs : List D)
  deriving Inhabited

/-- values: frozen data, a place of the abstract heap, the script itself, an unbound name -/
inductive V where
  | d (x : D) | loc (l : Nat) | scr | undef
  deriving Inhabited

inductive O where
  | dead | lst (xs : List V) | dict (kvs : List (Int × V)) | obj (c : Nat) (fs : List V)
  deriving Inhabited

inductive Op where
  | add | sub | mul | fdiv | mod | shl | shr | band | bor
  deriving DecidableEq, Inhabited
inductive Cm where
  | eq | ne | lt | le | isin | notin | is | isnot
  deriving DecidableEq, Inhabited

mutual
inductive X where
  | cst (d : D)
  | var (i : Nat)
  | glob (g : Nat)
  | bin (op : Op) (a b : X)
  | cat (a b : X)
  | catM (a b : X)
  | inv (a : X)
  | not (a : X)
  | cmp (op : Cm) (a b : X)
  | cmp2 (o1 o2 : Cm) (a b c : X)
  | bop (isAnd : Bool) (xs : Xs)
  | ite (c a b : X)
  | call (f : Nat) (xs : Xs)
  | callI (f : Nat) (xs : Xs)
  | new (c : Nat) (xs : Xs)
  | newM (c : Nat) (xs : Xs)
  | attr (a : X) (n : Nat)
  | idx (a i : X)
  | sl0 (a hi : X)
  | sl (a lo hi : X)
  | list (xs : Xs)
  | listM (xs : Xs)
  | tup (xs : Xs)
  | dictM (kvs : List (Int × Bool))
  | len (a : X)
  | copy (a : X)
  | copyM (a : X)
  | sorted (a : X)
  | toInt (a : X)
  | isTup (a : X)
  | isBool (a : X)
  | repr (a : X)
  | comp (k : Nat) (it : X) (cond : Xs) (elt : X)
  | kill (a : X)
inductive Xs where
  | nil
  | cons (x : X) (xs : Xs)
end

inductive S where
  | skip
  | seq (a b : S)
  | asg (i : Nat) (x : X)
  | asgT (is : List Nat) (xs : Xs)
  | setA (o : X) (n : Nat) (x : X)
  | setI (o i x : X)
  | setTA (o : Nat) (ns : List Nat) (xs : Xs)
  | setTI (o1 i1 o2 i2 x1 x2 : X)
  | app (o x : X)
  | ini (f : Nat) (xs : Xs)
  | ifs (c : X) (a b : S)
  | whl (n : Nat) (c : X) (b : S)
  | forL (i : Nat) (x : X) (b : S)
  | forR (i : Nat) (x : X) (b : S)
  | forE (i j : Nat) (x : X) (b : S)
  | ret (x : X)
  | killV (i : Nat)
  deriving Inhabited

inductive Fl where
  | next | ret (v : V)
  deriving Inhabited

abbrev Heap' := List O
abbrev Calls' := Nat → List V → List O → Option (V × List O)

/-! ## ints -/
noncomputable def small (a : Int) : Bool := decide (a.natAbs < 2 ^ 64)
noncomputable def opI : Op → Int → Int → Option Int
  | .add, a, b => some (a + b)
  | .sub, a, b => some (a - b)
  | .mul, a, b => if small a && small b then some (a * b) else none
  | .fdiv, a, b => if small a && small b && decide (b ≠ 0) then some (a.fdiv b) else none
  | .mod, a, b => if decide (b ≠ 0) then some (a.fmod b) else none
  | .shl, a, b => if small a && decide (0 ≤ b) && decide (b ≤ 1000) then some (a * 2 ^ b.toNat) else none
  | .shr, a, b => if decide (0 ≤ b) then some (a.fdiv (2 ^ b.toNat)) else none
  | .band, a, b => some (Builtin.bitAnd a b)
  | .bor, a, b => some (Builtin.bitOr a b)

/-! ## what a run that ends has met -/
noncomputable def oh {α γ : Type} (o : Option α) (f : α → Option γ) : Option γ := match o with | some a => f a | none => none
noncomputable def vh {α γ : Type} (o : Option (α × List O)) (f : α → List O → Option γ) : Option γ := match o with | some (v, H) => f v H | none => none
noncomputable def dv {γ : Type} (v : V) (f : D → Option γ) : Option γ := match v with | .d d => f d | _ => none
noncomputable def lv {γ : Type} (v : V) (f : Nat → Option γ) : Option γ := match v with | .loc l => f l | _ => none
noncomputable def id' {γ : Type} (d : D) (f : Int → Option γ) : Option γ := match d with | .int i => f i | _ => none
noncomputable def bd' {γ : Type} (d : D) (f : Bool → Option γ) : Option γ := match d with | .bool b => f b | _ => none
noncomputable def ld' {γ : Type} (d : D) (f : List D → Option γ) : Option γ := match d with | .lst xs => f xs | _ => none
noncomputable def nd' {γ : Type} (d : D) (f : Option γ) : Option γ := match d with | .none => f | _ => none
noncomputable def iv {γ : Type} (v : V) (f : Int → Option γ) : Option γ := dv v fun d => id' d f
noncomputable def dh {γ : Type} (o : Option (V × List O)) (f : D → List O → Option γ) : Option γ := vh o fun v H => dv v fun d => f d H
noncomputable def ih {γ : Type} (o : Option (V × List O)) (f : Int → List O → Option γ) : Option γ := dh o fun d H => id' d fun i => f i H
noncomputable def bh {γ : Type} (o : Option (V × List O)) (f : Bool → List O → Option γ) : Option γ := dh o fun d H => bd' d fun i => f i H
noncomputable def lh {γ : Type} (o : Option (V × List O)) (f : List D → List O → Option γ) : Option γ := dh o fun d H => ld' d fun i => f i H
noncomputable def nh {γ : Type} (o : Option (V × List O)) (f : List O → Option γ) : Option γ := dh o fun d H => nd' d (f H)
noncomputable def ph {γ : Type} (o : Option (V × List O)) (f : Nat → List O → Option γ) : Option γ := vh o fun v H => lv v fun l => f l H
noncomputable def gl {γ : Type} (o : O) (f : List V → Option γ) : Option γ := match o with | .lst xs => f xs | _ => none
noncomputable def nu (v : V) (H : List O) : Option (V × List O) := match v with | .undef => none | v => some (v, H)
noncomputable def fh (o : Option (Fl × List V × List O)) (f : List V → List O → Option (Fl × List V × List O)) : Option (Fl × List V × List O) := match o with
  | some (.next, ρ, H) => f ρ H
  | r => r

/-! ## data -/
noncomputable def V.toD (v : V) : Option D := dv v some
noncomputable def toDs : List V → Option (List D)
  | [] => some []
  | v :: vs => dv v fun x => oh (toDs vs) fun xs => some (x :: xs)

/-- equality, where it is asked -/
noncomputable def eqL (f : D → D → Option Bool) : List D → List D → Option Bool
  | [], ys => some ys.isEmpty
  | x :: xs, ys => match ys with
    | [] => some false
    | y :: ys => oh (f x y) fun a => oh (eqL f xs ys) fun b => some (a && b)
noncomputable def eqF (g : List D → List D → Option Bool) : D → D → Option Bool
  | .none, y => match y with
    | .none => some true
    | .tup _ => some false
    | _ => none
  | .bool a, y => bd' y fun b => some (a == b)
  | .int a, y => id' y fun b => some (a == b)
  | .str a, y => match y with
    | .str b => some (a == b)
    | _ => none
  | .bytes a, y => match y with
    | .bytes b => some (a == b)
    | _ => none
  | .lst xs, y => ld' y fun ys => g xs ys
  | .tup xs, y => match y with
    | .none => some false
    | .tup ys => g xs ys
    | _ => none
  | .obj _ _, _ => none
noncomputable def eqD : Nat → D → D → Option Bool
  | 0 => eqF fun _ _ => none
  | k + 1 => eqF (eqL (eqD k))
noncomputable def big : Nat := 1000000

/-- read of a place -/
noncomputable def getO (H : List O) (l : Nat) : O := (H[l]?).getD .dead

noncomputable def mapO (f : V → Option D) : List V → Option (List D)
  | [] => some []
  | v :: vs => oh (f v) fun x => oh (mapO f vs) fun xs => some (x :: xs)
noncomputable def frO (g : V → Option D) : O → Option D
  | .lst xs => oh (mapO g xs) fun ds => some (.lst ds)
  | .obj c fs => oh (mapO g fs) fun ds => some (.obj c ds)
  | _ => none
noncomputable def frz : Nat → List O → V → Option D
  | 0, _, v => v.toD
  | k + 1, H, v => match v with
    | .d x => some x
    | .loc l => frO (frz k H) (getO H l)
    | _ => none

/-- the items of a list value, as values -/
noncomputable def listOf? (H : List O) (u : V) : Option (List V) := match u with
  | .d d => ld' d fun xs => some (xs.map .d)
  | .loc l => gl (getO H l) some
  | _ => none

noncomputable def intsOf : List D → Option (List Int)
  | [] => some []
  | x :: r => id' x fun i => oh (intsOf r) fun is => some (i :: is)

noncomputable def insI (a : Int) : List Int → List Int
  | [] => [a]
  | b :: r => if a ≤ b then a :: b :: r else b :: insI a r
noncomputable def sortI : List Int → List Int
  | [] => []
  | a :: r => insI a (sortI r)

/-- an index into n items, as Python counts -/
noncomputable def at? (n : Nat) (i : Int) : Option Nat :=
  if 0 ≤ i then (if i < n then some i.toNat else none) else (if -(n : Int) ≤ i then some (i + n).toNat else none)

noncomputable def lookI (k : Int) : List (Int × V) → Option V
  | [] => none
  | (j, v) :: r => if k = j then some v else lookI k r
noncomputable def putI (k : Int) (v : V) (kvs : List (Int × V)) : List (Int × V) :=
  if kvs.any (fun p => decide (p.1 = k)) then kvs.map (fun p => if p.1 = k then (p.1, v) else p) else kvs ++ [(k, v)]

noncomputable def clip (n : Nat) (i : Int) : Nat := if i < 0 then 0 else min n i.toNat

/-! ## classes: their fields, in order -/
noncomputable def fieldsOf : Nat → List Nat
  | 0 => [0, 1, 2]
  | 1 => [3, 4, 5, 6, 7, 8, 9, 10, 11, 12, 13, 14, 15, 16, 17, 18]
  | 2 => [19, 20, 21]
  | _ => []
noncomputable def posOf (n : Nat) : List Nat → Option Nat
  | [] => none
  | m :: r => if n = m then some 0 else oh (posOf n r) fun k => some (k + 1)
noncomputable def fpos (c n : Nat) : Option Nat := posOf n (fieldsOf c)

noncomputable def reprD : D → Option Str
  | .none => some (Str.ofString "None")
  | .bool b => some (if b then Str.ofString "True" else Str.ofString "False")
  | .int i => if i = 0 then some (Str.ofString "0") else none
  | .bytes b => if b = [120] then some (Str.ofString "b'x'") else none
  | _ => none

noncomputable def seqD : D → Option (List D)
  | .lst xs => some xs
  | .tup xs => some xs
  | _ => none
noncomputable def isNone : D → Bool
  | .none => true
  | _ => false
noncomputable def inO (a : Int) : O → Option Bool
  | .dict kvs => some (lookI a kvs).isSome
  | _ => none
noncomputable def inV (H : List O) (a : Int) : V → Option Bool
  | .d d => oh (seqD d) fun xs => oh (intsOf xs) fun is => some (is.contains a)
  | .loc l => inO a (getO H l)
  | _ => none
noncomputable def ninV (H : List O) (a : Int) : V → Option Bool
  | .d d => ld' d fun xs => oh (intsOf xs) fun is => some (!is.contains a)
  | .loc l => oh (inO a (getO H l)) fun b => some (!b)
  | _ => none
noncomputable def cmpV (H : List O) (op : Cm) (u v : V) : Option Bool := match op with
  | .eq => dv u fun a => dv v fun b => eqD 8 a b
  | .ne => dv u fun a => dv v fun b => oh (eqD 8 a b) fun c => some (!c)
  | .lt => iv u fun a => iv v fun b => some (decide (a < b))
  | .le => iv u fun a => iv v fun b => some (decide (a ≤ b))
  | .is => dv u fun a => dv v fun b => nd' b (some (isNone a))
  | .isnot => dv u fun a => dv v fun b => nd' b (some (!isNone a))
  | .isin => iv u fun a => inV H a v
  | .notin => iv u fun a => ninV H a v

noncomputable def idxO (i : Int) : O → Option V
  | .lst xs => oh (at? xs.length i) fun k => xs[k]?
  | .dict kvs => lookI i kvs
  | _ => none
noncomputable def idxV (H : List O) (u j : V) : Option V := iv j fun i => match u with
  | .d d => oh (seqD d) fun xs => oh (at? xs.length i) fun k => (xs[k]?).map .d
  | .loc l => idxO i (getO H l)
  | _ => none

noncomputable def attrO (n : Nat) : O → Option V
  | .obj c fs => oh (fpos c n) fun k => fs[k]?
  | _ => none
noncomputable def attrD (n : Nat) : D → Option V
  | .obj c fs => oh (fpos c n) fun k => (fs[k]?).map .d
  | _ => none
noncomputable def attrV (H : List O) (n : Nat) : V → Option V
  | .d d => attrD n d
  | .loc l => attrO n (getO H l)
  | _ => none

/-- what a store makes of the heap -/
noncomputable def setAO (n : Nat) (v : V) : O → Option O
  | .obj c fs => oh (fpos c n) fun k => if k < fs.length then some (.obj c (fs.set k v)) else if k = fs.length then some (.obj c (fs ++ [v])) else none
  | _ => none
noncomputable def setAV (H : List O) (n : Nat) (v u : V) : Option (List O) := lv u fun l => oh (setAO n v (getO H l)) fun o => some (H.set l o)
noncomputable def setIO (i : Int) (v : V) : O → Option O
  | .lst xs => if 0 ≤ i ∧ i < xs.length then some (.lst (xs.set i.toNat v)) else none
  | .dict kvs => if kvs.length < big then some (.dict (putI i v kvs)) else none
  | _ => none
noncomputable def setIV (H : List O) (v u j : V) : Option (List O) := lv u fun l => iv j fun i => oh (setIO i v (getO H l)) fun o => some (H.set l o)

noncomputable def sl0V (ns : List Int) (u j : V) : Option V := iv j fun i => match u with
  | .scr => if 0 ≤ i then some (.d (.lst ((ns.take i.toNat).map .int))) else none
  | _ => none
noncomputable def slV (u lo hi : V) : Option V := dv u fun d => ld' d fun xs => iv lo fun lo => iv hi fun hi => if 0 ≤ lo ∧ 0 ≤ hi then some (.d (.lst ((xs.take hi.toNat).drop lo.toNat))) else none

noncomputable def rangeV (n : Int) : List V := (List.range n.toNat).map fun (i : Nat) => V.d (.int i)

/-- global constants -/
noncomputable def gtab : List D := [
  .int 6, .int 8, .int 9, .int 9, .int 18, .int 0, .int 6, .int 14, .int 23, .int 14, .int 262143, .int 131071, .int 4294967295,
  .int 0, .int 1, .int 2, .int 19, .int 22, .int 23, .int 24, .int 25, .int 26, .int 27, .int 30, .int 31, .int 32, .int 33, .int 34, .int 36,
  .tup [.int 23, .int 24, .int 25, .int 26, .int 27]]

noncomputable def initOf : Nat → Nat
  | 0 => 14
  | 1 => 15
  | 2 => 16
  | _ => 1000

/-- a comprehension's turns -/
noncomputable def compLoop (cond elt : V → List O → Option (V × List O)) : List V → List O → Option (List D × List O)
  | [], H => some ([], H)
  | v :: vs, H => bh (cond v H) fun b H => match b with
    | true => dh (elt v H) fun x H => vh (compLoop cond elt vs H) fun xs H => some (x :: xs, H)
    | false => compLoop cond elt vs H

/-- what is walked over; a dict that is walked over is let go -/
noncomputable def keysO : O → Option (List V)
  | .dict kvs => some (kvs.map fun p => V.d (.int p.1))
  | _ => none
noncomputable def iterV (H : List O) (k : Nat) (v : V) : Option (List V × List O) := match k with
  | 0 => dv v fun d => ld' d fun xs => some (xs.map .d, H)
  | 1 => iv v fun n => if 0 ≤ n ∧ n ≤ big then some (rangeV n, H) else none
  | 2 => lv v fun l => oh (keysO (getO H l)) fun ks => some (ks, H.set l .dead)
  | _ => none

/-- a list or an object, frozen -/
noncomputable def killO : O → Option D
  | .lst xs => oh (toDs xs) fun ds => some (.lst ds)
  | .obj c fs => oh (toDs fs) fun ds => some (.obj c ds)
  | _ => none
noncomputable def tupQ : D → Option Bool
  | .tup _ => some true
  | .int _ => some false
  | _ => none
noncomputable def boolQ : D → Option Bool
  | .bool _ => some true
  | .int _ => some false
  | .bytes _ => some false
  | _ => none

mutual
noncomputable def ev (ns : List Int) (C : Calls') : X → List V → List O → Option (V × List O)
  | .cst d, _, H => some (.d d, H)
  | .var i, ρ, H => oh ρ[i]? fun v => nu v H
  | .glob g, _, H => oh gtab[g]? fun d => some (.d d, H)
  | .bin op x y, ρ, H => ih (ev ns C x ρ H) fun i H => ih (ev ns C y ρ H) fun j H => oh (opI op i j) fun k => some (.d (.int k), H)
  | .cat x y, ρ, H => lh (ev ns C x ρ H) fun xs H => lh (ev ns C y ρ H) fun ys H => if xs.length + ys.length ≤ big then some (.d (.lst (xs ++ ys)), H) else none
  | .catM x y, ρ, H => ph (ev ns C x ρ H) fun l H => lh (ev ns C y ρ H) fun ys H => gl (getO H l) fun xs => if xs.length + ys.length ≤ big then some (.loc H.length, H ++ [.lst (xs ++ ys.map .d)]) else none
  | .inv x, ρ, H => ih (ev ns C x ρ H) fun i H => some (.d (.int (Builtin.bitNot i)), H)
  | .not x, ρ, H => bh (ev ns C x ρ H) fun b H => some (.d (.bool (!b)), H)
  | .cmp cm x y, ρ, H => vh (ev ns C x ρ H) fun u H => vh (ev ns C y ρ H) fun v H => oh (cmpV H cm u v) fun c => some (.d (.bool c), H)
  | .cmp2 o1 o2 x y z, ρ, H => vh (ev ns C x ρ H) fun u H => vh (ev ns C y ρ H) fun v H => oh (cmpV H o1 u v) fun c => match c with
    | true => vh (ev ns C z ρ H) fun w H => oh (cmpV H o2 v w) fun r => some (.d (.bool r), H)
    | false => some (.d (.bool false), H)
  | .bop k xs, ρ, H => evB ns C k xs ρ H
  | .ite c x y, ρ, H => bh (ev ns C c ρ H) fun b H => match b with
    | true => ev ns C x ρ H
    | false => ev ns C y ρ H
  | .call f xs, ρ, H => vh (evs ns C xs ρ H) fun vs H => oh (toDs vs) fun ds => vh (C f (ds.map .d) []) fun v H' => oh (frz 3 H' v) fun x => some (.d x, H)
  | .callI f xs, ρ, H => vh (evs ns C xs ρ H) fun vs H => C f vs H
  | .new c xs, ρ, H => vh (evs ns C xs ρ H) fun vs H => oh (toDs vs) fun ds => nh (C (initOf c) (.loc 0 :: ds.map .d) [.obj c []]) fun H' => oh (frz 3 H' (.loc 0)) fun x => some (.d x, H)
  | .newM c xs, ρ, H => vh (evs ns C xs ρ H) fun vs H => nh (C (initOf c) (.loc H.length :: vs) (H ++ [.obj c []])) fun H' => some (.loc H.length, H')
  | .attr x m, ρ, H => vh (ev ns C x ρ H) fun u H => oh (attrV H m u) fun v => some (v, H)
  | .idx x y, ρ, H => vh (ev ns C x ρ H) fun u H => vh (ev ns C y ρ H) fun j H => oh (idxV H u j) fun v => some (v, H)
  | .sl0 x y, ρ, H => vh (ev ns C x ρ H) fun u H => vh (ev ns C y ρ H) fun j H => oh (sl0V ns u j) fun v => some (v, H)
  | .sl x y z, ρ, H => vh (ev ns C x ρ H) fun u H => vh (ev ns C y ρ H) fun lo H => vh (ev ns C z ρ H) fun hi H => oh (slV u lo hi) fun v => some (v, H)
  | .list xs, ρ, H => vh (evs ns C xs ρ H) fun vs H => oh (toDs vs) fun ds => some (.d (.lst ds), H)
  | .listM xs, ρ, H => vh (evs ns C xs ρ H) fun vs H => some (.loc H.length, H ++ [.lst vs])
  | .tup xs, ρ, H => vh (evs ns C xs ρ H) fun vs H => oh (toDs vs) fun ds => some (.d (.tup ds), H)
  | .dictM kvs, _, H => if kvs.length ≤ 1 then some (.loc H.length, H ++ [.dict (kvs.map fun p => (p.1, .d (.bool p.2)))]) else none
  | .len x, ρ, H => vh (ev ns C x ρ H) fun u H => oh (listOf? H u) fun xs => some (.d (.int xs.length), H)
  | .copy x, ρ, H => lh (ev ns C x ρ H) fun xs H => some (.d (.lst xs), H)
  | .copyM x, ρ, H => lh (ev ns C x ρ H) fun xs H => some (.loc H.length, H ++ [.lst (xs.map .d)])
  | .sorted x, ρ, H => lh (ev ns C x ρ H) fun xs H => oh (intsOf xs) fun is => if is.length < 64 then some (.d (.lst ((sortI is).map .int)), H) else none
  | .toInt x, ρ, H => bh (ev ns C x ρ H) fun b H => some (.d (.int (if b then 1 else 0)), H)
  | .isTup x, ρ, H => dh (ev ns C x ρ H) fun d H => oh (tupQ d) fun b => some (.d (.bool b), H)
  | .isBool x, ρ, H => dh (ev ns C x ρ H) fun d H => oh (boolQ d) fun b => some (.d (.bool b), H)
  | .repr x, ρ, H => dh (ev ns C x ρ H) fun d H => oh (reprD d) fun s => some (.d (.str s), H)
  | .comp k x xs y, ρ, H => vh (ev ns C x ρ H) fun u H => vh (iterV H k u) fun vs H => vh (compLoop (fun v H => evB ns C true xs (ρ ++ [v]) H) (fun v H => ev ns C y (ρ ++ [v]) H) vs H) fun xs H => some (.d (.lst xs), H)
  | .kill x, ρ, H => ph (ev ns C x ρ H) fun l H => oh (killO (getO H l)) fun d => some (.d d, H.set l .dead)
noncomputable def evs (ns : List Int) (C : Calls') : Xs → List V → List O → Option (List V × List O)
  | .nil, _, H => some ([], H)
  | .cons x xs, ρ, H => vh (ev ns C x ρ H) fun v H => vh (evs ns C xs ρ H) fun vs H => some (v :: vs, H)
/-- and | or over bools -/
noncomputable def evB (ns : List Int) (C : Calls') : Bool → Xs → List V → List O → Option (V × List O)
  | k, .nil, _, H => some (.d (.bool k), H)
  | k, .cons x xs, ρ, H => bh (ev ns C x ρ H) fun b H => if b = k then evB ns C k xs ρ H else some (.d (.bool b), H)
end

noncomputable def whileLoop (test : List V → List O → Option (V × List O)) (body : List V → List O → Option (Fl × List V × List O)) : Nat → List V → List O → Option (Fl × List V × List O)
  | 0, _, _ => none
  | n + 1, ρ, H => bh (test ρ H) fun b H => match b with
    | true => fh (body ρ H) fun ρ H => whileLoop test body n ρ H
    | false => some (.next, ρ, H)
noncomputable def forLoop (body : V → List V → List O → Option (Fl × List V × List O)) : List V → List V → List O → Option (Fl × List V × List O)
  | [], ρ, H => some (.next, ρ, H)
  | v :: vs, ρ, H => fh (body v ρ H) fun ρ H => forLoop body vs ρ H
noncomputable def forLoopE (body : Nat → V → List V → List O → Option (Fl × List V × List O)) : Nat → List V → List V → List O → Option (Fl × List V × List O)
  | _, [], ρ, H => some (.next, ρ, H)
  | k, v :: vs, ρ, H => fh (body k v ρ H) fun ρ H => forLoopE body (k + 1) vs ρ H

noncomputable def setAll : List Nat → List V → List V → Option (List V)
  | [], vs, ρ => match vs with
    | [] => some ρ
    | _ :: _ => none
  | i :: is, vs, ρ => match vs with
    | [] => none
    | v :: vs => if i < ρ.length then setAll is vs (ρ.set i v) else none

noncomputable def setAs (o : V) : List Nat → List V → List O → Option (List O)
  | [], vs, H => match vs with
    | [] => some H
    | _ :: _ => none
  | n :: ns, vs, H => match vs with
    | [] => none
    | v :: vs => oh (setAV H n v o) fun H => setAs o ns vs H

noncomputable def exec (ns : List Int) (C : Calls') : S → List V → List O → Option (Fl × List V × List O)
  | .skip, ρ, H => some (.next, ρ, H)
  | .seq a b, ρ, H => fh (exec ns C a ρ H) fun ρ H => exec ns C b ρ H
  | .asg i x, ρ, H => vh (ev ns C x ρ H) fun v H => if i < ρ.length then some (.next, ρ.set i v, H) else none
  | .asgT is xs, ρ, H => vh (evs ns C xs ρ H) fun vs H => oh (setAll is vs ρ) fun ρ => some (.next, ρ, H)
  | .setA o n x, ρ, H => vh (ev ns C x ρ H) fun v H => vh (ev ns C o ρ H) fun u H => oh (setAV H n v u) fun H => some (.next, ρ, H)
  | .setI o i x, ρ, H => vh (ev ns C x ρ H) fun v H => vh (ev ns C o ρ H) fun u H => vh (ev ns C i ρ H) fun j H => oh (setIV H v u j) fun H => some (.next, ρ, H)
  | .setTA o fs xs, ρ, H => vh (evs ns C xs ρ H) fun vs H => vh (ev ns C (.var o) ρ H) fun u H' => oh (setAs u fs vs H') fun H => some (.next, ρ, H)
  | .setTI o1 i1 o2 i2 x1 x2, ρ, H => vh (ev ns C x1 ρ H) fun v1 H => vh (ev ns C x2 ρ H) fun v2 H => vh (ev ns C o1 ρ H) fun u1 H => vh (ev ns C i1 ρ H) fun j1 H => oh (setIV H v1 u1 j1) fun H => vh (ev ns C o2 ρ H) fun u2 H => vh (ev ns C i2 ρ H) fun j2 H => oh (setIV H v2 u2 j2) fun H => some (.next, ρ, H)
  | .app o x, ρ, H => ph (ev ns C o ρ H) fun l H => gl (getO H l) fun _ => vh (ev ns C x ρ H) fun v H => gl (getO H l) fun xs => if xs.length < big then some (.next, ρ, H.set l (.lst (xs ++ [v]))) else none
  | .ini f xs, ρ, H => vh (evs ns C xs ρ H) fun vs H => nh (C f vs H) fun H => some (.next, ρ, H)
  | .ifs c a b, ρ, H => bh (ev ns C c ρ H) fun t H => match t with
    | true => exec ns C a ρ H
    | false => exec ns C b ρ H
  | .whl n c b, ρ, H => whileLoop (fun ρ H => ev ns C c ρ H) (fun ρ H => exec ns C b ρ H) n ρ H
  | .forL i x b, ρ, H => lh (ev ns C x ρ H) fun xs H => if i < ρ.length then forLoop (fun v ρ H => exec ns C b (ρ.set i v) H) (xs.map .d) ρ H else none
  | .forR i x b, ρ, H => ih (ev ns C x ρ H) fun n H => if i < ρ.length ∧ 0 ≤ n ∧ n ≤ big then forLoop (fun v ρ H => exec ns C b (ρ.set i v) H) (rangeV n) ρ H else none
  | .forE i j x b, ρ, H => lh (ev ns C x ρ H) fun xs H => if (i < ρ.length && j < ρ.length) = true then forLoopE (fun k v ρ H => exec ns C b ((ρ.set i (.d (.int (k : Nat)))).set j v) H) 0 (xs.map .d) ρ H else none
  | .ret x, ρ, H => vh (ev ns C x ρ H) fun v H => some (.ret v, ρ, H)
  | .killV i, ρ, H => oh ρ[i]? fun v => lv v fun l => oh (killO (getO H l)) fun d => some (.next, ρ.set i (.d d), H.set l .dead)

structure Fn where
  nargs : Nat
  nslots : Nat
  body : S
  deriving Inhabited

noncomputable def retF : Fl × List V × List O → Option (V × List O)
  | (.ret v, _, H) => some (v, H)
  | (.next, _, H) => some (.d .none, H)
noncomputable def callN (ns : List Int) (fns : List Fn) : Nat → Calls'
  | 0 => fun _ _ _ => none
  | n + 1 => fun f vs H => oh fns[f]? fun fd => if vs.length = fd.nargs then oh (exec ns (callN ns fns n) fd.body (vs ++ List.replicate (fd.nslots - fd.nargs) .undef) H) retF else none
end Mine
end

/-! ### Eqs -/
section
open PySem
set_option tactic.hygienic false
set_option linter.unusedVariables false
namespace Mine
/-! ## equations, for simp -/
section
variable {α γ : Type} {H : List O}
@[simp] theorem oh_some {a : α} {f : α → Option γ} : oh (some a) f = f a := rfl
@[simp] theorem vh_some {a : α} {f : α → List O → Option γ} : vh (some (a, H)) f = f a H := rfl
@[simp] theorem dv_d {d : D} {f : D → Option γ} : dv (.d d) f = f d := rfl
@[simp] theorem lv_loc {l : Nat} {f : Nat → Option γ} : lv (.loc l) f = f l := rfl
@[simp] theorem id_int {i : Int} {f : Int → Option γ} : id' (.int i) f = f i := rfl
@[simp] theorem bd_bool {b : Bool} {f : Bool → Option γ} : bd' (.bool b) f = f b := rfl
@[simp] theorem ld_lst {xs : List D} {f : List D → Option γ} : ld' (.lst xs) f = f xs := rfl
@[simp] theorem nd_none {f : Option γ} : nd' .none f = f := rfl
@[simp] theorem iv_int {i : Int} {f : Int → Option γ} : iv (.d (.int i)) f = f i := rfl
@[simp] theorem dh_some {d : D} {f : D → List O → Option γ} : dh (some (.d d, H)) f = f d H := rfl
@[simp] theorem ih_some {i : Int} {f : Int → List O → Option γ} : ih (some (.d (.int i), H)) f = f i H := rfl
@[simp] theorem bh_some {i : Bool} {f : Bool → List O → Option γ} : bh (some (.d (.bool i), H)) f = f i H := rfl
@[simp] theorem lh_some {i : List D} {f : List D → List O → Option γ} : lh (some (.d (.lst i), H)) f = f i H := rfl
@[simp] theorem nh_some {f : List O → Option γ} : nh (some (.d .none, H)) f = f H := rfl
@[simp] theorem ph_some {l : Nat} {f : Nat → List O → Option γ} : ph (some (.loc l, H)) f = f l H := rfl
@[simp] theorem gl_lst {xs : List V} {f : List V → Option γ} : gl (.lst xs) f = f xs := rfl
@[simp] theorem nu_d {d : D} : nu (.d d) H = some (.d d, H) := rfl
@[simp] theorem nu_loc {l : Nat} : nu (.loc l) H = some (.loc l, H) := rfl
@[simp] theorem nu_scr : nu .scr H = some (.scr, H) := rfl
@[simp] theorem nu_undef : nu .undef H = none := rfl
@[simp] theorem fh_next {ρ : List V} {f : List V → List O → Option (Fl × List V × List O)} : fh (some (.next, ρ, H)) f = f ρ H := rfl
@[simp] theorem fh_ret {v : V} {ρ : List V} {f : List V → List O → Option (Fl × List V × List O)} : fh (some (.ret v, ρ, H)) f = some (.ret v, ρ, H) := rfl
end
variable {ns : List Int} {C : Calls'} {ρ : List V} {H : List O}
@[simp] theorem ev_cst_eq {d : D} : ev ns C (.cst d) ρ H = some (.d d, H) := rfl
@[simp] theorem ev_var_eq {i : Nat} : ev ns C (.var i) ρ H = oh ρ[i]? fun v => nu v H := rfl
@[simp] theorem ev_glob_eq {g : Nat} : ev ns C (.glob g) ρ H = oh gtab[g]? fun d => some (.d d, H) := rfl
@[simp] theorem ev_bin_eq {op : Op} {x : X} {y : X} : ev ns C (.bin op x y) ρ H = ih (ev ns C x ρ H) fun i H => ih (ev ns C y ρ H) fun j H => oh (opI op i j) fun k => some (.d (.int k), H) := rfl
@[simp] theorem ev_cat_eq {x : X} {y : X} : ev ns C (.cat x y) ρ H = lh (ev ns C x ρ H) fun xs H => lh (ev ns C y ρ H) fun ys H => if xs.length + ys.length ≤ big then some (.d (.lst (xs ++ ys)), H) else none := rfl
@[simp] theorem ev_catM_eq {x : X} {y : X} : ev ns C (.catM x y) ρ H = ph (ev ns C x ρ H) fun l H => lh (ev ns C y ρ H) fun ys H => gl (getO H l) fun xs => if xs.length + ys.length ≤ big then some (.loc H.length, H ++ [.lst (xs ++ ys.map .d)]) else none := rfl
@[simp] theorem ev_inv_eq {x : X} : ev ns C (.inv x) ρ H = ih (ev ns C x ρ H) fun i H => some (.d (.int (Builtin.bitNot i)), H) := rfl
@[simp] theorem ev_not_eq {x : X} : ev ns C (.not x) ρ H = bh (ev ns C x ρ H) fun b H => some (.d (.bool (!b)), H) := rfl
@[simp] theorem ev_cmp_eq {cm : Cm} {x : X} {y : X} : ev ns C (.cmp cm x y) ρ H = vh (ev ns C x ρ H) fun u H => vh (ev ns C y ρ H) fun v H => oh (cmpV H cm u v) fun c => some (.d (.bool c), H) := rfl
@[simp] theorem ev_cmp2_eq {o1 : Cm} {o2 : Cm} {x : X} {y : X} {z : X} : ev ns C (.cmp2 o1 o2 x y z) ρ H = vh (ev ns C x ρ H) fun u H => vh (ev ns C y ρ H) fun v H => oh (cmpV H o1 u v) fun c => match c with
    | true => vh (ev ns C z ρ H) fun w H => oh (cmpV H o2 v w) fun r => some (.d (.bool r), H)
    | false => some (.d (.bool false), H) := rfl
@[simp] theorem ev_bop_eq {k : Bool} {xs : Xs} : ev ns C (.bop k xs) ρ H = evB ns C k xs ρ H := rfl
@[simp] theorem ev_ite_eq {c : X} {x : X} {y : X} : ev ns C (.ite c x y) ρ H = bh (ev ns C c ρ H) fun b H => match b with
    | true => ev ns C x ρ H
    | false => ev ns C y ρ H := rfl
@[simp] theorem ev_call_eq {f : Nat} {xs : Xs} : ev ns C (.call f xs) ρ H = vh (evs ns C xs ρ H) fun vs H => oh (toDs vs) fun ds => vh (C f (ds.map .d) []) fun v H' => oh (frz 3 H' v) fun x => some (.d x, H) := rfl
@[simp] theorem ev_callI_eq {f : Nat} {xs : Xs} : ev ns C (.callI f xs) ρ H = vh (evs ns C xs ρ H) fun vs H => C f vs H := rfl
@[simp] theorem ev_new_eq {c : Nat} {xs : Xs} : ev ns C (.new c xs) ρ H = vh (evs ns C xs ρ H) fun vs H => oh (toDs vs) fun ds => nh (C (initOf c) (.loc 0 :: ds.map .d) [.obj c []]) fun H' => oh (frz 3 H' (.loc 0)) fun x => some (.d x, H) := rfl
@[simp] theorem ev_newM_eq {c : Nat} {xs : Xs} : ev ns C (.newM c xs) ρ H = vh (evs ns C xs ρ H) fun vs H => nh (C (initOf c) (.loc H.length :: vs) (H ++ [.obj c []])) fun H' => some (.loc H.length, H') := rfl
@[simp] theorem ev_attr_eq {x : X} {m : Nat} : ev ns C (.attr x m) ρ H = vh (ev ns C x ρ H) fun u H => oh (attrV H m u) fun v => some (v, H) := rfl
@[simp] theorem ev_idx_eq {x : X} {y : X} : ev ns C (.idx x y) ρ H = vh (ev ns C x ρ H) fun u H => vh (ev ns C y ρ H) fun j H => oh (idxV H u j) fun v => some (v, H) := rfl
@[simp] theorem ev_sl0_eq {x : X} {y : X} : ev ns C (.sl0 x y) ρ H = vh (ev ns C x ρ H) fun u H => vh (ev ns C y ρ H) fun j H => oh (sl0V ns u j) fun v => some (v, H) := rfl
@[simp] theorem ev_sl_eq {x : X} {y : X} {z : X} : ev ns C (.sl x y z) ρ H = vh (ev ns C x ρ H) fun u H => vh (ev ns C y ρ H) fun lo H => vh (ev ns C z ρ H) fun hi H => oh (slV u lo hi) fun v => some (v, H) := rfl
@[simp] theorem ev_list_eq {xs : Xs} : ev ns C (.list xs) ρ H = vh (evs ns C xs ρ H) fun vs H => oh (toDs vs) fun ds => some (.d (.lst ds), H) := rfl
@[simp] theorem ev_listM_eq {xs : Xs} : ev ns C (.listM xs) ρ H = vh (evs ns C xs ρ H) fun vs H => some (.loc H.length, H ++ [.lst vs]) := rfl
@[simp] theorem ev_tup_eq {xs : Xs} : ev ns C (.tup xs) ρ H = vh (evs ns C xs ρ H) fun vs H => oh (toDs vs) fun ds => some (.d (.tup ds), H) := rfl
@[simp] theorem ev_dictM_eq {kvs : List (Int × Bool)} : ev ns C (.dictM kvs) ρ H = if kvs.length ≤ 1 then some (.loc H.length, H ++ [.dict (kvs.map fun p => (p.1, .d (.bool p.2)))]) else none := rfl
@[simp] theorem ev_len_eq {x : X} : ev ns C (.len x) ρ H = vh (ev ns C x ρ H) fun u H => oh (listOf? H u) fun xs => some (.d (.int xs.length), H) := rfl
@[simp] theorem ev_copy_eq {x : X} : ev ns C (.copy x) ρ H = lh (ev ns C x ρ H) fun xs H => some (.d (.lst xs), H) := rfl
@[simp] theorem ev_copyM_eq {x : X} : ev ns C (.copyM x) ρ H = lh (ev ns C x ρ H) fun xs H => some (.loc H.length, H ++ [.lst (xs.map .d)]) := rfl
@[simp] theorem ev_sorted_eq {x : X} : ev ns C (.sorted x) ρ H = lh (ev ns C x ρ H) fun xs H => oh (intsOf xs) fun is => if is.length < 64 then some (.d (.lst ((sortI is).map .int)), H) else none := rfl
@[simp] theorem ev_toInt_eq {x : X} : ev ns C (.toInt x) ρ H = bh (ev ns C x ρ H) fun b H => some (.d (.int (if b then 1 else 0)), H) := rfl
@[simp] theorem ev_isTup_eq {x : X} : ev ns C (.isTup x) ρ H = dh (ev ns C x ρ H) fun d H => oh (tupQ d) fun b => some (.d (.bool b), H) := rfl
@[simp] theorem ev_isBool_eq {x : X} : ev ns C (.isBool x) ρ H = dh (ev ns C x ρ H) fun d H => oh (boolQ d) fun b => some (.d (.bool b), H) := rfl
@[simp] theorem ev_repr_eq {x : X} : ev ns C (.repr x) ρ H = dh (ev ns C x ρ H) fun d H => oh (reprD d) fun s => some (.d (.str s), H) := rfl
@[simp] theorem ev_comp_eq {k : Nat} {x : X} {xs : Xs} {y : X} : ev ns C (.comp k x xs y) ρ H = vh (ev ns C x ρ H) fun u H => vh (iterV H k u) fun vs H => vh (compLoop (fun v H => evB ns C true xs (ρ ++ [v]) H) (fun v H => ev ns C y (ρ ++ [v]) H) vs H) fun xs H => some (.d (.lst xs), H) := rfl
@[simp] theorem ev_kill_eq {x : X} : ev ns C (.kill x) ρ H = ph (ev ns C x ρ H) fun l H => oh (killO (getO H l)) fun d => some (.d d, H.set l .dead) := rfl
@[simp] theorem evs_nil_eq : evs ns C .nil ρ H = some ([], H) := rfl
@[simp] theorem evs_cons_eq {x : X} {xs : Xs} : evs ns C (.cons x xs) ρ H = vh (ev ns C x ρ H) fun v H => vh (evs ns C xs ρ H) fun vs H => some (v :: vs, H) := rfl
@[simp] theorem evB_nil_eq {k : Bool} : evB ns C k .nil ρ H = some (.d (.bool k), H) := rfl
@[simp] theorem evB_cons_eq {k : Bool} {x : X} {xs : Xs} : evB ns C k (.cons x xs) ρ H = bh (ev ns C x ρ H) fun b H => if b = k then evB ns C k xs ρ H else some (.d (.bool b), H) := rfl
@[simp] theorem ex_skip_eq : exec ns C .skip ρ H = some (.next, ρ, H) := rfl
@[simp] theorem ex_seq_eq {a : S} {b : S} : exec ns C (.seq a b) ρ H = fh (exec ns C a ρ H) fun ρ H => exec ns C b ρ H := rfl
@[simp] theorem ex_asg_eq {i : Nat} {x : X} : exec ns C (.asg i x) ρ H = vh (ev ns C x ρ H) fun v H => if i < ρ.length then some (.next, ρ.set i v, H) else none := rfl
@[simp] theorem ex_asgT_eq {is : List Nat} {xs : Xs} : exec ns C (.asgT is xs) ρ H = vh (evs ns C xs ρ H) fun vs H => oh (setAll is vs ρ) fun ρ => some (.next, ρ, H) := rfl
@[simp] theorem ex_setA_eq {o : X} {n : Nat} {x : X} : exec ns C (.setA o n x) ρ H = vh (ev ns C x ρ H) fun v H => vh (ev ns C o ρ H) fun u H => oh (setAV H n v u) fun H => some (.next, ρ, H) := rfl
@[simp] theorem ex_setI_eq {o : X} {i : X} {x : X} : exec ns C (.setI o i x) ρ H = vh (ev ns C x ρ H) fun v H => vh (ev ns C o ρ H) fun u H => vh (ev ns C i ρ H) fun j H => oh (setIV H v u j) fun H => some (.next, ρ, H) := rfl
@[simp] theorem ex_setTA_eq {o : Nat} {fs : List Nat} {xs : Xs} : exec ns C (.setTA o fs xs) ρ H = vh (evs ns C xs ρ H) fun vs H => vh (ev ns C (.var o) ρ H) fun u H' => oh (setAs u fs vs H') fun H => some (.next, ρ, H) := rfl
@[simp] theorem ex_setTI_eq {o1 : X} {i1 : X} {o2 : X} {i2 : X} {x1 : X} {x2 : X} : exec ns C (.setTI o1 i1 o2 i2 x1 x2) ρ H = vh (ev ns C x1 ρ H) fun v1 H => vh (ev ns C x2 ρ H) fun v2 H => vh (ev ns C o1 ρ H) fun u1 H => vh (ev ns C i1 ρ H) fun j1 H => oh (setIV H v1 u1 j1) fun H => vh (ev ns C o2 ρ H) fun u2 H => vh (ev ns C i2 ρ H) fun j2 H => oh (setIV H v2 u2 j2) fun H => some (.next, ρ, H) := rfl
@[simp] theorem ex_app_eq {o : X} {x : X} : exec ns C (.app o x) ρ H = ph (ev ns C o ρ H) fun l H => gl (getO H l) fun _ => vh (ev ns C x ρ H) fun v H => gl (getO H l) fun xs => if xs.length < big then some (.next, ρ, H.set l (.lst (xs ++ [v]))) else none := rfl
@[simp] theorem ex_ini_eq {f : Nat} {xs : Xs} : exec ns C (.ini f xs) ρ H = vh (evs ns C xs ρ H) fun vs H => nh (C f vs H) fun H => some (.next, ρ, H) := rfl
@[simp] theorem ex_ifs_eq {c : X} {a : S} {b : S} : exec ns C (.ifs c a b) ρ H = bh (ev ns C c ρ H) fun t H => match t with
    | true => exec ns C a ρ H
    | false => exec ns C b ρ H := rfl
@[simp] theorem ex_whl_eq {n : Nat} {c : X} {b : S} : exec ns C (.whl n c b) ρ H = whileLoop (fun ρ H => ev ns C c ρ H) (fun ρ H => exec ns C b ρ H) n ρ H := rfl
@[simp] theorem ex_forL_eq {i : Nat} {x : X} {b : S} : exec ns C (.forL i x b) ρ H = lh (ev ns C x ρ H) fun xs H => if i < ρ.length then forLoop (fun v ρ H => exec ns C b (ρ.set i v) H) (xs.map .d) ρ H else none := rfl
@[simp] theorem ex_forR_eq {i : Nat} {x : X} {b : S} : exec ns C (.forR i x b) ρ H = ih (ev ns C x ρ H) fun n H => if i < ρ.length ∧ 0 ≤ n ∧ n ≤ big then forLoop (fun v ρ H => exec ns C b (ρ.set i v) H) (rangeV n) ρ H else none := rfl
@[simp] theorem ex_forE_eq {i : Nat} {j : Nat} {x : X} {b : S} : exec ns C (.forE i j x b) ρ H = lh (ev ns C x ρ H) fun xs H => if (i < ρ.length && j < ρ.length) = true then forLoopE (fun k v ρ H => exec ns C b ((ρ.set i (.d (.int (k : Nat)))).set j v) H) 0 (xs.map .d) ρ H else none := rfl
@[simp] theorem ex_ret_eq {x : X} : exec ns C (.ret x) ρ H = vh (ev ns C x ρ H) fun v H => some (.ret v, ρ, H) := rfl
@[simp] theorem ex_killV_eq {i : Nat} : exec ns C (.killV i) ρ H = oh ρ[i]? fun v => lv v fun l => oh (killO (getO H l)) fun d => some (.next, ρ.set i (.d d), H.set l .dead) := rfl
/-! ## values, for simp -/
@[simp] theorem cond_t {α : Type} {a b : α} : (match true with | true => a | false => b) = a := rfl
@[simp] theorem toDs_nil : toDs [] = some [] := rfl
@[simp] theorem toDs_d {x : D} {vs : List V} : toDs (.d x :: vs) = oh (toDs vs) fun xs => some (x :: xs) := rfl
@[simp] theorem toD_d {x : D} : V.toD (.d x) = some x := rfl
@[simp] theorem frz_d {k : Nat} {H : List O} {x : D} : frz k H (.d x) = some x := by cases k <;> rfl
@[simp] theorem mapO_nil {f : V → Option D} : mapO f [] = some [] := rfl
@[simp] theorem mapO_cons {f : V → Option D} {v : V} {vs : List V} : mapO f (v :: vs) = oh (f v) fun x => oh (mapO f vs) fun xs => some (x :: xs) := rfl
@[simp] theorem eqD_int {k : Nat} {a b : Int} : eqD (k + 1) (.int a) (.int b) = some (a == b) := rfl
@[simp] theorem eqD_lst {k : Nat} {a b : List D} : eqD (k + 1) (.lst a) (.lst b) = eqL (eqD k) a b := rfl
@[simp] theorem eqD_nn {k : Nat} : eqD (k + 1) .none .none = some true := rfl
@[simp] theorem eqD_bool {k : Nat} {a b : Bool} : eqD (k + 1) (.bool a) (.bool b) = some (a == b) := rfl
@[simp] theorem eqD_str {k : Nat} {a b : Str} : eqD (k + 1) (.str a) (.str b) = some (a == b) := rfl
@[simp] theorem eqD_bytes {k : Nat} {a b : List UInt8} : eqD (k + 1) (.bytes a) (.bytes b) = some (a == b) := rfl
@[simp] theorem eqD_tup {k : Nat} {a b : List D} : eqD (k + 1) (.tup a) (.tup b) = eqL (eqD k) a b := rfl
@[simp] theorem eqD_nt {k : Nat} {b : List D} : eqD (k + 1) .none (.tup b) = some false := rfl
@[simp] theorem eqD_tn {k : Nat} {b : List D} : eqD (k + 1) (.tup b) .none = some false := rfl
@[simp] theorem seqD_lst {b : List D} : seqD (.lst b) = some b := rfl
@[simp] theorem seqD_tup {b : List D} : seqD (.tup b) = some b := rfl
@[simp] theorem ints_nil : intsOf [] = some [] := rfl
@[simp] theorem ints_cons {i : Int} {r : List D} : intsOf (.int i :: r) = oh (intsOf r) fun is => some (i :: is) := rfl
@[simp] theorem gt_0 : gtab[0]? = some (.int 6) := rfl
@[simp] theorem gt_1 : gtab[1]? = some (.int 8) := rfl
@[simp] theorem gt_2 : gtab[2]? = some (.int 9) := rfl
@[simp] theorem gt_3 : gtab[3]? = some (.int 9) := rfl
@[simp] theorem gt_4 : gtab[4]? = some (.int 18) := rfl
@[simp] theorem gt_5 : gtab[5]? = some (.int 0) := rfl
@[simp] theorem gt_6 : gtab[6]? = some (.int 6) := rfl
@[simp] theorem gt_7 : gtab[7]? = some (.int 14) := rfl
@[simp] theorem gt_8 : gtab[8]? = some (.int 23) := rfl
@[simp] theorem gt_9 : gtab[9]? = some (.int 14) := rfl
@[simp] theorem gt_10 : gtab[10]? = some (.int 262143) := rfl
@[simp] theorem gt_11 : gtab[11]? = some (.int 131071) := rfl
@[simp] theorem gt_12 : gtab[12]? = some (.int 4294967295) := rfl
@[simp] theorem gt_13 : gtab[13]? = some (.int 0) := rfl
@[simp] theorem gt_14 : gtab[14]? = some (.int 1) := rfl
@[simp] theorem gt_15 : gtab[15]? = some (.int 2) := rfl
@[simp] theorem gt_16 : gtab[16]? = some (.int 19) := rfl
@[simp] theorem gt_17 : gtab[17]? = some (.int 22) := rfl
@[simp] theorem gt_18 : gtab[18]? = some (.int 23) := rfl
@[simp] theorem gt_19 : gtab[19]? = some (.int 24) := rfl
@[simp] theorem gt_20 : gtab[20]? = some (.int 25) := rfl
@[simp] theorem gt_21 : gtab[21]? = some (.int 26) := rfl
@[simp] theorem gt_22 : gtab[22]? = some (.int 27) := rfl
@[simp] theorem gt_23 : gtab[23]? = some (.int 30) := rfl
@[simp] theorem gt_24 : gtab[24]? = some (.int 31) := rfl
@[simp] theorem gt_25 : gtab[25]? = some (.int 32) := rfl
@[simp] theorem gt_26 : gtab[26]? = some (.int 33) := rfl
@[simp] theorem gt_27 : gtab[27]? = some (.int 34) := rfl
@[simp] theorem gt_28 : gtab[28]? = some (.int 36) := rfl
@[simp] theorem gt_29 : gtab[29]? = some (.tup [.int 23, .int 24, .int 25, .int 26, .int 27]) := rfl
end Mine
end

/-! ### Prog -/
section
set_option tactic.hygienic false
set_option genSizeOf false
set_option bootstrap.genMatcherCode false
open PySem
namespace Mine
/-- 0: field; slots word pos size -/
noncomputable def b_field : S := (.seq (.ret (.bin .band (.bin .shr (.var 0) (.var 1)) (.bin .sub (.bin .shl (.cst (.int 1)) (.var 2)) (.cst (.int 1)))))
  .skip)
/-- 1: with_field; slots word value pos size mask -/
noncomputable def b_with_field : S := (.seq (.asg 4 (.bin .shl (.bin .sub (.bin .shl (.cst (.int 1)) (.var 3)) (.cst (.int 1))) (.var 2)))
  (.seq (.ret (.bin .bor (.bin .band (.bin .band (.var 0) (.inv (.var 4))) (.glob 12)) (.bin .band (.bin .shl (.var 1) (.var 2)) (.var 4))))
  .skip))
/-- 2: create_abc; slots op a b c -/
noncomputable def b_create_abc : S := (.seq (.ret (.bin .bor (.bin .bor (.bin .bor (.bin .shl (.var 0) (.glob 5)) (.bin .shl (.var 1) (.glob 6))) (.bin .shl (.var 2) (.glob 8))) (.bin .shl (.var 3) (.glob 7))))
  .skip)
/-- 3: create_abx; slots op a bx -/
noncomputable def b_create_abx : S := (.seq (.ret (.bin .bor (.bin .bor (.bin .shl (.var 0) (.glob 5)) (.bin .shl (.var 1) (.glob 6))) (.bin .shl (.var 2) (.glob 9))))
  .skip)
/-- 4: create_asbx; slots op a sbx -/
noncomputable def b_create_asbx : S := (.seq (.ret (.call 3 (.cons (.var 0) (.cons (.var 1) (.cons (.bin .add (.var 2) (.glob 11)) .nil)))))
  .skip)
/-- 5: get_op; slots word -/
noncomputable def b_get_op : S := (.seq (.ret (.call 0 (.cons (.var 0) (.cons (.glob 5) (.cons (.glob 0) .nil)))))
  .skip)
/-- 6: get_a; slots word -/
noncomputable def b_get_a : S := (.seq (.ret (.call 0 (.cons (.var 0) (.cons (.glob 6) (.cons (.glob 1) .nil)))))
  .skip)
/-- 7: get_b; slots word -/
noncomputable def b_get_b : S := (.seq (.ret (.call 0 (.cons (.var 0) (.cons (.glob 8) (.cons (.glob 2) .nil)))))
  .skip)
/-- 8: get_c; slots word -/
noncomputable def b_get_c : S := (.seq (.ret (.call 0 (.cons (.var 0) (.cons (.glob 7) (.cons (.glob 3) .nil)))))
  .skip)
/-- 9: get_bx; slots word -/
noncomputable def b_get_bx : S := (.seq (.ret (.call 0 (.cons (.var 0) (.cons (.glob 9) (.cons (.glob 4) .nil)))))
  .skip)
/-- 10: get_sbx; slots word -/
noncomputable def b_get_sbx : S := (.seq (.ret (.bin .sub (.call 9 (.cons (.var 0) .nil)) (.glob 11)))
  .skip)
/-- 11: set_bx; slots word bx -/
noncomputable def b_set_bx : S := (.seq (.ret (.call 1 (.cons (.var 0) (.cons (.var 1) (.cons (.glob 9) (.cons (.glob 4) .nil))))))
  .skip)
/-- 12: set_sbx; slots word sbx -/
noncomputable def b_set_sbx : S := (.seq (.ret (.call 11 (.cons (.var 0) (.cons (.bin .add (.var 1) (.glob 11)) .nil))))
  .skip)
/-- 13: HeapObject.__init__; slots self number size -/
noncomputable def b_HeapObject_init : S := (.seq (.setA (.var 0) 3 (.var 1))
  (.seq (.setA (.var 0) 4 (.cst (.int 0)))
  (.seq (.setA (.var 0) 5 (.var 2))
  .skip)))
/-- 14: LocalVar.__init__; slots self name start end -/
noncomputable def b_LocalVar_init : S := (.seq (.setA (.var 0) 0 (.var 1))
  (.seq (.setA (.var 0) 1 (.var 2))
  (.seq (.setA (.var 0) 2 (.var 3))
  .skip)))
/-- 15: Proto.__init__; slots self -/
noncomputable def b_Proto_init : S := (.seq (.ini 13 (.cons (.var 0) (.cons (.cst (.int 0)) (.cons (.cst (.int 0)) .nil))))
  (.seq (.setA (.var 0) 6 (.list .nil))
  (.seq (.setA (.var 0) 7 (.list .nil))
  (.seq (.setA (.var 0) 8 (.list .nil))
  (.seq (.setA (.var 0) 9 (.list .nil))
  (.seq (.setA (.var 0) 10 (.list .nil))
  (.seq (.setA (.var 0) 11 (.list .nil))
  (.seq (.setA (.var 0) 12 (.cst (.bytes [])))
  (.seq (.setA (.var 0) 13 (.cst (.int 0)))
  (.seq (.setA (.var 0) 14 (.cst (.int 0)))
  (.seq (.setA (.var 0) 15 (.cst (.int 0)))
  (.seq (.setA (.var 0) 16 (.cst (.int 0)))
  (.seq (.setA (.var 0) 17 (.cst (.int 0)))
  (.seq (.setA (.var 0) 18 (.cst (.int 2)))
  .skip))))))))))))))
/-- 16: Block.__init__; slots self first last after -/
noncomputable def b_Block_init : S := (.seq (.setA (.var 0) 19 (.var 1))
  (.seq (.setA (.var 0) 20 (.var 2))
  (.seq (.setA (.var 0) 21 (.var 3))
  .skip)))
/-- 17: words_of; slots p pc i -/
noncomputable def b_words_of : S := (.seq (.asg 2 (.idx (.attr (.var 0) 6) (.var 1)))
  (.seq (.ifs (.cmp .eq (.call 5 (.cons (.var 2) .nil)) (.glob 28)) (.seq (.ret (.bin .add (.cst (.int 1)) (.attr (.idx (.attr (.var 0) 8) (.call 9 (.cons (.var 2) .nil))) 15)))
  .skip) .skip)
  (.seq (.ifs (.bop true (.cons (.cmp .eq (.call 5 (.cons (.var 2) .nil)) (.glob 27)) (.cons (.cmp .eq (.call 8 (.cons (.var 2) .nil)) (.cst (.int 0))) .nil))) (.seq (.ret (.cst (.int 2)))
  .skip) .skip)
  (.seq (.ret (.cst (.int 1)))
  .skip))))
/-- 18: starts_of; slots p found pc -/
noncomputable def b_starts_of : S := (.seq (.asgT [1, 2] (.cons (.listM .nil) (.cons (.cst (.int 0)) .nil)))
  (.seq (.whl 40 (.cmp .lt (.var 2) (.len (.attr (.var 0) 6))) (.seq (.app (.var 1) (.var 2))
  (.seq (.asg 2 (.bin .add (.var 2) (.call 17 (.cons (.var 0) (.cons (.var 2) .nil)))))
  .skip)))
  (.seq (.ret (.var 1))
  .skip)))
/-- 19: target; slots p pc -/
noncomputable def b_target : S := (.seq (.ret (.bin .add (.bin .add (.var 1) (.cst (.int 1))) (.call 10 (.cons (.idx (.attr (.var 0) 6) (.var 1)) .nil))))
  .skip)
/-- 20: next_places; slots p pc i op later -/
noncomputable def b_next_places : S := (.seq (.asg 2 (.idx (.attr (.var 0) 6) (.var 1)))
  (.seq (.asgT [3, 4] (.cons (.call 5 (.cons (.var 2) .nil)) (.cons (.bin .add (.var 1) (.call 17 (.cons (.var 0) (.cons (.var 1) .nil)))) .nil)))
  (.seq (.ifs (.cmp .eq (.var 3) (.glob 23)) (.seq (.ret (.list .nil))
  .skip) .skip)
  (.seq (.ifs (.bop false (.cons (.cmp .eq (.var 3) (.glob 17)) (.cons (.cmp .eq (.var 3) (.glob 25)) .nil))) (.seq (.ret (.list (.cons (.call 19 (.cons (.var 0) (.cons (.var 1) .nil))) .nil)))
  .skip) .skip)
  (.seq (.ifs (.cmp .eq (.var 3) (.glob 24)) (.seq (.ret (.list (.cons (.call 19 (.cons (.var 0) (.cons (.var 1) .nil))) (.cons (.var 4) .nil))))
  .skip) .skip)
  (.seq (.ifs (.bop false (.cons (.cmp .isin (.var 3) (.glob 29)) (.cons (.cmp .eq (.var 3) (.glob 26)) .nil))) (.seq (.ret (.list (.cons (.var 4) (.cons (.bin .add (.var 4) (.cst (.int 1))) .nil))))
  .skip) .skip)
  (.seq (.ifs (.bop true (.cons (.cmp .eq (.var 3) (.glob 15)) (.cons (.cmp .ne (.call 8 (.cons (.var 2) .nil)) (.cst (.int 0))) .nil))) (.seq (.ret (.list (.cons (.bin .add (.var 4) (.cst (.int 1))) .nil)))
  .skip) .skip)
  (.seq (.ret (.list (.cons (.var 4) .nil)))
  .skip))))))))
/-- 21: leaders; slots p found pc places later place -/
noncomputable def b_leaders : S := (.seq (.asg 1 (.dictM [(0, true)]))
  (.seq (.forL 2 (.call 18 (.cons (.var 0) .nil)) (.seq (.asgT [3, 4] (.cons (.call 20 (.cons (.var 0) (.cons (.var 2) .nil))) (.cons (.bin .add (.var 2) (.call 17 (.cons (.var 0) (.cons (.var 2) .nil)))) .nil)))
  (.seq (.ifs (.cmp .ne (.var 3) (.list (.cons (.var 4) .nil))) (.seq (.forL 5 (.var 3) (.seq (.setI (.var 1) (.var 5) (.cst (.bool true)))
  .skip))
  (.seq (.setI (.var 1) (.var 4) (.cst (.bool true)))
  .skip)) .skip)
  .skip)))
  (.seq (.ret (.sorted (.comp 2 (.var 1) (.cons (.cmp .lt (.var 6) (.len (.attr (.var 0) 6))) .nil) (.var 6))))
  .skip)))
/-- 22: basic_blocks; slots p firsts places found numbers number place first end last after -/
noncomputable def b_basic_blocks : S := (.seq (.asgT [1, 2, 3, 4] (.cons (.call 21 (.cons (.var 0) .nil)) (.cons (.call 18 (.cons (.var 0) .nil)) (.cons (.listM .nil) (.cons (.dictM []) .nil)))))
  (.seq (.forE 5 6 (.var 1) (.seq (.setI (.var 4) (.var 6) (.var 5))
  .skip))
  (.seq (.forE 5 7 (.var 1) (.seq (.asg 8 (.ite (.cmp .lt (.bin .add (.var 5) (.cst (.int 1))) (.len (.var 1))) (.idx (.var 1) (.bin .add (.var 5) (.cst (.int 1)))) (.len (.attr (.var 0) 6))))
  (.seq (.asg 9 (.idx (.comp 0 (.var 2) (.cons (.cmp2 .le .lt (.var 7) (.var 11) (.var 8)) .nil) (.var 11)) (.cst (.int (-1)))))
  (.seq (.asg 10 (.comp 0 (.call 20 (.cons (.var 0) (.cons (.var 9) .nil))) (.cons (.cmp .isin (.var 11) (.var 4)) .nil) (.idx (.var 4) (.var 11))))
  (.seq (.app (.var 3) (.new 2 (.cons (.var 7) (.cons (.var 9) (.cons (.var 10) .nil)))))
  .skip)))))
  (.seq (.ret (.var 3))
  .skip))))
/-- 23: copied; slots p found -/
noncomputable def b_copied : S := (.seq (.asg 1 (.newM 1 .nil))
  (.seq (.setA (.var 1) 12 (.attr (.var 0) 12))
  (.seq (.setA (.var 1) 13 (.attr (.var 0) 13))
  (.seq (.setA (.var 1) 6 (.copyM (.attr (.var 0) 6)))
  (.seq (.setA (.var 1) 7 (.copy (.attr (.var 0) 7)))
  (.seq (.setA (.var 1) 8 (.copy (.attr (.var 0) 8)))
  (.seq (.setA (.var 1) 9 (.copy (.attr (.var 0) 9)))
  (.seq (.setA (.var 1) 10 (.comp 0 (.attr (.var 0) 10) .nil (.new 0 (.cons (.attr (.var 2) 0) (.cons (.attr (.var 2) 1) (.cons (.attr (.var 2) 2) .nil))))))
  (.seq (.setA (.var 1) 11 (.copy (.attr (.var 0) 11)))
  (.seq (.setA (.var 1) 14 (.attr (.var 0) 14))
  (.seq (.setA (.var 1) 15 (.attr (.var 0) 15))
  (.seq (.setA (.var 1) 16 (.attr (.var 0) 16))
  (.seq (.setA (.var 1) 17 (.attr (.var 0) 17))
  (.seq (.setA (.var 1) 18 (.attr (.var 0) 18))
  (.seq (.ret (.var 1))
  .skip)))))))))))))))
/-- 24: end_of_jumps; slots p pc seen place -/
noncomputable def b_end_of_jumps : S := (.seq (.asgT [2, 3] (.cons (.dictM []) (.cons (.call 19 (.cons (.var 0) (.cons (.var 1) .nil))) .nil)))
  (.seq (.whl 40 (.bop true (.cons (.cmp .eq (.call 5 (.cons (.idx (.attr (.var 0) 6) (.var 3)) .nil)) (.glob 17)) (.cons (.cmp .notin (.var 3) (.var 2)) .nil))) (.seq (.setI (.var 2) (.var 3) (.cst (.bool true)))
  (.seq (.asg 3 (.call 19 (.cons (.var 0) (.cons (.var 3) .nil))))
  .skip)))
  (.seq (.ret (.ite (.cmp .isin (.var 3) (.var 2)) (.call 19 (.cons (.var 0) (.cons (.var 1) .nil))) (.var 3)))
  .skip)))
/-- 25: thread_jumps; slots p found pc -/
noncomputable def b_thread_jumps : S := (.seq (.asg 1 (.callI 23 (.cons (.var 0) .nil)))
  (.seq (.forL 2 (.call 18 (.cons (.var 0) .nil)) (.seq (.ifs (.cmp .eq (.call 5 (.cons (.idx (.attr (.var 0) 6) (.var 2)) .nil)) (.glob 17)) (.seq (.setI (.attr (.var 1) 6) (.var 2) (.call 12 (.cons (.idx (.attr (.var 0) 6) (.var 2)) (.cons (.bin .sub (.bin .sub (.call 24 (.cons (.var 0) (.cons (.var 2) .nil))) (.var 2)) (.cst (.int 1))) .nil))))
  .skip) .skip)
  .skip))
  (.seq (.setA (.var 1) 8 (.comp 0 (.attr (.var 0) 8) .nil (.call 25 (.cons (.var 3) .nil))))
  (.seq (.ret (.var 1))
  .skip))))
/-- 26: _law_take; slots box many drawn -/
noncomputable def b_law_take : S := (.seq (.ifs (.cmp .lt (.idx (.var 0) (.cst (.int 1))) (.len (.idx (.var 0) (.cst (.int 0))))) (.seq (.setI (.var 0) (.cst (.int 1)) (.bin .add (.idx (.var 0) (.cst (.int 1))) (.cst (.int 1))))
  (.seq (.asg 2 (.idx (.idx (.var 0) (.cst (.int 0))) (.bin .sub (.idx (.var 0) (.cst (.int 1))) (.cst (.int 1)))))
  (.seq (.setI (.var 0) (.cst (.int 2)) (.bin .mod (.bin .add (.bin .add (.bin .mul (.idx (.var 0) (.cst (.int 2))) (.cst (.int 69069))) (.bin .mod (.var 2) (.cst (.int 1000003)))) (.cst (.int 1))) (.cst (.int 4294967296))))
  (.seq (.ret (.bin .mod (.var 2) (.var 1)))
  .skip)))) .skip)
  (.seq (.setI (.var 0) (.cst (.int 2)) (.bin .mod (.bin .add (.bin .mul (.idx (.var 0) (.cst (.int 2))) (.cst (.int 69069))) (.cst (.int 12345))) (.cst (.int 4294967296))))
  (.seq (.ret (.bin .mod (.bin .fdiv (.idx (.var 0) (.cst (.int 2))) (.cst (.int 4096))) (.var 1)))
  .skip)))
/-- 27: _law_words; slots box many found form told bare at word goal -/
noncomputable def b_law_words : S := (.seq (.asgT [1, 2] (.cons (.bin .add (.cst (.int 2)) (.callI 26 (.cons (.var 0) (.cons (.cst (.int 9)) .nil)))) (.cons (.listM .nil) .nil)))
  (.seq (.whl 40 (.cmp .lt (.len (.var 2)) (.var 1)) (.seq (.asg 3 (.callI 26 (.cons (.var 0) (.cons (.cst (.int 7)) .nil))))
  (.seq (.ifs (.cmp .eq (.var 3) (.cst (.int 0))) (.seq (.app (.var 2) (.call 3 (.cons (.glob 14) (.cons (.callI 26 (.cons (.var 0) (.cons (.cst (.int 3)) .nil))) (.cons (.callI 26 (.cons (.var 0) (.cons (.cst (.int 4)) .nil))) .nil)))))
  .skip) (.seq (.ifs (.cmp .eq (.var 3) (.cst (.int 1))) (.seq (.app (.var 2) (.call 2 (.cons (.glob 13) (.cons (.callI 26 (.cons (.var 0) (.cons (.cst (.int 3)) .nil))) (.cons (.callI 26 (.cons (.var 0) (.cons (.cst (.int 3)) .nil))) (.cons (.cst (.int 0)) .nil))))))
  .skip) (.seq (.ifs (.cmp .eq (.var 3) (.cst (.int 4))) (.seq (.app (.var 2) (.call 2 (.cons (.glob 16) (.cons (.callI 26 (.cons (.var 0) (.cons (.cst (.int 3)) .nil))) (.cons (.callI 26 (.cons (.var 0) (.cons (.cst (.int 3)) .nil))) (.cons (.cst (.int 0)) .nil))))))
  .skip) (.seq (.ifs (.cmp .eq (.var 3) (.cst (.int 6))) (.seq (.asg 2 (.catM (.var 2) (.list (.cons (.call 2 (.cons (.glob 27) (.cons (.cst (.int 1)) (.cons (.cst (.int 1)) (.cons (.cst (.int 0)) .nil))))) (.cons (.call 4 (.cons (.glob 17) (.cons (.cst (.int 0)) (.cons (.callI 26 (.cons (.var 0) (.cons (.cst (.int 3)) .nil))) .nil)))) .nil)))))
  .skip) (.seq (.ifs (.cmp .eq (.var 3) (.cst (.int 5))) (.seq (.app (.var 2) (.call 2 (.cons (.glob 21) (.cons (.callI 26 (.cons (.var 0) (.cons (.cst (.int 3)) .nil))) (.cons (.cst (.int 0)) (.cons (.callI 26 (.cons (.var 0) (.cons (.cst (.int 2)) .nil))) .nil))))))
  .skip) .skip)
  (.seq (.app (.var 2) (.tup (.cons (.cst (.str (Str.ofString "jump"))) (.cons (.callI 26 (.cons (.var 0) (.cons (.var 1) .nil))) .nil))))
  .skip)))
  .skip))
  .skip))
  .skip))
  .skip)))
  (.seq (.app (.var 2) (.call 2 (.cons (.glob 23) (.cons (.callI 26 (.cons (.var 0) (.cons (.cst (.int 3)) .nil))) (.cons (.cst (.int 2)) (.cons (.cst (.int 0)) .nil))))))
  (.seq (.killV 2)
  (.seq (.asgT [4, 5] (.cons (.listM .nil) (.cons (.call 28 (.cons (.var 2) .nil)) .nil)))
  (.seq (.forE 6 7 (.var 2) (.seq (.ifs (.isTup (.var 7)) (.seq (.asg 8 (.ite (.cmp .isin (.idx (.var 7) (.cst (.int 1))) (.var 5)) (.bin .add (.idx (.var 7) (.cst (.int 1))) (.cst (.int 1))) (.idx (.var 7) (.cst (.int 1)))))
  (.seq (.asg 7 (.call 4 (.cons (.glob 17) (.cons (.cst (.int 0)) (.cons (.bin .sub (.bin .sub (.var 8) (.var 6)) (.cst (.int 1))) .nil)))))
  .skip)) .skip)
  (.seq (.app (.var 4) (.var 7))
  .skip)))
  (.seq (.ret (.kill (.var 4)))
  .skip)))))))
/-- 28: _law_bare; slots words found at -/
noncomputable def b_law_bare : S := (.seq (.asgT [1, 2] (.cons (.listM .nil) (.cons (.cst (.int 0)) .nil)))
  (.seq (.whl 40 (.cmp .lt (.var 2) (.len (.var 0))) (.seq (.ifs (.bop true (.cons (.not (.isTup (.idx (.var 0) (.var 2)))) (.cons (.cmp .eq (.call 5 (.cons (.idx (.var 0) (.var 2)) .nil)) (.glob 27)) .nil))) (.seq (.app (.var 1) (.bin .add (.var 2) (.cst (.int 1))))
  (.seq (.asg 2 (.bin .add (.var 2) (.cst (.int 1))))
  .skip)) .skip)
  (.seq (.asg 2 (.bin .add (.var 2) (.cst (.int 1))))
  .skip)))
  (.seq (.ret (.var 1))
  .skip)))
/-- 29: _law_made; slots words found -/
noncomputable def b_law_made : S := (.seq (.asg 1 (.newM 1 .nil))
  (.seq (.setA (.var 1) 6 (.copy (.var 0)))
  (.seq (.setA (.var 1) 7 (.list (.cons (.cst .none) (.cons (.cst (.bool false)) (.cons (.cst (.int 0)) (.cons (.cst (.bytes [120])) .nil))))))
  (.seq (.setA (.var 1) 9 (.comp 1 (.len (.var 0)) .nil (.bin .add (.bin .mul (.cst (.int 3)) (.var 2)) (.cst (.int 1)))))
  (.seq (.setA (.var 1) 10 (.list (.cons (.new 0 (.cons (.cst (.bytes [118])) (.cons (.cst (.int 0)) (.cons (.len (.var 0)) .nil)))) .nil)))
  (.seq (.setTA 1 [12, 13, 14, 18] (.cons (.cst (.bytes [61, 115])) (.cons (.cst (.int 4)) (.cons (.cst (.int 9)) (.cons (.cst (.int 7)) .nil)))))
  (.seq (.setTA 1 [11, 15, 16, 17] (.cons (.list (.cons (.cst (.bytes [117])) .nil)) (.cons (.cst (.int 1)) (.cons (.cst (.int 2)) (.cons (.cst (.int 3)) .nil)))))
  (.seq (.ret (.var 1))
  .skip))))))))
/-- 30: _law_rest; slots p told -/
noncomputable def b_law_rest : S := (.seq (.asg 1 (.comp 0 (.attr (.var 0) 10) .nil (.tup (.cons (.attr (.var 2) 0) (.cons (.attr (.var 2) 1) (.cons (.attr (.var 2) 2) .nil))))))
  (.seq (.ret (.list (.cons (.attr (.var 0) 7) (.cons (.attr (.var 0) 9) (.cons (.var 1) (.cons (.attr (.var 0) 12) (.cons (.attr (.var 0) 13) (.cons (.attr (.var 0) 14) (.cons (.attr (.var 0) 18) (.cons (.attr (.var 0) 11) (.cons (.attr (.var 0) 15) (.cons (.attr (.var 0) 16) (.cons (.attr (.var 0) 17) .nil)))))))))))))
  .skip))
/-- 31: _law_run; slots words kept at turn word -/
noncomputable def b_law_run : S := (.seq (.asgT [1, 2] (.cons (.listM (.cons (.cst .none) (.cons (.cst .none) (.cons (.cst .none) .nil)))) (.cons (.cst (.int 0)) .nil)))
  (.seq (.forR 3 (.cst (.int 60)) (.seq (.asg 4 (.idx (.var 0) (.var 2)))
  (.seq (.asg 2 (.bin .add (.var 2) (.cst (.int 1))))
  (.seq (.ifs (.cmp .eq (.call 5 (.cons (.var 4) .nil)) (.glob 14)) (.seq (.setI (.var 1) (.call 6 (.cons (.var 4) .nil)) (.idx (.list (.cons (.cst .none) (.cons (.cst (.bool false)) (.cons (.cst (.int 0)) (.cons (.cst (.bytes [120])) .nil))))) (.call 9 (.cons (.var 4) .nil))))
  .skip) (.seq (.ifs (.cmp .eq (.call 5 (.cons (.var 4) .nil)) (.glob 13)) (.seq (.setI (.var 1) (.call 6 (.cons (.var 4) .nil)) (.idx (.var 1) (.call 7 (.cons (.var 4) .nil))))
  .skip) (.seq (.ifs (.cmp .eq (.call 5 (.cons (.var 4) .nil)) (.glob 16)) (.seq (.setI (.var 1) (.call 6 (.cons (.var 4) .nil)) (.not (.call 32 (.cons (.idx (.var 1) (.call 7 (.cons (.var 4) .nil))) .nil))))
  .skip) (.seq (.ifs (.cmp .eq (.call 5 (.cons (.var 4) .nil)) (.glob 21)) (.seq (.asg 2 (.bin .add (.var 2) (.toInt (.cmp .ne (.call 32 (.cons (.idx (.var 1) (.call 6 (.cons (.var 4) .nil))) .nil)) (.cmp .ne (.call 8 (.cons (.var 4) .nil)) (.cst (.int 0)))))))
  .skip) (.seq (.ifs (.cmp .eq (.call 5 (.cons (.var 4) .nil)) (.glob 17)) (.seq (.asg 2 (.bin .add (.var 2) (.call 10 (.cons (.var 4) .nil))))
  .skip) (.seq (.ifs (.cmp .eq (.call 5 (.cons (.var 4) .nil)) (.glob 27)) (.seq (.asg 2 (.bin .add (.var 2) (.cst (.int 1))))
  .skip) (.seq (.ret (.tup (.cons (.repr (.idx (.var 1) (.call 6 (.cons (.var 4) .nil)))) .nil)))
  .skip))
  .skip))
  .skip))
  .skip))
  .skip))
  .skip))
  .skip))))
  (.seq (.ret (.cst .none))
  .skip)))
/-- 32: _law_is_true; slots value -/
noncomputable def b_law_is_true : S := (.seq (.ret (.bop true (.cons (.cmp .isnot (.var 0) (.cst .none)) (.cons (.bop false (.cons (.not (.isBool (.var 0))) (.cons (.var 0) .nil))) .nil))))
  .skip)
/-- 33: _law_end; slots words at first place turn -/
noncomputable def b_law_end : S := (.seq (.asg 2 (.bin .add (.bin .add (.var 1) (.cst (.int 1))) (.call 10 (.cons (.idx (.var 0) (.var 1)) .nil))))
  (.seq (.asg 3 (.var 2))
  (.seq (.forR 4 (.len (.var 0)) (.seq (.ifs (.cmp .eq (.call 5 (.cons (.idx (.var 0) (.var 3)) .nil)) (.glob 17)) (.seq (.asg 3 (.bin .add (.bin .add (.var 3) (.cst (.int 1))) (.call 10 (.cons (.idx (.var 0) (.var 3)) .nil))))
  .skip) .skip)
  .skip))
  (.seq (.ret (.ite (.cmp .eq (.call 5 (.cons (.idx (.var 0) (.var 3)) .nil)) (.glob 17)) (.var 2) (.var 3)))
  .skip))))
/-- 34: _law_is_right; slots words later bare at word is_led due one other -/
noncomputable def b_law_is_right : S := (.seq (.ifs (.cmp .ne (.len (.var 0)) (.len (.var 1))) (.seq (.ret (.cst (.bool false)))
  .skip) .skip)
  (.seq (.asg 2 (.call 28 (.cons (.var 0) .nil)))
  (.seq (.forE 3 4 (.var 0) (.seq (.asg 5 (.bop true (.cons (.cmp .eq (.call 5 (.cons (.var 4) .nil)) (.glob 17)) (.cons (.cmp .notin (.var 3) (.var 2)) .nil))))
  (.seq (.asg 6 (.ite (.var 5) (.call 4 (.cons (.glob 17) (.cons (.cst (.int 0)) (.cons (.bin .sub (.bin .sub (.call 33 (.cons (.var 0) (.cons (.var 3) .nil))) (.var 3)) (.cst (.int 1))) .nil)))) (.var 4)))
  (.seq (.ifs (.cmp .ne (.idx (.var 1) (.var 3)) (.var 6)) (.seq (.ret (.cst (.bool false)))
  .skip) .skip)
  .skip))))
  (.seq (.asgT [7, 8] (.cons (.call 31 (.cons (.var 0) .nil)) (.cons (.call 31 (.cons (.var 1) .nil)) .nil)))
  (.seq (.ret (.bop false (.cons (.cmp .eq (.var 7) (.var 8)) (.cons (.cmp .is (.var 7) (.cst .none)) .nil))))
  .skip)))))
/-- 35: _law_after; slots words at op later -/
noncomputable def b_law_after : S := (.seq (.asgT [2, 3] (.cons (.call 5 (.cons (.idx (.var 0) (.var 1)) .nil)) (.cons (.bin .add (.var 1) (.ite (.cmp .eq (.call 5 (.cons (.idx (.var 0) (.var 1)) .nil)) (.glob 27)) (.cst (.int 2)) (.cst (.int 1)))) .nil)))
  (.seq (.ifs (.cmp .eq (.var 2) (.glob 23)) (.seq (.ret (.list .nil))
  .skip) .skip)
  (.seq (.ifs (.cmp .eq (.var 2) (.glob 17)) (.seq (.ret (.list (.cons (.bin .add (.bin .add (.var 1) (.cst (.int 1))) (.call 10 (.cons (.idx (.var 0) (.var 1)) .nil))) .nil)))
  .skip) .skip)
  (.seq (.ret (.ite (.cmp .eq (.var 2) (.glob 21)) (.list (.cons (.var 3) (.cons (.bin .add (.var 3) (.cst (.int 1))) .nil))) (.list (.cons (.var 3) .nil))))
  .skip))))
/-- 36: _law_blocks; slots words bare places firsts number at later found -/
noncomputable def b_law_blocks : S := (.seq (.asg 1 (.call 28 (.cons (.var 0) .nil)))
  (.seq (.asg 2 (.comp 1 (.len (.var 0)) (.cons (.cmp .notin (.var 8) (.var 1)) .nil) (.var 8)))
  (.seq (.asg 3 (.list (.cons (.cst (.int 0)) .nil)))
  (.seq (.forE 4 5 (.var 2) (.seq (.asg 6 (.sl (.var 2) (.bin .add (.var 4) (.cst (.int 1))) (.bin .add (.var 4) (.cst (.int 2)))))
  (.seq (.ifs (.cmp .ne (.call 35 (.cons (.var 0) (.cons (.var 5) .nil))) (.var 6)) (.seq (.asg 3 (.cat (.cat (.var 3) (.call 35 (.cons (.var 0) (.cons (.var 5) .nil)))) (.var 6)))
  .skip) .skip)
  .skip)))
  (.seq (.asg 7 (.listM .nil))
  (.seq (.forL 5 (.var 2) (.seq (.ifs (.cmp .isin (.var 5) (.var 3)) (.seq (.app (.var 7) (.listM (.cons (.var 5) (.cons (.var 5) (.cons (.list .nil) .nil)))))
  .skip) .skip)
  (.seq (.setTI (.idx (.var 7) (.cst (.int (-1)))) (.cst (.int 1)) (.idx (.var 7) (.cst (.int (-1)))) (.cst (.int 2)) (.var 5) (.call 35 (.cons (.var 0) (.cons (.var 5) .nil))))
  .skip)))
  (.seq (.ret (.var 7))
  .skip)))))))
/-- 37: _law_blocks_right; slots p told starts -/
noncomputable def b_law_blocks_right : S := (.seq (.asg 1 (.call 22 (.cons (.var 0) .nil)))
  (.seq (.asg 2 (.comp 0 (.var 1) .nil (.attr (.var 3) 19)))
  (.seq (.ret (.cmp .eq (.comp 0 (.var 1) .nil (.list (.cons (.attr (.var 3) 19) (.cons (.attr (.var 3) 20) (.cons (.comp 0 (.attr (.var 3) 21) .nil (.idx (.var 2) (.var 4))) .nil))))) (.call 36 (.cons (.attr (.var 0) 6) .nil))))
  .skip)))
/-- 38: law; slots script box outer inner given found -/
noncomputable def b_law : S := (.seq (.asg 1 (.listM (.cons (.sl0 (.var 0) (.cst (.int 24))) (.cons (.cst (.int 0)) (.cons (.cst (.int 7)) .nil)))))
  (.seq (.asgT [2, 3] (.cons (.callI 27 (.cons (.var 1) .nil)) (.cons (.callI 27 (.cons (.var 1) .nil)) .nil)))
  (.seq (.asg 4 (.callI 29 (.cons (.var 2) .nil)))
  (.seq (.setA (.var 4) 8 (.list (.cons (.call 29 (.cons (.var 3) .nil)) .nil)))
  (.seq (.killV 4)
  (.seq (.asg 5 (.call 25 (.cons (.var 4) .nil)))
  (.seq (.ifs (.bop false (.cons (.cmp .ne (.attr (.var 4) 6) (.var 2)) (.cons (.cmp .ne (.attr (.idx (.attr (.var 4) 8) (.cst (.int 0))) 6) (.var 3)) (.cons (.not (.call 37 (.cons (.var 4) .nil))) .nil)))) (.seq (.ret (.cst (.bool false)))
  .skip) .skip)
  (.seq (.ifs (.bop false (.cons (.cmp .ne (.call 30 (.cons (.var 5) .nil)) (.call 30 (.cons (.var 4) .nil))) (.cons (.cmp .ne (.call 30 (.cons (.idx (.attr (.var 5) 8) (.cst (.int 0))) .nil)) (.call 30 (.cons (.idx (.attr (.var 4) 8) (.cst (.int 0))) .nil))) .nil))) (.seq (.ret (.cst (.bool false)))
  .skip) .skip)
  (.seq (.ifs (.bop false (.cons (.not (.call 34 (.cons (.var 2) (.cons (.attr (.var 5) 6) .nil)))) (.cons (.not (.call 34 (.cons (.var 3) (.cons (.attr (.idx (.attr (.var 5) 8) (.cst (.int 0))) 6) .nil)))) .nil))) (.seq (.ret (.cst (.bool false)))
  .skip) .skip)
  (.seq (.ret (.cmp .eq (.attr (.call 25 (.cons (.var 5) .nil)) 6) (.attr (.var 5) 6)))
  .skip))))))))))
noncomputable def fns : List Fn := [
  ⟨3, 3, b_field⟩,
  ⟨4, 5, b_with_field⟩,
  ⟨4, 4, b_create_abc⟩,
  ⟨3, 3, b_create_abx⟩,
  ⟨3, 3, b_create_asbx⟩,
  ⟨1, 1, b_get_op⟩,
  ⟨1, 1, b_get_a⟩,
  ⟨1, 1, b_get_b⟩,
  ⟨1, 1, b_get_c⟩,
  ⟨1, 1, b_get_bx⟩,
  ⟨1, 1, b_get_sbx⟩,
  ⟨2, 2, b_set_bx⟩,
  ⟨2, 2, b_set_sbx⟩,
  ⟨3, 3, b_HeapObject_init⟩,
  ⟨4, 4, b_LocalVar_init⟩,
  ⟨1, 1, b_Proto_init⟩,
  ⟨4, 4, b_Block_init⟩,
  ⟨2, 3, b_words_of⟩,
  ⟨1, 3, b_starts_of⟩,
  ⟨2, 2, b_target⟩,
  ⟨2, 5, b_next_places⟩,
  ⟨1, 6, b_leaders⟩,
  ⟨1, 11, b_basic_blocks⟩,
  ⟨1, 2, b_copied⟩,
  ⟨2, 4, b_end_of_jumps⟩,
  ⟨1, 3, b_thread_jumps⟩,
  ⟨2, 3, b_law_take⟩,
  ⟨1, 9, b_law_words⟩,
  ⟨1, 3, b_law_bare⟩,
  ⟨1, 2, b_law_made⟩,
  ⟨1, 2, b_law_rest⟩,
  ⟨1, 5, b_law_run⟩,
  ⟨1, 1, b_law_is_true⟩,
  ⟨2, 5, b_law_end⟩,
  ⟨2, 9, b_law_is_right⟩,
  ⟨2, 4, b_law_after⟩,
  ⟨1, 8, b_law_blocks⟩,
  ⟨1, 3, b_law_blocks_right⟩,
  ⟨1, 6, b_law⟩]
/-- names of the slots -/
noncomputable def slotNames : List (List Str) := [
  [Str.ofString "word", Str.ofString "pos", Str.ofString "size"],
  [Str.ofString "word", Str.ofString "value", Str.ofString "pos", Str.ofString "size", Str.ofString "mask"],
  [Str.ofString "op", Str.ofString "a", Str.ofString "b", Str.ofString "c"],
  [Str.ofString "op", Str.ofString "a", Str.ofString "bx"],
  [Str.ofString "op", Str.ofString "a", Str.ofString "sbx"],
  [Str.ofString "word"],
  [Str.ofString "word"],
  [Str.ofString "word"],
  [Str.ofString "word"],
  [Str.ofString "word"],
  [Str.ofString "word"],
  [Str.ofString "word", Str.ofString "bx"],
  [Str.ofString "word", Str.ofString "sbx"],
  [Str.ofString "self", Str.ofString "number", Str.ofString "size"],
  [Str.ofString "self", Str.ofString "name", Str.ofString "start", Str.ofString "end"],
  [Str.ofString "self"],
  [Str.ofString "self", Str.ofString "first", Str.ofString "last", Str.ofString "after"],
  [Str.ofString "p", Str.ofString "pc", Str.ofString "i"],
  [Str.ofString "p", Str.ofString "found", Str.ofString "pc"],
  [Str.ofString "p", Str.ofString "pc"],
  [Str.ofString "p", Str.ofString "pc", Str.ofString "i", Str.ofString "op", Str.ofString "later"],
  [Str.ofString "p", Str.ofString "found", Str.ofString "pc", Str.ofString "places", Str.ofString "later", Str.ofString "place"],
  [Str.ofString "p", Str.ofString "firsts", Str.ofString "places", Str.ofString "found", Str.ofString "numbers", Str.ofString "number", Str.ofString "place", Str.ofString "first", Str.ofString "end", Str.ofString "last", Str.ofString "after"],
  [Str.ofString "p", Str.ofString "found"],
  [Str.ofString "p", Str.ofString "pc", Str.ofString "seen", Str.ofString "place"],
  [Str.ofString "p", Str.ofString "found", Str.ofString "pc"],
  [Str.ofString "box", Str.ofString "many", Str.ofString "drawn"],
  [Str.ofString "box", Str.ofString "many", Str.ofString "found", Str.ofString "form", Str.ofString "told", Str.ofString "bare", Str.ofString "at", Str.ofString "word", Str.ofString "goal"],
  [Str.ofString "words", Str.ofString "found", Str.ofString "at"],
  [Str.ofString "words", Str.ofString "found"],
  [Str.ofString "p", Str.ofString "told"],
  [Str.ofString "words", Str.ofString "kept", Str.ofString "at", Str.ofString "turn", Str.ofString "word"],
  [Str.ofString "value"],
  [Str.ofString "words", Str.ofString "at", Str.ofString "first", Str.ofString "place", Str.ofString "turn"],
  [Str.ofString "words", Str.ofString "later", Str.ofString "bare", Str.ofString "at", Str.ofString "word", Str.ofString "is_led", Str.ofString "due", Str.ofString "one", Str.ofString "other"],
  [Str.ofString "words", Str.ofString "at", Str.ofString "op", Str.ofString "later"],
  [Str.ofString "words", Str.ofString "bare", Str.ofString "places", Str.ofString "firsts", Str.ofString "number", Str.ofString "at", Str.ofString "later", Str.ofString "found"],
  [Str.ofString "p", Str.ofString "told", Str.ofString "starts"],
  [Str.ofString "script", Str.ofString "box", Str.ofString "outer", Str.ofString "inner", Str.ofString "given", Str.ofString "found"]]
/-- global names of the functions (methods have none) -/
noncomputable def fnNames : List Str := [Str.ofString "field", Str.ofString "with_field", Str.ofString "create_abc", Str.ofString "create_abx", Str.ofString "create_asbx", Str.ofString "get_op", Str.ofString "get_a", Str.ofString "get_b", Str.ofString "get_c", Str.ofString "get_bx", Str.ofString "get_sbx", Str.ofString "set_bx", Str.ofString "set_sbx", Str.ofString "", Str.ofString "", Str.ofString "", Str.ofString "", Str.ofString "words_of", Str.ofString "starts_of", Str.ofString "target", Str.ofString "next_places", Str.ofString "leaders", Str.ofString "basic_blocks", Str.ofString "copied", Str.ofString "end_of_jumps", Str.ofString "thread_jumps", Str.ofString "_law_take", Str.ofString "_law_words", Str.ofString "_law_bare", Str.ofString "_law_made", Str.ofString "_law_rest", Str.ofString "_law_run", Str.ofString "_law_is_true", Str.ofString "_law_end", Str.ofString "_law_is_right", Str.ofString "_law_after", Str.ofString "_law_blocks", Str.ofString "_law_blocks_right", Str.ofString "law"]
noncomputable def clsNames : List Str := [Str.ofString "LocalVar", Str.ofString "Proto", Str.ofString "Block"]
noncomputable def gNames : List Str := [Str.ofString "SIZE_OP", Str.ofString "SIZE_A", Str.ofString "SIZE_B", Str.ofString "SIZE_C", Str.ofString "SIZE_BX", Str.ofString "POS_OP", Str.ofString "POS_A", Str.ofString "POS_C", Str.ofString "POS_B", Str.ofString "POS_BX", Str.ofString "MAXARG_BX", Str.ofString "MAXARG_SBX", Str.ofString "MAX_WORD", Str.ofString "OP_MOVE", Str.ofString "OP_LOADK", Str.ofString "OP_LOADBOOL", Str.ofString "OP_NOT", Str.ofString "OP_JMP", Str.ofString "OP_EQ", Str.ofString "OP_LT", Str.ofString "OP_LE", Str.ofString "OP_TEST", Str.ofString "OP_TESTSET", Str.ofString "OP_RETURN", Str.ofString "OP_FORLOOP", Str.ofString "OP_FORPREP", Str.ofString "OP_TFORLOOP", Str.ofString "OP_SETLIST", Str.ofString "OP_CLOSURE", Str.ofString "TESTS"]
noncomputable def fnAddrs : List Nat := [28, 35, 42, 49, 56, 63, 70, 77, 84, 91, 98, 105, 112, 126, 147, 168, 209, 223, 230, 237, 244, 249, 254, 259, 266, 271, 278, 285, 292, 297, 302, 309, 316, 323, 330, 337, 342, 347, 354]
end Mine
end

/-! ### Rel -/
section
set_option tactic.hygienic false
set_option genSizeOf false
set_option bootstrap.genMatcherCode false
set_option genInjectivity false
open PySem PySem.W PyProof.Rows
set_option linter.unusedVariables false
namespace Mine

/-! ## what the abstract state says of the real heap -/
abbrev Mu := List (Addr × Addr)
noncomputable def O.live : O → Bool
  | .dead => false
  | _ => true
noncomputable def clsAddr : Nat → Addr
  | 0 => 150
  | 1 => 192
  | 2 => 212
  | _ => 0
noncomputable def fnames : List Str := [Str.ofString "name", Str.ofString "start", Str.ofString "end", Str.ofString "number", Str.ofString "mark", Str.ofString "size", Str.ofString "code", Str.ofString "constants", Str.ofString "protos",
  Str.ofString "line_info", Str.ofString "locals", Str.ofString "upvalue_names", Str.ofString "source", Str.ofString "line_defined", Str.ofString "last_line", Str.ofString "upvalue_count", Str.ofString "param_count",
  Str.ofString "is_vararg", Str.ofString "max_stack", Str.ofString "first", Str.ofString "last", Str.ofString "after"]
noncomputable def fname (n : Nat) : Str := fnames.getD n Str.empty

/-- entries of an object's dict: the fields, in their order -/
inductive Ents : List Nat → List DictEntry → Prop
  | nil {ns} : Ents ns []
  | cons {n ns e es t} : e.key = .str (fname n) t → Ents ns es → Ents (n :: ns) (e :: es)

mutual
inductive FR (B : Addr → Prop) (h : Heap) : D → Value → Prop
  | none : FR B h .none .none
  | bool (b) : FR B h (.bool b) (.bool b)
  | int (i t) : FR B h (.int i) (.int i t)
  | str (s t) : FR B h (.str s) (.str s t)
  | bytes (b t) : FR B h (.bytes b) (.bytes b.toArray t)
  | lst {a xs vs} : h.PlainList a vs.toArray → vs.length ≤ sizeLine → ¬ B a → FRs B h xs vs → FR B h (.lst xs) (.ref a)
  | tup {a xs vs} : h.IsTuple a vs.toArray → vs.length ≤ sizeLine → ¬ B a → FRs B h xs vs → FR B h (.tup xs) (.ref a)
  | obj {a c dx fs es n} : h.get? a = some (instObj (clsAddr c) dx) → h.get? dx = some (dictOf es n) → Ents (fieldsOf c) es → c < 3 → ¬ B a → ¬ B dx → FRs B h fs (es.map (·.val)) → FR B h (.obj c fs) (.ref a)
inductive FRs (B : Addr → Prop) (h : Heap) : List D → List Value → Prop
  | nil : FRs B h [] []
  | cons {x v xs vs} : FR B h x v → FRs B h xs vs → FRs B h (x :: xs) (v :: vs)
end

section
variable {h h' : Heap} {a : Addr} {vs : Array Value} {P : Prop}
theorem pl_up (p : h.PlainList a vs) (k : ∀ o, h.get? a = some o → h'.get? a = some o) : h'.PlainList a vs := p.elim fun n e => ⟨n, k _ e⟩
theorem pl_get (p : h.PlainList a vs) (k : ∀ o, h.get? a = some o → P) : P := p.elim fun n e => k _ e
theorem tu_up (p : h.IsTuple a vs) (k : ∀ o, h.get? a = some o → h'.get? a = some o) : h'.IsTuple a vs := p.elim fun o e => ⟨o, k _ e.1, e.2⟩
theorem tu_get (p : h.IsTuple a vs) (k : ∀ o, h.get? a = some o → P) : P := p.elim fun o e => k _ e.1
end
theorem FR.mono {B B' : Addr → Prop} {h h' : Heap} (k : ∀ a o, h.get? a = some o → ¬ B a → h'.get? a = some o ∧ ¬ B' a) {d : D} {v : Value} (p : FR B h d v) : FR B' h' d v :=
  FR.rec (motive_1 := fun d v _ => FR B' h' d v) (motive_2 := fun d v _ => FRs B' h' d v) .none .bool .int .str .bytes
    (fun p z nb _ f => .lst (pl_up p fun o e => (k _ o e nb).1) z (pl_get p fun o e => (k _ o e nb).2) f)
    (fun p z nb _ f => .tup (tu_up p fun o e => (k _ o e nb).1) z (tu_get p fun o e => (k _ o e nb).2) f)
    (fun h1 h2 e c b1 b2 _ f => .obj (k _ _ h1 b1).1 (k _ _ h2 b2).1 e c (k _ _ h1 b1).2 (k _ _ h2 b2).2 f)
    .nil (fun _ _ a r => .cons a r) p

/-- what a value of that data is -/
noncomputable def FRI (B : Addr → Prop) (h : Heap) (R : Value → Prop) : D → Prop
  | .none => R .none
  | .bool b => R (.bool b)
  | .int i => ∀ t, R (.int i t)
  | .str s => ∀ t, R (.str s t)
  | .bytes b => ∀ t, R (.bytes b.toArray t)
  | .lst xs => ∀ a vs, h.PlainList a (List.toArray vs) → vs.length ≤ sizeLine → ¬ B a → FRs B h xs vs → R (.ref a)
  | .tup xs => ∀ a vs, h.IsTuple a (List.toArray vs) → vs.length ≤ sizeLine → ¬ B a → FRs B h xs vs → R (.ref a)
  | .obj c fs => ∀ a dx es n, h.get? a = some (instObj (clsAddr c) dx) → h.get? dx = some (dictOf es n) → Ents (fieldsOf c) es → c < 3 → ¬ B a → ¬ B dx → FRs B h fs (es.map (·.val)) → R (.ref a)
theorem FR.elim {B : Addr → Prop} {h : Heap} {R : Value → Prop} {d : D} {v : Value} (p : FR B h d v) (k : FRI B h R d) : R v := by
  cases p with
  | none => exact k
  | bool b => exact k
  | int i t => exact k t
  | str s t => exact k t
  | bytes b t => exact k t
  | lst p z n f => exact k _ _ p z n f
  | tup p z n f => exact k _ _ p z n f
  | obj h1 h2 e c b1 b2 f => exact k _ _ _ _ h1 h2 e c b1 b2 f
/-- what the data of that value is -/
noncomputable def FRV (B : Addr → Prop) (h : Heap) (R : D → Prop) : Value → Prop
  | .none => R .none
  | .bool b => R (.bool b)
  | .int i _ => R (.int i)
  | .str s _ => R (.str s)
  | .bytes b _ => ∀ l : List UInt8, l.toArray = b → R (.bytes l)
  | .ref a => (∀ xs vs, h.PlainList a (List.toArray vs) → FRs B h xs vs → R (.lst xs)) ∧ (∀ xs vs, h.IsTuple a (List.toArray vs) → FRs B h xs vs → R (.tup xs)) ∧
      ∀ c dx es n fs, h.get? a = some (instObj (clsAddr c) dx) → h.get? dx = some (dictOf es n) → c < 3 → FRs B h fs (es.map (·.val)) → R (.obj c fs)
  | _ => True
theorem FR.velim {B : Addr → Prop} {h : Heap} {R : D → Prop} {d : D} {v : Value} (p : FR B h d v) (k : FRV B h R v) : R d := by
  cases p with
  | none => exact k
  | bool b => exact k
  | int i t => exact k
  | str s t => exact k
  | bytes b t => exact k _ rfl
  | lst p z n f => exact k.1 _ _ p f
  | tup p z n f => exact k.2.1 _ _ p f
  | obj h1 h2 e c b1 b2 f => exact k.2.2 _ _ _ _ _ h1 h2 c f

inductive All2 {α β : Type} (R : α → β → Prop) : List α → List β → Prop
  | nil : All2 R [] []
  | cons {a b as bs} : R a b → All2 R as bs → All2 R (a :: as) (b :: bs)
section
variable {α β γ : Type} {R : α → β → Prop} {as as' : List α} {bs bs' : List β}
theorem All2.length (r : All2 R as bs) : as.length = bs.length := All2.rec rfl (fun _ _ ih => congrArg (· + 1) ih) r
theorem All2.imp {R' : α → β → Prop} (k : ∀ a b, R a b → R' a b) (r : All2 R as bs) : All2 R' as bs := All2.rec .nil (fun a _ ih => .cons (k _ _ a) ih) r
theorem All2.append (r : All2 R as bs) (s : All2 R as' bs') : All2 R (as ++ as') (bs ++ bs') := All2.rec (motive := fun as bs _ => All2 R (as ++ as') (bs ++ bs')) s (fun a _ ih => .cons a ih) r
theorem All2.map_left {f : γ → α} {cs : List γ} (r : All2 (fun a c => R (f a) c) cs bs) : All2 R (cs.map f) bs := All2.rec (motive := fun cs bs _ => All2 R (cs.map f) bs) .nil (fun a _ ih => .cons a ih) r
/-- by the left list -/
noncomputable def A2L (R : α → β → Prop) (P : List β → Prop) : List α → Prop
  | [] => P []
  | a :: as => ∀ b bs, R a b → All2 R as bs → P (b :: bs)
theorem All2.elim {P : List β → Prop} (r : All2 R as bs) (k : A2L R P as) : P bs := by
  cases r with
  | nil => exact k
  | cons a r => exact k _ _ a r
theorem All2.of_map_left {f : γ → α} : ∀ {cs : List γ} {bs : List β}, All2 R (cs.map f) bs → All2 (fun a c => R (f a) c) cs bs := by
  intro cs
  induction cs with
  | nil => exact fun h => h.elim (P := All2 _ []) .nil
  | cons a as ih => exact fun h => h.elim (P := All2 _ (a :: as)) fun _ _ x r => .cons x (ih r)
theorem All2.get {i : Nat} {a : α} (r : All2 R as bs) (e : as[i]? = some a) : ∃ b, bs[i]? = some b ∧ R a b := by
  induction r generalizing i with
  | nil => exact nomatch e
  | cons x r ih =>
    cases i with
    | zero => exact Option.some.inj (show some _ = some a from e) ▸ ⟨_, rfl, x⟩
    | succ i => exact ih e
theorem All2.set {i : Nat} {a : α} {b : β} (r : All2 R as bs) (h : R a b) : All2 R (as.set i a) (bs.set i b) := by
  induction r generalizing i with
  | nil => exact .nil
  | cons x r ih =>
    cases i with
    | zero => exact .cons h r
    | succ i => exact .cons x ih
theorem All2.take (r : All2 R as bs) (n : Nat) : All2 R (as.take n) (bs.take n) := by
  induction r generalizing n with
  | nil => cases n <;> exact .nil
  | cons x r ih =>
    cases n with
    | zero => exact .nil
    | succ n => exact .cons x (ih n)
theorem All2.drop (r : All2 R as bs) (n : Nat) : All2 R (as.drop n) (bs.drop n) := by
  induction r generalizing n with
  | nil => cases n <;> exact .nil
  | cons x r ih =>
    cases n with
    | zero => exact .cons x r
    | succ n => exact ih n
end
theorem frs_all2 {B : Addr → Prop} {h : Heap} {xs : List D} {vs : List Value} (f : FRs B h xs vs) : All2 (FR B h) xs vs :=
  FRs.rec (motive_1 := fun _ _ _ => True) (motive_2 := fun xs vs _ => All2 (FR B h) xs vs) trivial (fun _ => trivial) (fun _ _ => trivial) (fun _ _ => trivial) (fun _ _ => trivial) (fun _ _ _ _ _ => trivial) (fun _ _ _ _ _ => trivial) (fun _ _ _ _ _ _ _ _ => trivial) .nil (fun a _ _ r => .cons a r) f
theorem all2_frs {B : Addr → Prop} {h : Heap} {xs : List D} {vs : List Value} (f : All2 (FR B h) xs vs) : FRs B h xs vs := All2.rec .nil (fun a _ ih => .cons a ih) f
theorem FRs.mono {B B' : Addr → Prop} {h h' : Heap} (k : ∀ a o, h.get? a = some o → ¬ B a → h'.get? a = some o ∧ ¬ B' a) {d : List D} {v : List Value} (f : FRs B h d v) : FRs B' h' d v :=
  all2_frs ((frs_all2 f).imp fun _ _ => FR.mono k)

/-- a value; scr: the address of the script's list -/
noncomputable def VR (scr : Addr) (μ : Mu) (B : Addr → Prop) (h : Heap) : V → Value → Prop
  | .d x, v => FR B h x v
  | .loc l, v => ∃ p, μ[l]? = some p ∧ v = .ref p.1
  | .scr, v => v = .ref scr
  | .undef, _ => False

/-- an object at its place -/
noncomputable def OR (prog : Program) (w : World) (scr : Addr) (μ : Mu) (B : Addr → Prop) (h : Heap) : O → Addr × Addr → Prop
  | .dead, _ => True
  | .lst xs, p => p.2 = p.1 ∧ ∃ vs : List Value, h.PlainList p.1 vs.toArray ∧ vs.length ≤ sizeLine ∧ All2 (VR scr μ B h) xs vs
  | .dict kvs, p => p.2 = p.1 ∧ ∃ ps : List (Int × Value), h.DictOf (intKind prog w) p.1 ps ∧ ps.length ≤ sizeLine ∧ All2 (fun a b => a.1 = b.1 ∧ VR scr μ B h a.2 b.2) kvs ps
  | .obj c fs, p => c < 3 ∧ ∃ es n, h.get? p.1 = some (instObj (clsAddr c) p.2) ∧ h.get? p.2 = some (dictOf es n) ∧ Ents (fieldsOf c) es ∧ All2 (VR scr μ B h) fs (es.map (·.val))

noncomputable def Live (μ : Mu) (H : List O) (a : Addr) : Prop := ∃ (l : Nat) (p : Addr × Addr) (o : O), μ[l]? = some p ∧ H[l]? = some o ∧ o.live = true ∧ (a = p.1 ∨ a = p.2)
noncomputable def Bad (B₀ : Addr → Prop) (μ : Mu) (H : List O) (a : Addr) : Prop := B₀ a ∨ Live μ H a

structure Base where
  prog : Program
  w : World
  h₀ : Heap
  scr : Addr

structure St (b : Base) (B₀ : Addr → Prop) (μ : Mu) (H : List O) (h : Heap) : Prop where
  base : ∀ a o, b.h₀.get? a = some o → h.get? a = some o
  low : b.h₀.objs.size ≤ h.objs.size
  bad0 : ∀ a, B₀ a → b.h₀.objs.size ≤ a ∧ a < h.objs.size
  mu : ∀ (l : Nat) (p : Addr × Addr), μ[l]? = some p → (b.h₀.objs.size ≤ p.1 ∧ p.1 < h.objs.size) ∧ (b.h₀.objs.size ≤ p.2 ∧ p.2 < h.objs.size) ∧ ¬ B₀ p.1 ∧ ¬ B₀ p.2
  len : μ.length = H.length
  apart : ∀ (i j : Nat) (p q : Addr × Addr), i ≠ j → μ[i]? = some p → μ[j]? = some q → p.1 ≠ q.1 ∧ p.1 ≠ q.2 ∧ p.2 ≠ q.1 ∧ p.2 ≠ q.2
  objs : ∀ (l : Nat) (p : Addr × Addr) (o : O), μ[l]? = some p → H[l]? = some o → OR b.prog b.w b.scr μ (Bad B₀ μ H) h o p

/-- what a piece of the run may have done -/
structure Step (b : Base) (B₀ : Addr → Prop) (μ : Mu) (H : List O) (s : Shared) (μ' : Mu) (H' : List O) (s' : Shared) : Prop where
  st : St b B₀ μ' H' s'.heap
  ext : ∃ ν, μ' = μ ++ ν
  keep : ∀ a o, s.heap.get? a = some o → ¬ Live μ H a → s'.heap.get? a = some o
  fresh : ∀ a, Live μ' H' a → Live μ H a ∨ s.heap.objs.size ≤ a
  size : s.heap.objs.size ≤ s'.heap.objs.size
  gens : s'.gens = s.gens
  os : s'.os = s.os

theorem Step.refl {b : Base} {B₀ : Addr → Prop} {μ : Mu} {H : List O} {s : Shared} (S : St b B₀ μ H s.heap) : Step b B₀ μ H s μ H s :=
  ⟨S, ⟨[], by simp⟩, fun _ _ e _ => e, fun _ l => .inl l, Nat.le_refl _, rfl, rfl⟩
theorem Step.trans {b : Base} {B₀ : Addr → Prop} {μ μ' μ'' : Mu} {H H' H'' : List O} {s s' s'' : Shared} (a : Step b B₀ μ H s μ' H' s') (c : Step b B₀ μ' H' s' μ'' H'' s'') : Step b B₀ μ H s μ'' H'' s'' where
  st := c.st
  ext := by obtain ⟨x, rfl⟩ := a.ext; obtain ⟨y, rfl⟩ := c.ext; exact ⟨x ++ y, by simp⟩
  keep := fun p o e n => c.keep p o (a.keep p o e n) fun l => (a.fresh p l).elim n fun z => Nat.lt_irrefl _ (Nat.lt_of_lt_of_le (Heap.lt_size e) z)
  fresh := fun p l => (c.fresh p l).elim (a.fresh p) fun z => .inr (Nat.le_trans a.size z)
  size := Nat.le_trans a.size c.size
  gens := c.gens.trans a.gens
  os := c.os.trans a.os

theorem get_append {α : Type} {l l' : List α} {i : Nat} {a : α} (e : l[i]? = some a) : (l ++ l')[i]? = some a := by
  rw [List.getElem?_append_left]; exact e; exact (List.getElem?_eq_some_iff.mp e).1

/-- values live on through a step -/
theorem VR.step {b : Base} {B₀ : Addr → Prop} {μ μ' : Mu} {H H' : List O} {s s' : Shared} (T : Step b B₀ μ H s μ' H' s') {v : V} {rv : Value}
    (h : VR b.scr μ (Bad B₀ μ H) s.heap v rv) : VR b.scr μ' (Bad B₀ μ' H') s'.heap v rv := by
  cases v with
  | d x => exact FR.mono (fun a o e n => ⟨T.keep a o e fun l => n (.inr l), fun q => q.elim (fun z => n (.inl z)) fun l => (T.fresh a l).elim (fun z => n (.inr z)) fun z => Nat.lt_irrefl _ (Nat.lt_of_lt_of_le (Heap.lt_size e) z)⟩) h
  | loc l => obtain ⟨p, e, r⟩ := h; obtain ⟨ν, rfl⟩ := T.ext; exact ⟨p, get_append e, r⟩
  | scr => exact h
  | undef => exact h.elim

/-- only untracked things are new: the allocs and the loose objects -/
theorem Step.loose {b : Base} {B₀ : Addr → Prop} {μ : Mu} {H : List O} {s s' : Shared} (S : St b B₀ μ H s.heap) (k : ∀ a o, s.heap.get? a = some o → s'.heap.get? a = some o) (hz : s.heap.objs.size ≤ s'.heap.objs.size)
    (hg : s'.gens = s.gens) (ho : s'.os = s.os) : Step b B₀ μ H s μ H s' := by
  refine ⟨⟨fun a o e => k _ _ (S.base a o e), Nat.le_trans S.low hz, fun a z => ⟨(S.bad0 a z).1, Nat.lt_of_lt_of_le (S.bad0 a z).2 hz⟩, fun l p e => ?_, S.len, S.apart, fun l p o e1 e2 => ?_⟩, ⟨[], by simp⟩, fun a o e _ => k a o e, fun _ l => .inl l, hz, hg, ho⟩
  · obtain ⟨⟨a, a'⟩, ⟨c, c'⟩, d⟩ := S.mu l p e
    exact ⟨⟨a, Nat.lt_of_lt_of_le a' hz⟩, ⟨c, Nat.lt_of_lt_of_le c' hz⟩, d⟩
  · have O := S.objs l p o e1 e2
    have up : ∀ v rv, VR b.scr μ (Bad B₀ μ H) s.heap v rv → VR b.scr μ (Bad B₀ μ H) s'.heap v rv := fun v rv h => by
      cases v with
      | d x => exact FR.mono (fun a o e n => ⟨k a o e, n⟩) h
      | loc l => exact h
      | scr => exact h
      | undef => exact h.elim
    cases o with
    | dead => trivial
    | lst xs => obtain ⟨z, vs, ⟨o', ho'⟩, z', q⟩ := O; exact ⟨z, vs, ⟨o', k _ _ ho'⟩, z', q.imp up⟩
    | dict kvs => obtain ⟨z, ps, ⟨o', es, ep, ho', r⟩, z', q⟩ := O; exact ⟨z, ps, ⟨o', es, ep, k _ _ ho', r⟩, z', q.imp fun _ _ x => ⟨x.1, up _ _ x.2⟩⟩
    | obj c fs => obtain ⟨z, es, n, h1, h2, h3, q⟩ := O; exact ⟨z, es, n, k _ _ h1, k _ _ h2, h3, q.imp up⟩

/-- a token more -/
theorem Step.toks {b : Base} {B₀ : Addr → Prop} {μ μ' : Mu} {H H' : List O} {s : Shared} {h' : Heap} {g d tk tk' os} (T : Step b B₀ μ H s μ' H' ⟨h', g, d, tk, os⟩) : Step b B₀ μ H s μ' H' ⟨h', g, d, tk', os⟩ :=
  ⟨T.st, T.ext, T.keep, T.fresh, T.size, T.gens, T.os⟩

theorem Live.lt {b : Base} {B₀ : Addr → Prop} {μ : Mu} {H : List O} {h : Heap} (S : St b B₀ μ H h) {a : Addr} (l : Live μ H a) : b.h₀.objs.size ≤ a ∧ a < h.objs.size ∧ ¬ B₀ a := by
  obtain ⟨i, p, o, e1, e2, e3, rfl | rfl⟩ := l
  · exact ⟨(S.mu i p e1).1.1, (S.mu i p e1).1.2, (S.mu i p e1).2.2.1⟩
  · exact ⟨(S.mu i p e1).2.1.1, (S.mu i p e1).2.1.2, (S.mu i p e1).2.2.2⟩
theorem Bad.lt {b : Base} {B₀ : Addr → Prop} {μ : Mu} {H : List O} {h : Heap} (S : St b B₀ μ H h) {a : Addr} (l : Bad B₀ μ H a) : b.h₀.objs.size ≤ a ∧ a < h.objs.size :=
  l.elim (S.bad0 a) fun l => ⟨(l.lt S).1, (l.lt S).2.1⟩
/-- what stands in the base is not bad -/
theorem not_bad_base {b : Base} {B₀ : Addr → Prop} {μ : Mu} {H : List O} {h : Heap} (S : St b B₀ μ H h) {a : Addr} {o : Obj} (e : b.h₀.get? a = some o) : ¬ Bad B₀ μ H a := fun l =>
  Nat.lt_irrefl _ (Nat.lt_of_lt_of_le (Heap.lt_size e) (l.lt S).1)
theorem not_bad_new {b : Base} {B₀ : Addr → Prop} {μ : Mu} {H : List O} {h : Heap} (S : St b B₀ μ H h) {a : Addr} (e : h.objs.size ≤ a) : ¬ Bad B₀ μ H a := fun l =>
  Nat.lt_irrefl _ (Nat.lt_of_lt_of_le (l.lt S).2 e)
end Mine
end

/-! ### Rel2 -/
section
set_option tactic.hygienic false
set_option genSizeOf false
set_option bootstrap.genMatcherCode false
open PySem PySem.W PyProof.Rows
set_option linter.unusedVariables false
namespace Mine

theorem VR.lift {scr : Addr} {μ μ' : Mu} {B B' : Addr → Prop} {h h' : Heap} (k : ∀ a o, h.get? a = some o → ¬ B a → h'.get? a = some o ∧ ¬ B' a) (m : ∀ (l : Nat) (p : Addr × Addr), μ[l]? = some p → μ'[l]? = some p)
    {v : V} {rv : Value} (x : VR scr μ B h v rv) : VR scr μ' B' h' v rv := by
  cases v with
  | d x' => exact FR.mono k x
  | loc l => obtain ⟨p, e, r⟩ := x; exact ⟨p, m _ _ e, r⟩
  | scr => exact x
  | undef => exact x.elim
theorem OR.lift {prog : Program} {w : World} {scr : Addr} {μ μ' : Mu} {B B' : Addr → Prop} {h h' : Heap} (k : ∀ a o, h.get? a = some o → ¬ B a → h'.get? a = some o ∧ ¬ B' a) (m : ∀ (l : Nat) (p : Addr × Addr), μ[l]? = some p → μ'[l]? = some p)
    {o : O} {p : Addr × Addr} (k1 : ∀ ob, h.get? p.1 = some ob → h'.get? p.1 = some ob) (k2 : ∀ ob, h.get? p.2 = some ob → h'.get? p.2 = some ob) (x : OR prog w scr μ B h o p) : OR prog w scr μ' B' h' o p := by
  cases o with
  | dead => trivial
  | lst xs => obtain ⟨z, vs, ⟨o', ho'⟩, z', q⟩ := x; exact ⟨z, vs, ⟨o', k1 _ ho'⟩, z', q.imp fun _ _ => VR.lift k m⟩
  | dict kvs => obtain ⟨z, ps, ⟨o', es, ep, ho', r⟩, z', q⟩ := x; exact ⟨z, ps, ⟨o', es, ep, k1 _ ho', r⟩, z', q.imp fun _ _ x => ⟨x.1, VR.lift k m x.2⟩⟩
  | obj c fs => obtain ⟨z, es, n, h1, h2, h3, q⟩ := x; exact ⟨z, es, n, k1 _ h1, k2 _ h2, h3, q.imp fun _ _ => VR.lift k m⟩

theorem live_append {μ : Mu} {H : List O} {p : Addr × Addr} {o : O} (hl : μ.length = H.length) {a : Addr} (l : Live (μ ++ [p]) (H ++ [o]) a) : Live μ H a ∨ a = p.1 ∨ a = p.2 := by
  obtain ⟨i, q, o', e1, e2, e3, e4⟩ := l
  by_cases hi : i < μ.length
  · rw [List.getElem?_append_left hi] at e1
    rw [List.getElem?_append_left (hl ▸ hi)] at e2
    exact .inl ⟨i, q, o', e1, e2, e3, e4⟩
  · rw [List.getElem?_append_right (Nat.not_lt.mp hi)] at e1
    cases hj : i - μ.length with
    | zero => rw [hj] at e1; simp at e1; subst e1; exact .inr e4
    | succ n => rw [hj] at e1; simp at e1
theorem live_mono_append {μ : Mu} {H : List O} {p : Addr × Addr} {o : O} {a : Addr} (l : Live μ H a) : Live (μ ++ [p]) (H ++ [o]) a := by
  obtain ⟨i, q, o', e1, e2, e3⟩ := l
  exact ⟨i, q, o', get_append e1, get_append e2, e3⟩

theorem last_of {α : Type} {l : List α} {a b : α} {i : Nat} (h : ¬ i < l.length) (e : (l ++ [a])[i]? = some b) : a = b := by
  rw [List.getElem?_append_right (Nat.not_lt.mp h)] at e
  cases hj : i - l.length with
  | zero => rw [hj] at e; simpa using e
  | succ n => rw [hj] at e; simp at e

/-- a new tracked object -/
theorem Step.new {b : Base} {B₀ : Addr → Prop} {μ : Mu} {H : List O} {s s' : Shared} {p : Addr × Addr} {o' : O} (S : St b B₀ μ H s.heap) (k : ∀ a o, s.heap.get? a = some o → s'.heap.get? a = some o)
    (hp1 : s.heap.objs.size ≤ p.1 ∧ p.1 < s'.heap.objs.size) (hp2 : s.heap.objs.size ≤ p.2 ∧ p.2 < s'.heap.objs.size) (hg : s'.gens = s.gens) (ho : s'.os = s.os)
    (hO : OR b.prog b.w b.scr (μ ++ [p]) (Bad B₀ (μ ++ [p]) (H ++ [o'])) s'.heap o' p) : Step b B₀ μ H s (μ ++ [p]) (H ++ [o']) s' := by
  have hz : s.heap.objs.size ≤ s'.heap.objs.size := Nat.le_of_lt (Nat.lt_of_le_of_lt hp1.1 hp1.2)
  have up : ∀ a o, s.heap.get? a = some o → ¬ Bad B₀ μ H a → s'.heap.get? a = some o ∧ ¬ Bad B₀ (μ ++ [p]) (H ++ [o']) a := fun a ob e n => ⟨k a ob e, fun q => q.elim (fun z => n (.inl z)) fun l => by
    rcases live_append S.len l with z | rfl | rfl
    · exact n (.inr z)
    · exact Nat.lt_irrefl _ (Nat.lt_of_lt_of_le (Heap.lt_size e) hp1.1)
    · exact Nat.lt_irrefl _ (Nat.lt_of_lt_of_le (Heap.lt_size e) hp2.1)⟩
  have nb : ∀ a, s.heap.objs.size ≤ a → ¬ B₀ a := fun a e z => Nat.lt_irrefl _ (Nat.lt_of_lt_of_le (S.bad0 a z).2 e)
  refine ⟨⟨fun a o e => k _ _ (S.base a o e), Nat.le_trans S.low hz, fun a z => ⟨(S.bad0 a z).1, Nat.lt_of_lt_of_le (S.bad0 a z).2 hz⟩, fun l q e => ?_, by simp [S.len], fun i j q r hij e1 e2 => ?_, fun l q ob e1 e2 => ?_⟩,
    ⟨[p], rfl⟩, fun a ob e _ => k a ob e, fun a l => ?_, hz, hg, ho⟩
  · by_cases hl : l < μ.length
    · rw [List.getElem?_append_left hl] at e
      obtain ⟨⟨a, a'⟩, ⟨c, c'⟩, d⟩ := S.mu l q e
      exact ⟨⟨a, Nat.lt_of_lt_of_le a' hz⟩, ⟨c, Nat.lt_of_lt_of_le c' hz⟩, d⟩
    · obtain rfl := last_of hl e
      exact ⟨⟨Nat.le_trans S.low hp1.1, hp1.2⟩, ⟨Nat.le_trans S.low hp2.1, hp2.2⟩, nb _ hp1.1, nb _ hp2.1⟩
  · by_cases hi : i < μ.length <;> by_cases hj : j < μ.length
    · rw [List.getElem?_append_left hi] at e1
      rw [List.getElem?_append_left hj] at e2
      exact S.apart i j q r hij e1 e2
    · rw [List.getElem?_append_left hi] at e1
      obtain rfl := last_of hj e2
      obtain ⟨⟨_, a'⟩, ⟨_, c'⟩, _⟩ := S.mu i q e1
      exact ⟨Nat.ne_of_lt (Nat.lt_of_lt_of_le a' hp1.1), Nat.ne_of_lt (Nat.lt_of_lt_of_le a' hp2.1), Nat.ne_of_lt (Nat.lt_of_lt_of_le c' hp1.1), Nat.ne_of_lt (Nat.lt_of_lt_of_le c' hp2.1)⟩
    · rw [List.getElem?_append_left hj] at e2
      obtain rfl := last_of hi e1
      obtain ⟨⟨_, a'⟩, ⟨_, c'⟩, _⟩ := S.mu j r e2
      exact ⟨Nat.ne_of_gt (Nat.lt_of_lt_of_le a' hp1.1), Nat.ne_of_gt (Nat.lt_of_lt_of_le c' hp1.1), Nat.ne_of_gt (Nat.lt_of_lt_of_le a' hp2.1), Nat.ne_of_gt (Nat.lt_of_lt_of_le c' hp2.1)⟩
    · have h1 := (List.getElem?_eq_some_iff.mp e1).1
      have h2 := (List.getElem?_eq_some_iff.mp e2).1
      simp only [List.length_append, List.length_cons, List.length_nil] at h1 h2
      omega
  · by_cases hl : l < μ.length
    · rw [List.getElem?_append_left hl] at e1
      rw [List.getElem?_append_left (S.len ▸ hl)] at e2
      exact OR.lift up (fun _ _ e => get_append e) (fun ob e => k _ _ e) (fun ob e => k _ _ e) (S.objs l q ob e1 e2)
    · obtain rfl := last_of hl e1
      obtain rfl := last_of (S.len ▸ hl) e2
      exact hO
  · rcases live_append S.len l with z | rfl | rfl
    · exact .inl z
    · exact .inr hp1.1
    · exact .inr hp2.1

theorem getElem?_set' {α : Type} {l : List α} {i j : Nat} {a b : α} (e : (l.set i a)[j]? = some b) : (i = j ∧ b = a ∧ i < l.length) ∨ (i ≠ j ∧ l[j]? = some b) := by
  by_cases h : i = j
  · subst h
    have hl : i < l.length := by have := (List.getElem?_eq_some_iff.mp e).1; simpa using this
    rw [List.getElem?_set_self hl] at e
    exact .inl ⟨rfl, (Option.some.inj e).symm, hl⟩
  · rw [List.getElem?_set_ne h] at e; exact .inr ⟨h, e⟩

theorem live_set {μ : Mu} {H : List O} {l : Nat} {o o' : O} (e : H[l]? = some o) (ho : o.live = true) {a : Addr} (x : Live μ (H.set l o') a) : Live μ H a := by
  obtain ⟨i, q, ob, e1, e2, e3, e4⟩ := x
  rcases getElem?_set' e2 with ⟨rfl, rfl, _⟩ | ⟨_, e2⟩
  · exact ⟨_, q, o, e1, e, ho, e4⟩
  · exact ⟨i, q, ob, e1, e2, e3, e4⟩

/-- a tracked object turned, or let go -/
theorem Step.upd {b : Base} {B₀ : Addr → Prop} {μ : Mu} {H : List O} {s s' : Shared} {l : Nat} {p : Addr × Addr} {o o' : O} (S : St b B₀ μ H s.heap) (e1 : μ[l]? = some p) (e2 : H[l]? = some o) (hl : o.live = true)
    (k : ∀ a ob, a ≠ p.1 → a ≠ p.2 → s.heap.get? a = some ob → s'.heap.get? a = some ob) (hz : s.heap.objs.size ≤ s'.heap.objs.size) (hg : s'.gens = s.gens) (ho : s'.os = s.os)
    (hO : OR b.prog b.w b.scr μ (Bad B₀ μ (H.set l o')) s'.heap o' p) : Step b B₀ μ H s μ (H.set l o') s' := by
  have lp1 : Live μ H p.1 := ⟨l, p, o, e1, e2, hl, .inl rfl⟩
  have lp2 : Live μ H p.2 := ⟨l, p, o, e1, e2, hl, .inr rfl⟩
  have sub : ∀ a, Bad B₀ μ (H.set l o') a → Bad B₀ μ H a := fun a x => x.imp id (live_set e2 hl)
  have kk : ∀ a ob, s.heap.get? a = some ob → ¬ Live μ H a → s'.heap.get? a = some ob := fun a ob e n => k a ob (fun q => n (q ▸ lp1)) (fun q => n (q ▸ lp2)) e
  refine ⟨⟨fun a ob e => kk a ob (S.base a ob e) fun x => Nat.lt_irrefl _ (Nat.lt_of_lt_of_le (Heap.lt_size e) (x.lt S).1), Nat.le_trans S.low hz, fun a z => ⟨(S.bad0 a z).1, Nat.lt_of_lt_of_le (S.bad0 a z).2 hz⟩, fun i q e => ?_, by simp [S.len], S.apart, fun i q ob f1 f2 => ?_⟩,
    ⟨[], by simp⟩, kk, fun a x => .inl (live_set e2 hl x), hz, hg, ho⟩
  · obtain ⟨⟨a, a'⟩, ⟨c, c'⟩, d⟩ := S.mu i q e
    exact ⟨⟨a, Nat.lt_of_lt_of_le a' hz⟩, ⟨c, Nat.lt_of_lt_of_le c' hz⟩, d⟩
  · rcases getElem?_set' f2 with ⟨rfl, rfl, _⟩ | ⟨hne, f2⟩
    · rw [e1] at f1; cases f1; exact hO
    · obtain ⟨n1, n2, n3, n4⟩ := S.apart l i p q hne e1 f1
      exact OR.lift (fun a ob e n => ⟨kk a ob e fun x => n (.inr x), fun x => n (sub a x)⟩) (fun _ _ e => e) (fun ob e => k _ _ (Ne.symm n1) (Ne.symm n3) e) (fun ob e => k _ _ (Ne.symm n2) (Ne.symm n4) e) (S.objs i q ob f1 f2)
end Mine
end

/-! ### Match -/
section
open PySem PySem.W PyProof.Rows
set_option tactic.hygienic false
set_option genSizeOf false
set_option genInjectivity false
set_option bootstrap.genMatcherCode false
set_option linter.unusedVariables false
namespace Mine

/-! ## the Python tree, taken apart -/
structure VE (e : Expr) where
  name : Option {x : Str // ∃ p, e = .Name x p} := none
  const : Option {c : Const // ∃ k p, e = .Constant c k p} := none
  bin : Option {t : Expr × Operator × Expr // ∃ p, e = .BinOp t.1 t.2.1 t.2.2 p} := none
  un : Option {t : UnaryOp × Expr // ∃ p, e = .UnaryOp t.1 t.2 p} := none
  cmp : Option {t : Expr × List CmpOp × List Expr // ∃ p, e = .Compare t.1 t.2.1 t.2.2 p} := none
  bool : Option {t : BoolOp × List Expr // ∃ p, e = .BoolOp t.1 t.2 p} := none
  ite : Option {t : Expr × Expr × Expr // ∃ p, e = .IfExp t.1 t.2.1 t.2.2 p} := none
  call : Option {t : Expr × List Expr × List Keyword × Pos // e = .Call t.1 t.2.1 t.2.2.1 t.2.2.2} := none
  attr : Option {t : Expr × Str × Pos // e = .Attribute t.1 t.2.1 t.2.2} := none
  sub : Option {t : Expr × Expr // ∃ p, e = .Subscript t.1 t.2 p} := none
  slice : Option {t : Option Expr × Option Expr × Option Expr // ∃ p, e = .Slice t.1 t.2.1 t.2.2 p} := none
  list : Option {t : List Expr // ∃ p, e = .List t p} := none
  tup : Option {t : List Expr // ∃ k p, e = .Tuple t k p} := none
  dict : Option {t : List (Option Expr) × List Expr // ∃ p, e = .Dict t.1 t.2 p} := none
  comp : Option {t : Expr × List Comprehension × Scope // ∃ p, e = .ListComp t.1 t.2.1 t.2.2 p} := none
  kind : Nat := 0
noncomputable def view (e : Expr) : VE e := match e with
  | .Name x p => { name := some ⟨x, p, rfl⟩ }
  | .Constant c k p => { const := some ⟨c, k, p, rfl⟩ }
  | .BinOp l o r p => { bin := some ⟨(l, o, r), p, rfl⟩ }
  | .UnaryOp o x p => { un := some ⟨(o, x), p, rfl⟩, kind := match o with | .Not => 5 | _ => 0 }
  | .Compare l os cs p => { cmp := some ⟨(l, os, cs), p, rfl⟩, kind := 5 }
  | .BoolOp o vs p => { bool := some ⟨(o, vs), p, rfl⟩, kind := 5 }
  | .IfExp a b c p => { ite := some ⟨(a, b, c), p, rfl⟩, kind := 5 }
  | .Call f as ks p => { call := some ⟨(f, as, ks, p), rfl⟩ }
  | .Attribute v a p => { attr := some ⟨(v, a, p), rfl⟩ }
  | .Subscript v i p => { sub := some ⟨(v, i), p, rfl⟩ }
  | .Slice l u st p => { slice := some ⟨(l, u, st), p, rfl⟩, kind := 3 }
  | .List es p => { list := some ⟨es, p, rfl⟩ }
  | .Tuple es k p => { tup := some ⟨es, k, p, rfl⟩ }
  | .Dict ks vs p => { dict := some ⟨(ks, vs), p, rfl⟩ }
  | .ListComp elt gs sc p => { comp := some ⟨(elt, gs, sc), p, rfl⟩, kind := 4 }
  | .SetComp .. => { kind := 4 }
  | .DictComp .. => { kind := 4 }
  | .Set .. => { kind := 1 }
  | .Starred .. => { kind := 2 }
  | _ => {}
noncomputable def sv {α : Type} {P : α → Prop} (o : Option {x : α // P x}) : Option α := match o with
  | some ⟨x, _⟩ => some x
  | none => none
section
variable {α β γ δ ε : Type} {P : Prop}
theorem no_some {a : α} {P : Prop} (h : (none : Option α) = some a) : P := nomatch h
theorem ff_elim (h : false = true) : P := nomatch h
theorem sv_eq {P : α → Prop} {o : Option {x : α // P x}} {x : α} (h : sv o = some x) : P x := match o, h with
  | none, h => no_some h
  | some ⟨y, q⟩, h => Option.some.inj h ▸ q
theorem so_1 {R : α → Prop} {a b : α} (h : some a = some b) (k : R a) : R b := Option.some.inj h ▸ k
theorem so_2 {R : α → β → Prop} {a b : α} {c d : β} (h : some (a, c) = some (b, d)) (k : R a c) : R b d := so_1 (R := fun t => R t.1 t.2) h k
theorem pair_inj {a v : α} {c h : β} (e : some (a, c) = some (v, h)) : a = v ∧ c = h := so_2 (R := fun v h => a = v ∧ c = h) e ⟨rfl, rfl⟩
theorem so_3 {R : α → β → γ → Prop} {a b : α} {c d : β} {e f : γ} (h : some (a, c, e) = some (b, d, f)) (k : R a c e) : R b d f := so_1 (R := fun t => R t.1 t.2.1 t.2.2) h k

/-! ## what a match that holds has met -/
noncomputable def ob1 (o : Option α) (f : α → Bool) : Bool := match o with | some a => f a | none => false
noncomputable def ob2 (o : Option (α × β)) (f : α → β → Bool) : Bool := ob1 o fun t => f t.1 t.2
noncomputable def ob3 (o : Option (α × β × γ)) (f : α → β → γ → Bool) : Bool := ob1 o fun t => f t.1 t.2.1 t.2.2
noncomputable def ob4 (o : Option (α × β × γ × δ)) (f : α → β → γ → δ → Bool) : Bool := ob1 o fun t => f t.1 t.2.1 t.2.2.1 t.2.2.2
noncomputable def ob5 (o : Option (α × β × γ × δ × ε)) (f : α → β → γ → δ → ε → Bool) : Bool := ob1 o fun t => f t.1 t.2.1 t.2.2.1 t.2.2.2.1 t.2.2.2.2
noncomputable def lc (l : List α) (f : α → List α → Bool) : Bool := match l with | a :: r => f a r | [] => false
noncomputable def l0 (l : List α) : Bool := match l with | _ :: _ => false | [] => true
noncomputable def l1 (l : List α) (f : α → Bool) : Bool := lc l fun a r => l0 r && f a
noncomputable def l2 (l : List α) (f : α → α → Bool) : Bool := lc l fun a r => l1 r (f a)
noncomputable def oc1 (o : Option (Expr × List Expr)) (f : Expr → Expr → Bool) : Bool := ob2 o fun a l => l1 l (f a)
noncomputable def oc2 (o : Option (Expr × List Expr)) (f : Expr → Expr → Expr → Bool) : Bool := ob2 o fun a l => l2 l (f a)
noncomputable def ocm1 (o : Option (Expr × List CmpOp × List Expr)) (f : Expr → CmpOp → Expr → Bool) : Bool := ob3 o fun l os rs => l1 os fun o => l1 rs fun r => f l o r
noncomputable def ocm2 (o : Option (Expr × List CmpOp × List Expr)) (f : Expr → CmpOp → CmpOp → Expr → Expr → Bool) : Bool := ob3 o fun l os rs => l2 os fun o p => l2 rs fun r q => f l o p r q
noncomputable def oz (o : Option (Option α × β)) (f : β → Bool) : Bool := ob2 o fun a b => match a with | some _ => false | none => f b
theorem and_elim {a c : Bool} (h : (a && c) = true) (k : a = true → c = true → P) : P := match a, h with
  | true, h => k rfl h
  | false, h => ff_elim h
theorem ob1_elim {o : Option α} {f : α → Bool} (h : ob1 o f = true) (k : ∀ a, o = some a → f a = true → P) : P := match o, h with
  | some a, h => k a rfl h
  | none, h => ff_elim h
theorem ob2_elim {o : Option (α × β)} {f : α → β → Bool} (h : ob2 o f = true) (k : ∀ a c, o = some (a, c) → f a c = true → P) : P := ob1_elim h fun t => k t.1 t.2
theorem ob3_elim {o : Option (α × β × γ)} {f : α → β → γ → Bool} (h : ob3 o f = true) (k : ∀ a c d, o = some (a, c, d) → f a c d = true → P) : P := ob1_elim h fun t => k t.1 t.2.1 t.2.2
theorem ob4_elim {o : Option (α × β × γ × δ)} {f : α → β → γ → δ → Bool} (h : ob4 o f = true) (k : ∀ a c d e, o = some (a, c, d, e) → f a c d e = true → P) : P := ob1_elim h fun t => k t.1 t.2.1 t.2.2.1 t.2.2.2
theorem ob5_elim {o : Option (α × β × γ × δ × ε)} {f : α → β → γ → δ → ε → Bool} (h : ob5 o f = true) (k : ∀ a c d e g, o = some (a, c, d, e, g) → f a c d e g = true → P) : P := ob1_elim h fun t => k t.1 t.2.1 t.2.2.1 t.2.2.2.1 t.2.2.2.2
theorem lc_elim {R : List α → Prop} {l : List α} {f : α → List α → Bool} (h : lc l f = true) (k : ∀ a r, f a r = true → R (a :: r)) : R l := match l, h with
  | a :: r, h => k a r h
  | [], h => ff_elim h
theorem l0_elim {R : List α → Prop} {l : List α} (h : l0 l = true) (k : R []) : R l := match l, h with
  | _ :: _, h => ff_elim h
  | [], _ => k
theorem l1_elim {R : List α → Prop} {l : List α} {f : α → Bool} (h : l1 l f = true) (k : ∀ a, f a = true → R [a]) : R l :=
  lc_elim h fun a r h => and_elim h fun h0 h => l0_elim (R := fun r => R (a :: r)) h0 (k a h)
theorem l2_elim {R : List α → Prop} {l : List α} {f : α → α → Bool} (h : l2 l f = true) (k : ∀ a c, f a c = true → R [a, c]) : R l :=
  lc_elim h fun a r h => l1_elim (R := fun r => R (a :: r)) h (k a)
theorem oc1_elim {o : Option (Expr × List Expr)} {f : Expr → Expr → Bool} (h : oc1 o f = true) (k : ∀ a c, o = some (a, [c]) → f a c = true → P) : P :=
  ob2_elim h fun a l e h => l1_elim (R := fun l => o = some (a, l) → P) h (fun c h e => k a c e h) e
theorem oc2_elim {o : Option (Expr × List Expr)} {f : Expr → Expr → Expr → Bool} (h : oc2 o f = true) (k : ∀ a c d, o = some (a, [c, d]) → f a c d = true → P) : P :=
  ob2_elim h fun a l e h => l2_elim (R := fun l => o = some (a, l) → P) h (fun c d h e => k a c d e h) e
theorem ocm1_elim {o : Option (Expr × List CmpOp × List Expr)} {f : Expr → CmpOp → Expr → Bool} (h : ocm1 o f = true) (k : ∀ a c d, o = some (a, [c], [d]) → f a c d = true → P) : P :=
  ob3_elim h fun a l r e h => l1_elim (R := fun l => o = some (a, l, r) → P) h (fun c h e => l1_elim (R := fun r => o = some (a, [c], r) → P) h (fun d h e => k a c d e h) e) e
theorem ocm2_elim {o : Option (Expr × List CmpOp × List Expr)} {f : Expr → CmpOp → CmpOp → Expr → Expr → Bool} (h : ocm2 o f = true) (k : ∀ a c c' d d', o = some (a, [c, c'], [d, d']) → f a c c' d d' = true → P) : P :=
  ob3_elim h fun a l r e h => l2_elim (R := fun l => o = some (a, l, r) → P) h (fun c c' h e => l2_elim (R := fun r => o = some (a, [c, c'], r) → P) h (fun d d' h e => k a c c' d d' e h) e) e
theorem oz_elim {o : Option (Option α × β)} {f : β → Bool} (h : oz o f = true) (k : ∀ b, o = some (none, b) → f b = true → P) : P :=
  ob2_elim h fun a b e h => (match a, e, h with
    | some _, _, h => ff_elim h
    | none, e, h => k b e h)
theorem dec_elim {c : Prop} [Decidable c] (h : decide c = true) : c := of_decide_eq_true h
end

noncomputable def asName (e : Expr) : Option Str := sv (view e).name
noncomputable def asConst (e : Expr) : Option Const := sv (view e).const
noncomputable def asBin (e : Expr) : Option (Expr × Operator × Expr) := sv (view e).bin
noncomputable def asUn (e : Expr) : Option (UnaryOp × Expr) := sv (view e).un
noncomputable def asCmp (e : Expr) : Option (Expr × List CmpOp × List Expr) := sv (view e).cmp
noncomputable def asBool (e : Expr) : Option (BoolOp × List Expr) := sv (view e).bool
noncomputable def asIf (e : Expr) : Option (Expr × Expr × Expr) := sv (view e).ite
/-- a value of o, where it is of the form f a -/
noncomputable def on {α β : Type} (o : Option α) (f : α → Option β) : Option β := match o with | some a => f a | none => none
theorem on_elim {α β : Type} {P : Prop} {o : Option α} {f : α → Option β} {r : β} (h : on o f = some r) (k : ∀ a, o = some a → f a = some r → P) : P := match o, h with
  | some a, h => k a rfl h
  | none, h => no_some h
noncomputable def nil? {α β : Type} (l : List α) (b : β) : Option β := match l with | [] => some b | _ :: _ => none
theorem nil_elim {α β : Type} {R : List α → β → Prop} {l : List α} {b c : β} (h : nil? l b = some c) (k : R [] b) : R l c := match l, h with
  | [], h => so_1 (R := R []) h k
  | _ :: _, h => no_some h
noncomputable def asCallP (e : Expr) : Option (Expr × List Expr × Pos) := on (sv (view e).call) fun t => nil? t.2.2.1 (t.1, t.2.1, t.2.2.2)
noncomputable def asCall (e : Expr) : Option (Expr × List Expr) := on (sv (view e).call) fun t => nil? t.2.2.1 (t.1, t.2.1)
noncomputable def asAttr (e : Expr) : Option (Expr × Str) := on (sv (view e).attr) fun t => some (t.1, t.2.1)
noncomputable def asSub (e : Expr) : Option (Expr × Expr) := sv (view e).sub
noncomputable def none? {α β : Type} (l : Option α) (b : β) : Option β := match l with | none => some b | some _ => none
theorem none_elim {α β : Type} {R : Option α → β → Prop} {l : Option α} {b c : β} (h : none? l b = some c) (k : R none b) : R l c := match l, h with
  | none, h => so_1 (R := R none) h k
  | some _, h => no_some h
noncomputable def asSlice (e : Expr) : Option (Option Expr × Option Expr) := on (sv (view e).slice) fun t => none? t.2.2 (t.1, t.2.1)
noncomputable def asList (e : Expr) : Option (List Expr) := sv (view e).list
noncomputable def asTup (e : Expr) : Option (List Expr) := sv (view e).tup
noncomputable def asDict (e : Expr) : Option (List (Option Expr) × List Expr) := sv (view e).dict
noncomputable def genOf (gs : List Comprehension) : Option (Expr × Expr × List Expr) := match gs with
  | g :: r => if g.is_async = 0 then nil? r (g.target, g.iter, g.ifs) else none
  | [] => none
theorem if_elim {γ : Type} {P : Prop} {c : Prop} [Decidable c] {x : Option γ} {r : γ} (h : (if c then x else none) = some r) (k : c → x = some r → P) : P :=
  if hc : c then k hc ((if_pos hc).symm.trans h) else no_some ((if_neg hc).symm.trans h)
noncomputable def asComp (e : Expr) : Option (Expr × Expr × Expr × List Expr × Scope) := on (sv (view e).comp) fun t => on (genOf t.2.1) fun g => some (t.1, g.1, g.2.1, g.2.2, t.2.2)
theorem asName_eq {e x} (h : asName e = some x) : ∃ p, e = .Name x p := (sv_eq h :)
theorem asConst_eq {e x} (h : asConst e = some x) : ∃ k p, e = .Constant x k p := (sv_eq h :)
theorem asBin_eq {e l o r} (h : asBin e = some (l, o, r)) : ∃ p, e = .BinOp l o r p := (sv_eq h :)
theorem asUn_eq {e o x} (h : asUn e = some (o, x)) : ∃ p, e = .UnaryOp o x p := (sv_eq h :)
theorem asCmp_eq {e l o r} (h : asCmp e = some (l, o, r)) : ∃ p, e = .Compare l o r p := (sv_eq h :)
theorem asBool_eq {e o r} (h : asBool e = some (o, r)) : ∃ p, e = .BoolOp o r p := (sv_eq h :)
theorem asIf_eq {e a b c} (h : asIf e = some (a, b, c)) : ∃ p, e = .IfExp a b c p := (sv_eq h :)
theorem asCallP_eq {e f as p} (h : asCallP e = some (f, as, p)) : e = .Call f as [] p :=
  on_elim h fun t q h => nil_elim (R := fun ks t' => e = .Call t.1 t.2.1 ks t.2.2.2 → e = .Call t'.1 t'.2.1 [] t'.2.2) h id (sv_eq q :)
theorem asCall_eq {e f as} (h : asCall e = some (f, as)) : ∃ p, e = .Call f as [] p :=
  on_elim h fun t q h => nil_elim (R := fun ks t' => e = .Call t.1 t.2.1 ks t.2.2.2 → ∃ p, e = .Call t'.1 t'.2 [] p) h (fun h => ⟨_, h⟩) (sv_eq q :)
theorem asAttr_eq {e v a} (h : asAttr e = some (v, a)) : ∃ p, e = .Attribute v a p :=
  on_elim h fun t q h => so_1 (R := fun t' => ∃ p, e = .Attribute t'.1 t'.2 p) h ⟨_, (sv_eq q :)⟩
theorem asSub_eq {e v a} (h : asSub e = some (v, a)) : ∃ p, e = .Subscript v a p := (sv_eq h :)
theorem asSlice_eq {e v a} (h : asSlice e = some (v, a)) : ∃ p, e = .Slice v a none p :=
  on_elim h fun t q h => none_elim (R := fun ks t' => (∃ p, e = .Slice t.1 t.2.1 ks p) → ∃ p, e = .Slice t'.1 t'.2 none p) h id (sv_eq q :)
theorem asList_eq {e x} (h : asList e = some x) : ∃ p, e = .List x p := (sv_eq h :)
theorem asTup_eq {e x} (h : asTup e = some x) : ∃ k p, e = .Tuple x k p := (sv_eq h :)
theorem asDict_eq {e v a} (h : asDict e = some (v, a)) : ∃ p, e = .Dict v a p := (sv_eq h :)
theorem genOf_eq {gs g} (h : genOf gs = some g) : gs = [⟨g.1, g.2.1, g.2.2, 0⟩] := match gs, h with
  | ⟨t, it, ifs, a⟩ :: r, h => if_elim h fun h0 h => nil_elim (R := fun r g => ⟨t, it, ifs, a⟩ :: r = [⟨g.1, g.2.1, g.2.2, 0⟩]) h (congrArg (fun a => [(⟨t, it, ifs, a⟩ : Comprehension)]) h0)
  | [], h => no_some h
theorem asComp_eq {e elt t it ifs sc} (h : asComp e = some (elt, t, it, ifs, sc)) : ∃ p, e = .ListComp elt [⟨t, it, ifs, 0⟩] sc p :=
  on_elim h fun u e1 h => on_elim h fun g e2 h => so_1 (R := fun t => ∃ p, e = .ListComp t.1 [⟨t.2.1, t.2.2.1, t.2.2.2.1, 0⟩] t.2.2.2.2 p) h (genOf_eq e2 ▸ (sv_eq e1 :))

/-! ## matching -/
abbrev Slot := Option (Str × NameKind)
noncomputable def debugS : Str := Str.ofString "__debug__"

noncomputable def isGlob (sc : Scope) (x : Str) (e : Expr) : Bool := ob1 (asName e) fun y => decide (y = x) && decide (sc.names.lookup y = some .globalImplicit) && decide (y ≠ debugS)

noncomputable def mConst : D → Expr → Bool
  | .none, e => decide (asConst e = some .none)
  | .bool b, e => decide (asConst e = some (.bool b))
  | .int i, e => decide (asConst e = some (.int i)) || ob2 (asUn e) fun o x => decide (o = .USub) && decide (asConst x = some (.int (-i)))
  | .str s, e => decide (asConst e = some (.str s))
  | .bytes b, e => decide (asConst e = some (.bytes b))
  | _, _ => false

noncomputable def opOf : Op → Operator
  | .add => .Add | .sub => .Sub | .mul => .Mult | .fdiv => .FloorDiv | .mod => .Mod | .shl => .LShift | .shr => .RShift | .band => .BitAnd | .bor => .BitOr
noncomputable def cmOf : Cm → CmpOp
  | .eq => .Eq | .ne => .NotEq | .lt => .Lt | .le => .LtE | .isin => .In | .notin => .NotIn | .is => .Is | .isnot => .IsNot

noncomputable def notSet (e : Expr) : Bool := (view e).kind != 1
noncomputable def notStar (e : Expr) : Bool := (view e).kind != 2
noncomputable def notCall0 (e : Expr) : Bool := match sv (view e).call with
  | some (f, as, ks, _) => match asName f, as, ks with
    | some _, [], [] => false
    | _, _, _ => true
  | none => true
noncomputable def notSlice (e : Expr) : Bool := (view e).kind != 3
noncomputable def notComp (e : Expr) : Bool := (view e).kind != 4

noncomputable def relabelS (sc sc' : Scope) : Scope := { sc' with names := sc'.names.map fun (n, k) => if (k == .free && sc.kind == .function && sc.names.lookup n == some .cell) then (n, .cell) else (n, k) }
noncomputable def slotIn (sc' : Scope) : Slot → Slot
  | some (x, .cell) => if sc'.names.lookup x = some .free then some (x, .cell) else none
  | _ => none
/-- a comprehension's scope, within sc and its slots -/
noncomputable def scopeOk (sc : Scope) (T : List Slot) (t : Str) (sc' : Scope) : Bool :=
  decide (sc'.kind = .function) && decide (sc.kind = .function) && sc'.names.all (fun p => decide (p.2 ≠ .cell)) && sc'.names.all (fun p => decide (p.2 = .local → sc'.names.lookup p.1 = some .local)) && decide (sc'.names.lookup t = some .local) &&
    sc'.names.all (fun p => decide (p.2 = .free → sc.names.lookup p.1 = some .cell)) && sc'.names.all (fun p => decide (p.2 = .free → sc'.names.lookup p.1 = some .free)) &&
    sc'.names.all (fun p => decide (p.2 ≠ .free) || T.any fun sl => decide (sl = some (p.1, .cell))) &&
    T.all (fun sl => match sl with | some (x, _) => decide (x ≠ t ∨ sc'.names.lookup x ≠ some .free) | none => true)

noncomputable def lenS := Str.ofString "len"
noncomputable def listS := Str.ofString "list"
noncomputable def sortedS := Str.ofString "sorted"
noncomputable def intS := Str.ofString "int"
noncomputable def reprS := Str.ofString "repr"
noncomputable def isinstanceS := Str.ofString "isinstance"
noncomputable def tupleS := Str.ofString "tuple"
noncomputable def boolS := Str.ofString "bool"
noncomputable def rangeS := Str.ofString "range"
noncomputable def enumS := Str.ofString "enumerate"
noncomputable def appendS := Str.ofString "append"
noncomputable def initS := Str.ofString "__init__"
noncomputable def heapObjectS := Str.ofString "HeapObject"

noncomputable def os {α : Type} (o : Option α) (f : α → Bool) : Bool := ob1 o f
noncomputable def mDict : List (Int × Bool) → List (Option Expr) → List Expr → Bool
  | [], ks, vs => l0 ks && l0 vs
  | kb :: r, ks, vs => lc ks fun ke ks => ob1 ke fun ke => lc vs fun ve vs => decide (asConst ke = some (.int kb.1)) && decide (asConst ve = some (.bool kb.2)) && mDict r ks vs
/-- what a comprehension walks over -/
noncomputable def mIt (sc : Scope) (k : Nat) (m : Expr → Bool) (ie : Expr) : Bool := match k with
  | 1 => oc1 (asCall ie) fun fe x => isGlob sc rangeS fe && notStar x && m x
  | _ => notSet ie && m ie

mutual
noncomputable def mX (sc : Scope) (T : List Slot) : X → Expr → Bool
  | .cst d, e => mConst d e
  | .var i, e => ob1 (asName e) fun y => ob1 T[i]? fun t => ob2 t fun x k => decide (y = x) && decide (sc.names.lookup y = some k) && (k == .local || k == .cell) && decide (y ≠ debugS)
  | .glob g, e => isGlob sc (gNames.getD g Str.empty) e && decide (g < gNames.length)
  | .cmp2 o1 o2 x y z, e => ocm2 (asCmp e) fun l p1 p2 r1 r2 => decide (p1 = cmOf o1) && decide (p2 = cmOf o2) && notSet r1 && notSet r2 && mX sc T x l && mX sc T y r1 && mX sc T z r2
  | .bin op x y, e => ob3 (asBin e) fun l o r => decide (o = opOf op) && mX sc T x l && mX sc T y r
  | .cat x y, e => ob3 (asBin e) fun l o r => decide (o = .Add) && mX sc T x l && mX sc T y r
  | .catM x y, e => ob3 (asBin e) fun l o r => decide (o = .Add) && mX sc T x l && mX sc T y r
  | .inv x, e => ob2 (asUn e) fun o y => decide (o = .Invert) && mX sc T x y
  | .not x, e => ob2 (asUn e) fun o y => decide (o = .Not) && mX sc T x y
  | .cmp cm x y, e => ocm1 (asCmp e) fun l o r => decide (o = cmOf cm) && notSet r && mX sc T x l && mX sc T y r
  | .bop k xs, e => ob2 (asBool e) fun o es => decide (o = if k then .And else .Or) && decide (es ≠ []) && mXs sc T xs es
  | .ite x y z, e => ob3 (asIf e) fun a b c => mX sc T x a && mX sc T y b && mX sc T z c
  | .call f xs, e => ob2 (asCall e) fun fe as => isGlob sc (fnNames.getD f Str.empty) fe && decide (fnNames.getD f Str.empty ≠ Str.empty) && decide (f < 39) && decide (as.length ≤ 20) && mXs sc T xs as
  | .callI f xs, e => ob2 (asCall e) fun fe as => isGlob sc (fnNames.getD f Str.empty) fe && decide (fnNames.getD f Str.empty ≠ Str.empty) && decide (f < 39) && decide (as.length ≤ 20) && mXs sc T xs as
  | .new c xs, e => ob2 (asCall e) fun fe as => isGlob sc (clsNames.getD c Str.empty) fe && decide (c < 3) && decide (as.length ≤ 20) && mXs sc T xs as
  | .newM c xs, e => ob2 (asCall e) fun fe as => isGlob sc (clsNames.getD c Str.empty) fe && decide (c < 3) && decide (as.length ≤ 20) && mXs sc T xs as
  | .attr x m, e => ob2 (asAttr e) fun v y => decide (y = fname m) && decide (m < 22) && notCall0 v && mX sc T x v
  | .idx x y, e => ob2 (asSub e) fun v j => notSlice j && mX sc T x v && mX sc T y j
  | .sl0 x y, e => ob2 (asSub e) fun v j => oz (asSlice j) fun u => ob1 u fun u => (asName v).isSome && mX sc T x v && mX sc T y u
  | .sl x y z, e => ob2 (asSub e) fun v j => ob2 (asSlice j) fun l u => ob1 l fun l => ob1 u fun u => (asName v).isSome && mX sc T x v && mX sc T y l && mX sc T z u
  | .list xs, e => ob1 (asList e) fun es => decide (es.length ≤ 100) && mXs sc T xs es
  | .listM xs, e => ob1 (asList e) fun es => decide (es.length ≤ 100) && mXs sc T xs es
  | .tup xs, e => ob1 (asTup e) fun es => decide (es.length ≤ 100) && mXs sc T xs es
  | .dictM kvs, e => ob2 (asDict e) fun ks vs => mDict kvs ks vs && decide (ks.length ≤ 10)
  | .len x, e => oc1 (asCall e) fun fe y => isGlob sc lenS fe && notStar y && mX sc T x y
  | .copy x, e => oc1 (asCall e) fun fe y => isGlob sc listS fe && notStar y && mX sc T x y
  | .copyM x, e => oc1 (asCall e) fun fe y => isGlob sc listS fe && notStar y && mX sc T x y
  | .sorted x, e => oc1 (asCall e) fun fe y => isGlob sc sortedS fe && notStar y && mX sc T x y
  | .toInt x, e => oc1 (asCall e) fun fe y => isGlob sc intS fe && notStar y && mX sc T x y
  | .repr x, e => oc1 (asCall e) fun fe y => isGlob sc reprS fe && notStar y && mX sc T x y
  | .isTup x, e => oc2 (asCall e) fun fe y g => isGlob sc isinstanceS fe && isGlob sc tupleS g && notStar y && mX sc T x y
  | .isBool x, e => oc2 (asCall e) fun fe y g => isGlob sc isinstanceS fe && isGlob sc boolS g && notStar y && mX sc T x y
  | .comp m x xs y, e => ob5 (asComp e) fun ee te ie ifs sc' => ob1 (asName te) fun t => scopeOk sc T t sc' && decide (ifs.length ≤ 1) && mIt sc m (mX sc T x) ie && mXs (relabelS sc sc') (T.map (slotIn sc') ++ [some (t, .local)]) xs ifs && mX (relabelS sc sc') (T.map (slotIn sc') ++ [some (t, .local)]) y ee
  | .kill x, e => mX sc T x e
noncomputable def mXs (sc : Scope) (T : List Slot) : Xs → List Expr → Bool
  | .nil, es => l0 es
  | .cons x xs, es => lc es fun e es => notStar e && mX sc T x e && mXs sc T xs es
end

/-! ## statements -/
structure VS (s : Stmt) where
  asg : Option {t : List Expr × Expr × Pos // s = .Assign t.1 t.2.1 t.2.2} := none
  ret : Option {t : Option Expr // ∃ p, s = .Return t p} := none
  expr : Option {t : Expr // ∃ p, s = .Expr t p} := none
  ifs : Option {t : Expr × List Stmt × List Stmt // ∃ p, s = .If t.1 t.2.1 t.2.2 p} := none
  whl : Option {t : Expr × List Stmt × List Stmt // ∃ p, s = .While t.1 t.2.1 t.2.2 p} := none
  loop : Option {t : Expr × Expr × List Stmt × List Stmt // ∃ p, s = .For t.1 t.2.1 t.2.2.1 t.2.2.2 p} := none
noncomputable def viewS (s : Stmt) : VS s := match s with
  | .Assign ts v p => { asg := some ⟨(ts, v, p), rfl⟩ }
  | .Return e p => { ret := some ⟨e, p, rfl⟩ }
  | .Expr e p => { expr := some ⟨e, p, rfl⟩ }
  | .If c a b p => { ifs := some ⟨(c, a, b), p, rfl⟩ }
  | .While c a b p => { whl := some ⟨(c, a, b), p, rfl⟩ }
  | .For t i a b p => { loop := some ⟨(t, i, a, b), p, rfl⟩ }
  | _ => {}
noncomputable def one? {α β : Type} (l : List α) (f : α → β) : Option β := match l with | [] => none | a :: r => nil? r (f a)
theorem one_elim {α β : Type} {R : List α → β → Prop} {l : List α} {f : α → β} {c : β} (h : one? l f = some c) (k : ∀ a, R [a] (f a)) : R l c := match l, h with
  | [], h => no_some h
  | a :: _, h => nil_elim (R := fun r => R (a :: r)) h (k a)
noncomputable def sAssign (s : Stmt) : Option (Expr × Expr × Pos) := on (sv (viewS s).asg) fun t => one? t.1 fun a => (a, t.2.1, t.2.2)
noncomputable def sRet (s : Stmt) : Option Expr := on (sv (viewS s).ret) id
noncomputable def sExpr (s : Stmt) : Option Expr := sv (viewS s).expr
noncomputable def sIf (s : Stmt) : Option (Expr × List Stmt × List Stmt) := sv (viewS s).ifs
noncomputable def sWhile (s : Stmt) : Option (Expr × List Stmt) := on (sv (viewS s).whl) fun t => nil? t.2.2 (t.1, t.2.1)
noncomputable def sFor (s : Stmt) : Option (Expr × Expr × List Stmt) := on (sv (viewS s).loop) fun t => nil? t.2.2.2 (t.1, t.2.1, t.2.2.1)
theorem sAssign_eq {s t v p} (h : sAssign s = some (t, v, p)) : s = .Assign [t] v p :=
  on_elim h fun t q h => one_elim (R := fun ts t' => s = .Assign ts t.2.1 t.2.2 → s = .Assign [t'.1] t'.2.1 t'.2.2) h (fun _ => id) (sv_eq q :)
theorem sRet_eq {s e} (h : sRet s = some e) : ∃ p, s = .Return (some e) p :=
  on_elim h fun t q h => h ▸ (sv_eq q :)
theorem sExpr_eq {s e} (h : sExpr s = some e) : ∃ p, s = .Expr e p := (sv_eq h :)
theorem sIf_eq {s c a b} (h : sIf s = some (c, a, b)) : ∃ p, s = .If c a b p := (sv_eq h :)
theorem sWhile_eq {s c a} (h : sWhile s = some (c, a)) : ∃ p, s = .While c a [] p :=
  on_elim h fun t q h => nil_elim (R := fun z t' => (∃ p, s = .While t.1 t.2.1 z p) → ∃ p, s = .While t'.1 t'.2 [] p) h id (sv_eq q :)
theorem sFor_eq {s t i a} (h : sFor s = some (t, i, a)) : ∃ p, s = .For t i a [] p :=
  on_elim h fun t q h => nil_elim (R := fun z t' => (∃ p, s = .For t.1 t.2.1 t.2.2.1 z p) → ∃ p, s = .For t'.1 t'.2.1 t'.2.2 [] p) h id (sv_eq q :)

/-- a name of the frame that is stored -/
noncomputable def isSlot (sc : Scope) (T : List Slot) (i : Nat) (e : Expr) : Bool := ob1 (asName e) fun y => ob1 T[i]? fun t => ob2 t fun x k => decide (y = x) && decide (sc.names.lookup y = some k) && (k == .local || k == .cell)
noncomputable def areSlots (sc : Scope) (T : List Slot) : List Nat → List Expr → Bool
  | [], es => l0 es
  | i :: is, es => lc es fun e es => isSlot sc T i e && areSlots sc T is es
noncomputable def areAttrs (sc : Scope) (T : List Slot) (o : X) : List Nat → List Expr → Bool
  | [], es => l0 es
  | n :: ns, es => lc es fun e es => (ob2 (asAttr e) fun v x => decide (x = fname n) && decide (n < 22) && mX sc T o v) && areAttrs sc T o ns es

noncomputable def isCompX (x : X) : Bool := x.ctorIdx == 32
noncomputable def isKill (s : S) : Bool := s.ctorIdx == 16
noncomputable def asMeth (e : Expr) : Option (Expr × Str × List Expr × Bool) := on (asCallP e) fun t => on (sv (view t.1).attr) fun u => some (u.1, u.2.1, t.2.1, u.2.2.endLine == t.2.2.line)
theorem asMeth_eq {e o n as c} (h : asMeth e = some (o, n, as, c)) : ∃ ap p, e = .Call (.Attribute o n ap) as [] p ∧ c = (ap.endLine == p.line) :=
  on_elim h fun t e1 h => on_elim h fun u e2 h => so_1 (R := fun t => ∃ ap p, e = .Call (.Attribute t.1 t.2.1 ap) t.2.2.1 [] p ∧ t.2.2.2 = (ap.endLine == p.line)) h ⟨u.2.2, t.2.2, (sv_eq e2 :) ▸ asCallP_eq e1, rfl⟩

noncomputable def ott (o p : Option (List Expr)) (f : List Expr → List Expr → Bool) : Bool := ob1 o fun a => ob1 p fun c => f a c
noncomputable def otc (o : Option (List Expr)) (p : Option (Expr × List Expr)) (f : Expr → Expr → Expr → Expr → Bool) : Bool := ob1 o fun l => l2 l fun a c => oc1 p fun d g => f a c d g
noncomputable def ot2 (o p : Option (List Expr)) (f : Expr → Expr → Expr → Expr → Bool) : Bool := ob1 o fun l => l2 l fun a c => ob1 p fun r => l2 r fun d g => f a c d g
noncomputable def oss (o p : Option (Expr × Expr)) (f : Expr → Expr → Expr → Expr → Bool) : Bool := ob2 o fun a c => ob2 p fun d g => f a c d g
noncomputable def om1 (o : Option (Expr × Str × List Expr × Bool)) (f : Expr → Str → Expr → Bool → Bool) : Bool := ob4 o fun a c l g => l1 l fun d => f a c d g

mutual
noncomputable def mS (sc : Scope) (T : List Slot) : S → Stmt → Bool
  | .asg i x, s => ob3 (sAssign s) fun t v p => isSlot sc T i t && (notComp v || isCompX x) && mX sc T x v
  | .asgT is xs, s => ob3 (sAssign s) fun t v p => ott (asTup t) (asTup v) fun ts vs => (l2 ts (fun _ _ => true) || decide (4 ≤ ts.length)) && decide (is.Nodup) && !(vs.all (constantsAlone 8)) && decide (is.length = ts.length) && decide (vs.length = ts.length) && decide (vs.length ≤ 100) && areSlots sc T is ts && mXs sc T xs vs
  | .setA o n x, s => ob3 (sAssign s) fun t v p => ob2 (asAttr t) fun oe a => decide (a = fname n) && decide (n < 22) && mX sc T o oe && mX sc T x v
  | .setI o ix x, s => ob3 (sAssign s) fun t v p => ob2 (asSub t) fun oe ie => notSlice ie && mX sc T o oe && mX sc T ix ie && mX sc T x v
  | .setTA i fs xs, s => ob3 (sAssign s) fun t v p => ott (asTup t) (asTup v) fun ts vs => decide (4 ≤ ts.length) && decide (fs.length = ts.length) && decide (vs.length = ts.length) && decide (vs.length ≤ 100) && areAttrs sc T (.var i) fs ts && mXs sc T xs vs
  | .setTI o1 i1 o2 i2 x1 x2, s => ob3 (sAssign s) fun t v p => ot2 (asTup t) (asTup v) fun t1 t2 v1 v2 => oss (asSub t1) (asSub t2) fun a1 j1 a2 j2 => notSlice j1 && notSlice j2 && mX sc T o1 a1 && mX sc T i1 j1 && mX sc T o2 a2 && mX sc T i2 j2 && mX sc T x1 v1 && mX sc T x2 v2 && notStar v1 && notStar v2
  | .app o x, s => ob1 (sExpr s) fun e => om1 (asMeth e) fun oe n a c => decide (n = appendS) && c && (asName oe).isSome && notStar a && mX sc T o oe && mX sc T x a
  | .ini n xs, s => ob1 (sExpr s) fun e => ob4 (asMeth e) fun ce m as c => decide (m = initS) && c && decide (n = 13) && isGlob sc heapObjectS ce && decide (as.length ≤ 20) && mXs sc T xs as
  | .ifs x a c, s => ob3 (sIf s) fun ce as bs => mX sc T x ce && mSs sc T a as && mSs sc T c bs
  | .whl n x a, s => ob2 (sWhile s) fun ce bs => mX sc T x ce && mSs sc T a bs
  | .forL i x a, s => ob3 (sFor s) fun t e bs => isSlot sc T i t && notSet e && mX sc T x e && mSs sc T a bs
  | .forR i x a, s => ob3 (sFor s) fun t e bs => oc1 (asCall e) fun fe y => isSlot sc T i t && isGlob sc rangeS fe && notStar y && mX sc T x y && mSs sc T a bs
  | .forE i j x a, s => ob3 (sFor s) fun t e bs => otc (asTup t) (asCall e) fun t1 t2 fe y => decide (i ≠ j) && isSlot sc T i t1 && isSlot sc T j t2 && isGlob sc enumS fe && notStar y && mX sc T x y && mSs sc T a bs
  | .ret x, s => ob1 (sRet s) fun e => mX sc T x e
  | .skip, _ => false
  | .seq _ _, _ => false
  | .killV _, _ => false
noncomputable def mSs (sc : Scope) (T : List Slot) : S → List Stmt → Bool
  | .skip, ss => l0 ss
  | .seq a b, ss => cond (isKill a) (mSs sc T b ss) (lc ss fun s ss => mS sc T a s && mSs sc T b ss)
  | .asg .., _ => false
  | .asgT .., _ => false
  | .setA .., _ => false
  | .setI .., _ => false
  | .setTA .., _ => false
  | .setTI .., _ => false
  | .app .., _ => false
  | .ini .., _ => false
  | .ifs .., _ => false
  | .whl .., _ => false
  | .forL .., _ => false
  | .forR .., _ => false
  | .forE .., _ => false
  | .ret .., _ => false
  | .killV .., _ => false
end
end Mine
end

/-! ### Inv -/
section
open PySem PySem.W PyProof.Rows
set_option tactic.hygienic false
set_option linter.unusedVariables false
namespace Mine
variable {α β γ δ : Type} {P : Prop} {ns : List Int} {C : Calls'} {ρ : List V} {H : List O} {sc : Scope} {T : List Slot} {e : Expr} {s : Stmt} {r : γ}

/-! ## what a run that ends has met, in small contexts -/
theorem oh_elim {o : Option α} {f : α → Option γ} (h : oh o f = some r) (k : ∀ a, o = some a → f a = some r → P) : P := match o, h with
  | none, h => no_some h
  | some a, h => k a rfl h
theorem vh_elim {o : Option (α × List O)} {f : α → List O → Option γ} (h : vh o f = some r) (k : ∀ v H, o = some (v, H) → f v H = some r → P) : P := match o, h with
  | none, h => no_some h
  | some (v, H), h => k v H rfl h
theorem dv_elim {R : V → Prop} {v : V} {f : D → Option γ} (h : dv v f = some r) (k : ∀ d, f d = some r → R (.d d)) : R v := by
  cases v <;> first | exact no_some h | exact k _ h
theorem lv_elim {R : V → Prop} {v : V} {f : Nat → Option γ} (h : lv v f = some r) (k : ∀ d, f d = some r → R (.loc d)) : R v := by
  cases v <;> first | exact no_some h | exact k _ h
theorem id_elim {R : D → Prop} {v : D} {f : Int → Option γ} (h : id' v f = some r) (k : ∀ d, f d = some r → R (.int d)) : R v := by
  cases v <;> first | exact no_some h | exact k _ h
theorem bd_elim {R : D → Prop} {v : D} {f : Bool → Option γ} (h : bd' v f = some r) (k : ∀ d, f d = some r → R (.bool d)) : R v := by
  cases v <;> first | exact no_some h | exact k _ h
theorem ld_elim {R : D → Prop} {v : D} {f : List D → Option γ} (h : ld' v f = some r) (k : ∀ d, f d = some r → R (.lst d)) : R v := by
  cases v <;> first | exact no_some h | exact k _ h
theorem nd_elim {R : D → Prop} {v : D} {f : Option γ} (h : nd' v f = some r) (k : f = some r → R .none) : R v := by
  cases v <;> first | exact no_some h | exact k h
theorem iv_elim {R : V → Prop} {v : V} {f : Int → Option γ} (h : iv v f = some r) (k : ∀ d, f d = some r → R (.d (.int d))) : R v :=
  dv_elim h fun d h => id_elim (R := fun d => R (.d d)) h k
theorem dh_elim {o : Option (V × List O)} {f : D → List O → Option γ} (h : dh o f = some r) (k : ∀ i H, o = some (.d i, H) → f i H = some r → P) : P :=
  vh_elim h fun v H q h => dv_elim (R := fun v => o = some (v, H) → P) h (fun d h q => k d H q h) q
theorem ih_elim {o : Option (V × List O)} {f : Int → List O → Option γ} (h : ih o f = some r) (k : ∀ i H, o = some (.d (.int i), H) → f i H = some r → P) : P :=
  dh_elim h fun v H q h => id_elim (R := fun v => o = some (.d v, H) → P) h (fun d h q => k d H q h) q
theorem bh_elim {o : Option (V × List O)} {f : Bool → List O → Option γ} (h : bh o f = some r) (k : ∀ i H, o = some (.d (.bool i), H) → f i H = some r → P) : P :=
  dh_elim h fun v H q h => bd_elim (R := fun v => o = some (.d v, H) → P) h (fun d h q => k d H q h) q
theorem lh_elim {o : Option (V × List O)} {f : List D → List O → Option γ} (h : lh o f = some r) (k : ∀ i H, o = some (.d (.lst i), H) → f i H = some r → P) : P :=
  dh_elim h fun v H q h => ld_elim (R := fun v => o = some (.d v, H) → P) h (fun d h q => k d H q h) q
theorem nh_elim {o : Option (V × List O)} {f : List O → Option γ} (h : nh o f = some r) (k : ∀ H, o = some (.d .none, H) → f H = some r → P) : P :=
  dh_elim h fun v H q h => nd_elim (R := fun v => o = some (.d v, H) → P) h (fun h q => k H q h) q
theorem ph_elim {o : Option (V × List O)} {f : Nat → List O → Option γ} (h : ph o f = some r) (k : ∀ i H, o = some (.loc i, H) → f i H = some r → P) : P :=
  vh_elim h fun v H q h => lv_elim (R := fun v => o = some (v, H) → P) h (fun d h q => k d H q h) q
theorem gl_elim {o : O} {f : List V → Option γ} (h : gl o f = some r) (k : ∀ xs, o = .lst xs → f xs = some r → P) : P := by
  cases o <;> first | exact no_some h | exact k _ rfl h
theorem nu_elim {Q : V → List O → Prop} {u v : V} {H' : List O} (h : nu u H = some (v, H')) (k : u ≠ .undef → Q u H) : Q v H' := by
  cases u <;> first | exact no_some h | exact so_2 h (k nofun)
theorem nu_some {v : V} (h : v ≠ .undef) : nu v H = some (v, H) := by
  cases v <;> first | rfl | exact absurd rfl h
theorem var_stable {i : Nat} {u : V} {H' : List O} (e : ev ns C (.var i) ρ H = some (u, H')) : (∀ H, ev ns C (.var i) ρ H = some (u, H)) ∧ H' = H :=
  oh_elim (ev_var_eq.symm.trans e) fun v hv h => nu_elim (Q := fun u H' => (∀ H, ev ns C (.var i) ρ H = some (u, H)) ∧ H' = H) h fun hne => ⟨fun H => by rw [ev_var_eq, hv]; exact nu_some hne, rfl⟩
theorem bor_elim {a c : Bool} (h : (a || c) = true) (k1 : a = true → P) (k2 : c = true → P) : P := match a, h with
  | true, _ => k1 rfl
  | false, h => k2 h
theorem fh_elim {o : Option (Fl × List V × List O)} {f : List V → List O → Option (Fl × List V × List O)} {r : Fl × List V × List O} (h : fh o f = some r) (k : ∀ fl ρ H, o = some (fl, ρ, H) → fh (some (fl, ρ, H)) f = some r → P) : P := match o, h with
  | none, h => no_some h
  | some (fl, ρ, H), h => k fl ρ H rfl h
theorem tri_inj {a d : α} {c e : β} {f g : γ} (h : some (a, c, f) = some (d, e, g)) : a = d ∧ c = e ∧ f = g := so_3 (R := fun d e g => a = d ∧ c = e ∧ f = g) h ⟨rfl, rfl, rfl⟩
theorem sp_elim {Q : α → β → Prop} {a v : α} {c h : β} (e : some (a, c) = some (v, h)) (k : Q a c) : Q v h := so_2 e k
theorem spb_elim {Q : Bool → List O → Prop} {a v : Bool} {c h : List O} (e : some (V.d (.bool a), c) = some (V.d (.bool v), h)) (k : Q a c) : Q v h :=
  so_2 (R := fun x c => bd' (match x with | .d d => d | _ => .none) (fun b => some (Q b c)) = some (Q v h) → Q v h) e (fun e => Option.some.inj e ▸ k) rfl
theorem bool_inj {a v : Bool} {c h : List O} (e : some (V.d (.bool a), c) = some (V.d (.bool v), h)) : a = v ∧ c = h := spb_elim (Q := fun v h => a = v ∧ c = h) e ⟨rfl, rfl⟩
theorem st_elim {Q : α → β → δ → Prop} {a v : α} {c h : β} {d g : δ} (e : some (a, c, d) = some (v, h, g)) (k : Q a c d) : Q v h g := so_3 e k

/-! ## the match -/
section
variable {R : Expr → Prop}
theorem asName_elim {x} (h : asName e = some x) (k : ∀ p, R (.Name x p)) : R e := (asName_eq h).elim fun p q => q ▸ k p
theorem asBin_elim {l o r} (h : asBin e = some (l, o, r)) (k : ∀ p, R (.BinOp l o r p)) : R e := (asBin_eq h).elim fun p q => q ▸ k p
theorem asUn_elim {o x} (h : asUn e = some (o, x)) (k : ∀ p, R (.UnaryOp o x p)) : R e := (asUn_eq h).elim fun p q => q ▸ k p
theorem asCmp_elim {l os cs} (h : asCmp e = some (l, os, cs)) (k : ∀ p, R (.Compare l os cs p)) : R e := (asCmp_eq h).elim fun p q => q ▸ k p
theorem asBool_elim {o vs} (h : asBool e = some (o, vs)) (k : ∀ p, R (.BoolOp o vs p)) : R e := (asBool_eq h).elim fun p q => q ▸ k p
theorem asIf_elim {a c d} (h : asIf e = some (a, c, d)) (k : ∀ p, R (.IfExp a c d p)) : R e := (asIf_eq h).elim fun p q => q ▸ k p
theorem asCall_elim {f as} (h : asCall e = some (f, as)) (k : ∀ p, R (.Call f as [] p)) : R e := (asCall_eq h).elim fun p q => q ▸ k p
theorem asAttr_elim {v a} (h : asAttr e = some (v, a)) (k : ∀ p, R (.Attribute v a p)) : R e := (asAttr_eq h).elim fun p q => q ▸ k p
theorem asSub_elim {v a} (h : asSub e = some (v, a)) (k : ∀ p, R (.Subscript v a p)) : R e := (asSub_eq h).elim fun p q => q ▸ k p
theorem asList_elim {es} (h : asList e = some es) (k : ∀ p, R (.List es p)) : R e := (asList_eq h).elim fun p q => q ▸ k p
theorem asTup_elim {es} (h : asTup e = some es) (k : ∀ j p, R (.Tuple es j p)) : R e := (asTup_eq h).elim fun j h => h.elim fun p q => q ▸ k j p
theorem asConst_elim {c} (h : asConst e = some c) (k : ∀ j p, R (.Constant c j p)) : R e := (asConst_eq h).elim fun j h => h.elim fun p q => q ▸ k j p
theorem asSlice_elim {l u} (h : asSlice e = some (l, u)) (k : ∀ p, R (.Slice l u none p)) : R e := (asSlice_eq h).elim fun p q => q ▸ k p
theorem asComp_elim {ee te ie ifs sc'} (h : asComp e = some (ee, te, ie, ifs, sc')) (k : ∀ p, R (.ListComp ee [⟨te, ie, ifs, 0⟩] sc' p)) : R e := (asComp_eq h).elim fun p q => q ▸ k p
theorem asDict_elim {ks vs} (h : asDict e = some (ks, vs)) (k : ∀ p, R (.Dict ks vs p)) : R e := (asDict_eq h).elim fun p q => q ▸ k p
theorem asMeth_elim {o n as c} (h : asMeth e = some (o, n, as, c)) (k : ∀ ap p, c = (ap.endLine == p.line) → R (.Call (.Attribute o n ap) as [] p)) : R e := (asMeth_eq h).elim fun ap h => h.elim fun p q => q.1 ▸ k ap p q.2
end
theorem mX_cst_eq {d : D} {e : Expr} : mX sc T (.cst d) e = (mConst d e) := rfl
theorem mX_var_eq {i : Nat} {e : Expr} : mX sc T (.var i) e = (ob1 (asName e) fun y => ob1 T[i]? fun t => ob2 t fun x k => decide (y = x) && decide (sc.names.lookup y = some k) && (k == .local || k == .cell) && decide (y ≠ debugS)) := rfl
theorem mX_glob_eq {g : Nat} {e : Expr} : mX sc T (.glob g) e = (isGlob sc (gNames.getD g Str.empty) e && decide (g < gNames.length)) := rfl
theorem mX_cmp2_eq {o1 : Cm} {o2 : Cm} {x : X} {y : X} {z : X} {e : Expr} : mX sc T (.cmp2 o1 o2 x y z) e = (ocm2 (asCmp e) fun l p1 p2 r1 r2 => decide (p1 = cmOf o1) && decide (p2 = cmOf o2) && notSet r1 && notSet r2 && mX sc T x l && mX sc T y r1 && mX sc T z r2) := rfl
theorem mX_bin_eq {op : Op} {x : X} {y : X} {e : Expr} : mX sc T (.bin op x y) e = (ob3 (asBin e) fun l o r => decide (o = opOf op) && mX sc T x l && mX sc T y r) := rfl
theorem mX_cat_eq {x : X} {y : X} {e : Expr} : mX sc T (.cat x y) e = (ob3 (asBin e) fun l o r => decide (o = .Add) && mX sc T x l && mX sc T y r) := rfl
theorem mX_catM_eq {x : X} {y : X} {e : Expr} : mX sc T (.catM x y) e = (ob3 (asBin e) fun l o r => decide (o = .Add) && mX sc T x l && mX sc T y r) := rfl
theorem mX_inv_eq {x : X} {e : Expr} : mX sc T (.inv x) e = (ob2 (asUn e) fun o y => decide (o = .Invert) && mX sc T x y) := rfl
theorem mX_not_eq {x : X} {e : Expr} : mX sc T (.not x) e = (ob2 (asUn e) fun o y => decide (o = .Not) && mX sc T x y) := rfl
theorem mX_cmp_eq {cm : Cm} {x : X} {y : X} {e : Expr} : mX sc T (.cmp cm x y) e = (ocm1 (asCmp e) fun l o r => decide (o = cmOf cm) && notSet r && mX sc T x l && mX sc T y r) := rfl
theorem mX_bop_eq {k : Bool} {xs : Xs} {e : Expr} : mX sc T (.bop k xs) e = (ob2 (asBool e) fun o es => decide (o = if k then .And else .Or) && decide (es ≠ []) && mXs sc T xs es) := rfl
theorem mX_ite_eq {x : X} {y : X} {z : X} {e : Expr} : mX sc T (.ite x y z) e = (ob3 (asIf e) fun a b c => mX sc T x a && mX sc T y b && mX sc T z c) := rfl
theorem mX_call_eq {f : Nat} {xs : Xs} {e : Expr} : mX sc T (.call f xs) e = (ob2 (asCall e) fun fe as => isGlob sc (fnNames.getD f Str.empty) fe && decide (fnNames.getD f Str.empty ≠ Str.empty) && decide (f < 39) && decide (as.length ≤ 20) && mXs sc T xs as) := rfl
theorem mX_callI_eq {f : Nat} {xs : Xs} {e : Expr} : mX sc T (.callI f xs) e = (ob2 (asCall e) fun fe as => isGlob sc (fnNames.getD f Str.empty) fe && decide (fnNames.getD f Str.empty ≠ Str.empty) && decide (f < 39) && decide (as.length ≤ 20) && mXs sc T xs as) := rfl
theorem mX_new_eq {c : Nat} {xs : Xs} {e : Expr} : mX sc T (.new c xs) e = (ob2 (asCall e) fun fe as => isGlob sc (clsNames.getD c Str.empty) fe && decide (c < 3) && decide (as.length ≤ 20) && mXs sc T xs as) := rfl
theorem mX_newM_eq {c : Nat} {xs : Xs} {e : Expr} : mX sc T (.newM c xs) e = (ob2 (asCall e) fun fe as => isGlob sc (clsNames.getD c Str.empty) fe && decide (c < 3) && decide (as.length ≤ 20) && mXs sc T xs as) := rfl
theorem mX_attr_eq {x : X} {m : Nat} {e : Expr} : mX sc T (.attr x m) e = (ob2 (asAttr e) fun v y => decide (y = fname m) && decide (m < 22) && notCall0 v && mX sc T x v) := rfl
theorem mX_idx_eq {x : X} {y : X} {e : Expr} : mX sc T (.idx x y) e = (ob2 (asSub e) fun v j => notSlice j && mX sc T x v && mX sc T y j) := rfl
theorem mX_sl0_eq {x : X} {y : X} {e : Expr} : mX sc T (.sl0 x y) e = (ob2 (asSub e) fun v j => oz (asSlice j) fun u => ob1 u fun u => (asName v).isSome && mX sc T x v && mX sc T y u) := rfl
theorem mX_sl_eq {x : X} {y : X} {z : X} {e : Expr} : mX sc T (.sl x y z) e = (ob2 (asSub e) fun v j => ob2 (asSlice j) fun l u => ob1 l fun l => ob1 u fun u => (asName v).isSome && mX sc T x v && mX sc T y l && mX sc T z u) := rfl
theorem mX_list_eq {xs : Xs} {e : Expr} : mX sc T (.list xs) e = (ob1 (asList e) fun es => decide (es.length ≤ 100) && mXs sc T xs es) := rfl
theorem mX_listM_eq {xs : Xs} {e : Expr} : mX sc T (.listM xs) e = (ob1 (asList e) fun es => decide (es.length ≤ 100) && mXs sc T xs es) := rfl
theorem mX_tup_eq {xs : Xs} {e : Expr} : mX sc T (.tup xs) e = (ob1 (asTup e) fun es => decide (es.length ≤ 100) && mXs sc T xs es) := rfl
theorem mX_dictM_eq {kvs : List (Int × Bool)} {e : Expr} : mX sc T (.dictM kvs) e = (ob2 (asDict e) fun ks vs => mDict kvs ks vs && decide (ks.length ≤ 10)) := rfl
theorem mX_len_eq {x : X} {e : Expr} : mX sc T (.len x) e = (oc1 (asCall e) fun fe y => isGlob sc lenS fe && notStar y && mX sc T x y) := rfl
theorem mX_copy_eq {x : X} {e : Expr} : mX sc T (.copy x) e = (oc1 (asCall e) fun fe y => isGlob sc listS fe && notStar y && mX sc T x y) := rfl
theorem mX_copyM_eq {x : X} {e : Expr} : mX sc T (.copyM x) e = (oc1 (asCall e) fun fe y => isGlob sc listS fe && notStar y && mX sc T x y) := rfl
theorem mX_sorted_eq {x : X} {e : Expr} : mX sc T (.sorted x) e = (oc1 (asCall e) fun fe y => isGlob sc sortedS fe && notStar y && mX sc T x y) := rfl
theorem mX_toInt_eq {x : X} {e : Expr} : mX sc T (.toInt x) e = (oc1 (asCall e) fun fe y => isGlob sc intS fe && notStar y && mX sc T x y) := rfl
theorem mX_repr_eq {x : X} {e : Expr} : mX sc T (.repr x) e = (oc1 (asCall e) fun fe y => isGlob sc reprS fe && notStar y && mX sc T x y) := rfl
theorem mX_isTup_eq {x : X} {e : Expr} : mX sc T (.isTup x) e = (oc2 (asCall e) fun fe y g => isGlob sc isinstanceS fe && isGlob sc tupleS g && notStar y && mX sc T x y) := rfl
theorem mX_isBool_eq {x : X} {e : Expr} : mX sc T (.isBool x) e = (oc2 (asCall e) fun fe y g => isGlob sc isinstanceS fe && isGlob sc boolS g && notStar y && mX sc T x y) := rfl
theorem mX_comp_eq {m : Nat} {x : X} {xs : Xs} {y : X} {e : Expr} : mX sc T (.comp m x xs y) e = (ob5 (asComp e) fun ee te ie ifs sc' => ob1 (asName te) fun t => scopeOk sc T t sc' && decide (ifs.length ≤ 1) && mIt sc m (mX sc T x) ie && mXs (relabelS sc sc') (T.map (slotIn sc') ++ [some (t, .local)]) xs ifs && mX (relabelS sc sc') (T.map (slotIn sc') ++ [some (t, .local)]) y ee) := rfl
theorem mX_kill_eq {x : X} {e : Expr} : mX sc T (.kill x) e = (mX sc T x e) := rfl
theorem mXs_nil_eq {es : List Expr} : mXs sc T .nil es = (l0 es) := rfl
theorem mXs_cons_eq {x : X} {xs : Xs} {es : List Expr} : mXs sc T (.cons x xs) es = (lc es fun e es => notStar e && mX sc T x e && mXs sc T xs es) := rfl
end Mine
end

/-! ### InvS -/
section
open PySem PySem.W PyProof.Rows
set_option tactic.hygienic false
set_option linter.unusedVariables false
namespace Mine
variable {α β γ δ : Type} {P : Prop} {ns : List Int} {C : Calls'} {ρ : List V} {H : List O} {sc : Scope} {T : List Slot} {e : Expr} {s : Stmt}
theorem om1_elim {o : Option (Expr × Str × List Expr × Bool)} {f : Expr → Str → Expr → Bool → Bool} (h : om1 o f = true) (k : ∀ a c d g, o = some (a, c, [d], g) → f a c d g = true → P) : P :=
  ob4_elim h fun a c l g q h => l1_elim (R := fun l => o = some (a, c, l, g) → P) h (fun d h q => k a c d g q h) q
theorem ott_elim {o p : Option (List Expr)} {f : List Expr → List Expr → Bool} (h : ott o p f = true) (k : ∀ a c, o = some a → p = some c → f a c = true → P) : P :=
  ob1_elim h fun a q h => ob1_elim h fun c q2 h => k a c q q2 h
theorem otc_elim {o : Option (List Expr)} {p : Option (Expr × List Expr)} {f : Expr → Expr → Expr → Expr → Bool} (h : otc o p f = true) (k : ∀ a c d g, o = some [a, c] → p = some (d, [g]) → f a c d g = true → P) : P :=
  ob1_elim h fun l q h => l2_elim (R := fun l => o = some l → P) h (fun a c h q => oc1_elim h fun d g q2 h => k a c d g q q2 h) q
theorem ot2_elim {o p : Option (List Expr)} {f : Expr → Expr → Expr → Expr → Bool} (h : ot2 o p f = true) (k : ∀ a c d g, o = some [a, c] → p = some [d, g] → f a c d g = true → P) : P :=
  ob1_elim h fun l q h => l2_elim (R := fun l => o = some l → P) h (fun a c h q => ob1_elim h fun l q2 h => l2_elim (R := fun l => p = some l → P) h (fun d g h q2 => k a c d g q q2 h) q2) q
theorem oss_elim {o p : Option (Expr × Expr)} {f : Expr → Expr → Expr → Expr → Bool} (h : oss o p f = true) (k : ∀ a c d g, o = some (a, c) → p = some (d, g) → f a c d g = true → P) : P :=
  ob2_elim h fun a c q h => ob2_elim h fun d g q2 h => k a c d g q q2 h
section
variable {R : Stmt → Prop}
theorem sAssign_elim {t v p} (h : sAssign s = some (t, v, p)) (k : R (.Assign [t] v p)) : R s := sAssign_eq h ▸ k
theorem sRet_elim {v} (h : sRet s = some v) (k : ∀ p, R (.Return (some v) p)) : R s := (sRet_eq h).elim fun p q => q ▸ k p
theorem sExpr_elim {v} (h : sExpr s = some v) (k : ∀ p, R (.Expr v p)) : R s := (sExpr_eq h).elim fun p q => q ▸ k p
theorem sIf_elim {c a d} (h : sIf s = some (c, a, d)) (k : ∀ p, R (.If c a d p)) : R s := (sIf_eq h).elim fun p q => q ▸ k p
theorem sWhile_elim {c a} (h : sWhile s = some (c, a)) (k : ∀ p, R (.While c a [] p)) : R s := (sWhile_eq h).elim fun p q => q ▸ k p
theorem sFor_elim {t i a} (h : sFor s = some (t, i, a)) (k : ∀ p, R (.For t i a [] p)) : R s := (sFor_eq h).elim fun p q => q ▸ k p
end
theorem isCompX_elim {R : X → Prop} {x : X} : isCompX x = true → (∀ a c d f, R (.comp a c d f)) → R x := by
  cases x <;> first | exact fun h _ => ff_elim h | exact fun _ k => k _ _ _ _
theorem isKill_elim {R : S → Prop} {x : S} : isKill x = true → (∀ i, R (.killV i)) → R x := by
  cases x <;> first | exact fun h _ => ff_elim h | exact fun _ k => k _
theorem mS_asg_eq {i : Nat} {x : X} {s : Stmt} : mS sc T (.asg i x) s = (ob3 (sAssign s) fun t v p => isSlot sc T i t && (notComp v || isCompX x) && mX sc T x v) := rfl
theorem mS_asgT_eq {is : List Nat} {xs : Xs} {s : Stmt} : mS sc T (.asgT is xs) s = (ob3 (sAssign s) fun t v p => ott (asTup t) (asTup v) fun ts vs => (l2 ts (fun _ _ => true) || decide (4 ≤ ts.length)) && decide (is.Nodup) && !(vs.all (constantsAlone 8)) && decide (is.length = ts.length) && decide (vs.length = ts.length) && decide (vs.length ≤ 100) && areSlots sc T is ts && mXs sc T xs vs) := rfl
theorem mS_setA_eq {o : X} {n : Nat} {x : X} {s : Stmt} : mS sc T (.setA o n x) s = (ob3 (sAssign s) fun t v p => ob2 (asAttr t) fun oe a => decide (a = fname n) && decide (n < 22) && mX sc T o oe && mX sc T x v) := rfl
theorem mS_setI_eq {o : X} {ix : X} {x : X} {s : Stmt} : mS sc T (.setI o ix x) s = (ob3 (sAssign s) fun t v p => ob2 (asSub t) fun oe ie => notSlice ie && mX sc T o oe && mX sc T ix ie && mX sc T x v) := rfl
theorem mS_setTA_eq {i : Nat} {fs : List Nat} {xs : Xs} {s : Stmt} : mS sc T (.setTA i fs xs) s = (ob3 (sAssign s) fun t v p => ott (asTup t) (asTup v) fun ts vs => decide (4 ≤ ts.length) && decide (fs.length = ts.length) && decide (vs.length = ts.length) && decide (vs.length ≤ 100) && areAttrs sc T (.var i) fs ts && mXs sc T xs vs) := rfl
theorem mS_setTI_eq {o1 : X} {i1 : X} {o2 : X} {i2 : X} {x1 : X} {x2 : X} {s : Stmt} : mS sc T (.setTI o1 i1 o2 i2 x1 x2) s = (ob3 (sAssign s) fun t v p => ot2 (asTup t) (asTup v) fun t1 t2 v1 v2 => oss (asSub t1) (asSub t2) fun a1 j1 a2 j2 => notSlice j1 && notSlice j2 && mX sc T o1 a1 && mX sc T i1 j1 && mX sc T o2 a2 && mX sc T i2 j2 && mX sc T x1 v1 && mX sc T x2 v2 && notStar v1 && notStar v2) := rfl
theorem mS_app_eq {o : X} {x : X} {s : Stmt} : mS sc T (.app o x) s = (ob1 (sExpr s) fun e => om1 (asMeth e) fun oe n a c => decide (n = appendS) && c && (asName oe).isSome && notStar a && mX sc T o oe && mX sc T x a) := rfl
theorem mS_ini_eq {n : Nat} {xs : Xs} {s : Stmt} : mS sc T (.ini n xs) s = (ob1 (sExpr s) fun e => ob4 (asMeth e) fun ce m as c => decide (m = initS) && c && decide (n = 13) && isGlob sc heapObjectS ce && decide (as.length ≤ 20) && mXs sc T xs as) := rfl
theorem mS_ifs_eq {x : X} {a : S} {c : S} {s : Stmt} : mS sc T (.ifs x a c) s = (ob3 (sIf s) fun ce as bs => mX sc T x ce && mSs sc T a as && mSs sc T c bs) := rfl
theorem mS_whl_eq {n : Nat} {x : X} {a : S} {s : Stmt} : mS sc T (.whl n x a) s = (ob2 (sWhile s) fun ce bs => mX sc T x ce && mSs sc T a bs) := rfl
theorem mS_forL_eq {i : Nat} {x : X} {a : S} {s : Stmt} : mS sc T (.forL i x a) s = (ob3 (sFor s) fun t e bs => isSlot sc T i t && notSet e && mX sc T x e && mSs sc T a bs) := rfl
theorem mS_forR_eq {i : Nat} {x : X} {a : S} {s : Stmt} : mS sc T (.forR i x a) s = (ob3 (sFor s) fun t e bs => oc1 (asCall e) fun fe y => isSlot sc T i t && isGlob sc rangeS fe && notStar y && mX sc T x y && mSs sc T a bs) := rfl
theorem mS_forE_eq {i : Nat} {j : Nat} {x : X} {a : S} {s : Stmt} : mS sc T (.forE i j x a) s = (ob3 (sFor s) fun t e bs => otc (asTup t) (asCall e) fun t1 t2 fe y => decide (i ≠ j) && isSlot sc T i t1 && isSlot sc T j t2 && isGlob sc enumS fe && notStar y && mX sc T x y && mSs sc T a bs) := rfl
theorem mS_ret_eq {x : X} {s : Stmt} : mS sc T (.ret x) s = (ob1 (sRet s) fun e => mX sc T x e) := rfl
theorem mSs_skip_eq {ss : List Stmt} : mSs sc T .skip ss = (l0 ss) := rfl
theorem mSs_seq_eq {a : S} {b : S} {ss : List Stmt} : mSs sc T (.seq a b) ss = (cond (isKill a) (mSs sc T b ss) (lc ss fun s ss => mS sc T a s && mSs sc T b ss)) := rfl
end Mine
end

/-! ### Sound1 -/
section
set_option tactic.hygienic false
set_option genSizeOf false
set_option bootstrap.genMatcherCode false
open PySem PySem.W PyProof.Rows PySem.Calls
set_option linter.unusedVariables false
namespace Mine

structure Room (A : Around) (n : Nat) : Prop where
  handled : A.handled = none
  depth : A.depth + 2 * n + 8 < recursionLimit
  units : A.units + 20 * n + 200 < cLine
theorem Room.unit {A : Around} {n : Nat} (r : Room A n) : A.units < cLine := by have := r.units; omega
theorem Room.unit64 {A : Around} {n : Nat} (r : Room A n) : A.units + 64 < cLine := by have := r.units; omega

/-- the room that a call finds -/
structure RoomC (A : Around) (n : Nat) : Prop where
  handled : A.handled = none
  depth : A.depth + 2 * n + 7 < recursionLimit
  units : A.units + 20 * n + 190 < cLine
theorem Room.call {A : Around} {n : Nat} (r : Room A n) : RoomC A n := ⟨r.handled, by have := r.depth; omega, by have := r.units; omega⟩
theorem RoomC.deeper {A : Around} {n : Nat} (r : RoomC A (n + 1)) (env : Env) : Room (A.deeper env) n := ⟨r.handled, by show A.depth + 1 + 2 * n + 8 < _; have := r.depth; omega, by show A.units + 3 + 20 * n + 200 < _; have := r.units; omega⟩

noncomputable def builtinsUsed : List (Str × Value) := [(lenS, .builtin "len"), (listS, .type "list"), (sortedS, .builtin "sorted"), (intS, .type "int"), (reprS, .builtin "repr"), (isinstanceS, .builtin "isinstance"), (tupleS, .type "tuple"), (boolS, .type "bool"),
  (rangeS, .type "range"), (enumS, .type "enumerate")]

theorem bu_len : (lenS, Value.builtin "len") ∈ builtinsUsed := List.mem_of_getElem? (i := 0) rfl
theorem bu_list : (listS, Value.type "list") ∈ builtinsUsed := List.mem_of_getElem? (i := 1) rfl
theorem bu_sorted : (sortedS, Value.builtin "sorted") ∈ builtinsUsed := List.mem_of_getElem? (i := 2) rfl
theorem bu_int : (intS, Value.type "int") ∈ builtinsUsed := List.mem_of_getElem? (i := 3) rfl
theorem bu_repr : (reprS, Value.builtin "repr") ∈ builtinsUsed := List.mem_of_getElem? (i := 4) rfl
theorem bu_isinstance : (isinstanceS, Value.builtin "isinstance") ∈ builtinsUsed := List.mem_of_getElem? (i := 5) rfl
theorem bu_tuple : (tupleS, Value.type "tuple") ∈ builtinsUsed := List.mem_of_getElem? (i := 6) rfl
theorem bu_bool : (boolS, Value.type "bool") ∈ builtinsUsed := List.mem_of_getElem? (i := 7) rfl
theorem bu_range : (rangeS, Value.type "range") ∈ builtinsUsed := List.mem_of_getElem? (i := 8) rfl
theorem bu_enumerate : (enumS, Value.type "enumerate") ∈ builtinsUsed := List.mem_of_getElem? (i := 9) rfl

/-- what the text's classes are, in the frozen part -/
structure KF (K : Frag) : Prop where
  ga : ∀ c, c < 3 → findIn K (.ref (clsAddr c)) "__getattribute__" = some (some (.builtin "object.__getattribute__"))
  hd : ∀ c, c < 3 → hasDictIn K (clsAddr c) = true
  fl : ∀ c, c < 3 → ∀ n ∈ fieldsOf c, findIn K (.ref (clsAddr c)) (fname n) = some none
  sa : ∀ c, c < 3 → findIn K (.ref (clsAddr c)) "__setattr__" = some (some (.builtin "object.__setattr__"))
  po : ∀ c, c < 3 → plainOver K (clsAddr c) = true
  keepF : ∀ f, f < 39 → keepIn K (.ref (fnAddrs.getD f 0)) = true
  keepC : ∀ c, c < 3 → keepIn K (.ref (clsAddr c)) = true
  make : ∀ c, c < 3 → makesIn K (clsAddr c) = true
  ini : ∀ c, c < 3 → findIn K (.ref (clsAddr c)) "__init__" = some (some (.ref (fnAddrs.getD (initOf c) 0)))
  hga : specialIn K (.ref 129) "__getattribute__" = some (some (.builtin "type.__getattribute__"))
  hrd : readsIn K 129 (.type "type") = true
  hini : findCls K (.ref 129) (.type "type") (Str.ofString "__init__") = some (.val (.ref 126))
  iniT : ∀ c, c < 3 → typeIn K (.ref (fnAddrs.getD (initOf c) 0)) = some (.type "function")

structure Ok (b : Base) (ns : List Int) (K : Frag) (mg mb : Str → Option Value) : Prop where
  X : K.In b.h₀
  g : b.h₀.Ns mainGlobals mg
  bl : b.h₀.Ns builtinsNs mb
  bb : ∀ x : Str, x ≠ "__name__" → mb x = bootBuiltins x
  lim : b.h₀.NoLimit
  low : sysModules < b.h₀.objs.size
  scr : ∃ vs, b.h₀.IsList b.scr vs.toArray ∧ IntsAre vs ns ∧ vs.length ≤ sizeLine
  fn : ∀ f, f < 39 → fnNames.getD f Str.empty ≠ Str.empty → mg (fnNames.getD f Str.empty) = some (.ref (fnAddrs.getD f 0))
  cls : ∀ c, c < 3 → mg (clsNames.getD c Str.empty) = some (.ref (clsAddr c))
  hobj : mg heapObjectS = some (.ref 129)
  const : ∀ g d, gtab[g]? = some d → ∃ v, mg (gNames.getD g Str.empty) = some v ∧ FR (fun _ => False) b.h₀ d v
  kf : KF K
  none : ∀ p ∈ builtinsUsed, mg p.1 = none ∧ bootBuiltins p.1 = some p.2 ∧ p.1 ≠ "__name__"

structure EnvOk (sc : Scope) (env : Env) : Prop where
  scope : env.scope = sc
  kind : sc.kind = .function
  globals : env.globals = mainGlobals
  builtins : env.builtins = builtinsNs

/-- the frame at hand: its names and what they hold -/
structure Slots (b : Base) (B₀ : Addr → Prop) (sc : Scope) (T : List Slot) (env : Env) (ρ : List V) (μ : Mu) (H : List O) (h : Heap) : Prop where
  eok : EnvOk sc env
  own : B₀ env.locals
  ownC : ∀ x c, env.cells.lookup x = some c → B₀ c
  len : ρ.length = T.length
  ns : ∃ m, h.Ns env.locals m ∧ ∀ (i : Nat) (x : Str) (v : V), T[i]? = some (some (x, .local)) → ρ[i]? = some v → v ≠ .undef → ∃ rv, m x = some rv ∧ VR b.scr μ (Bad B₀ μ H) h v rv
  cs : ∀ (i : Nat) (x : Str), T[i]? = some (some (x, .cell)) → ∃ c v₀, env.cells.lookup x = some c ∧ h.IsCell c v₀ ∧ ∀ v, ρ[i]? = some v → v ≠ .undef → ∃ rv, v₀ = some rv ∧ VR b.scr μ (Bad B₀ μ H) h v rv

variable {b : Base} {ns : List Int} {K : Frag} {mg mb : Str → Option Value} {B₀ : Addr → Prop} {sc : Scope} {T : List Slot} {env : Env} {ρ : List V} {μ μ' : Mu} {H H' : List O} {s s' : Shared}

theorem Slots.step (L : Slots b B₀ sc T env ρ μ H s.heap) (S : St b B₀ μ H s.heap) (P : Step b B₀ μ H s μ' H' s') : Slots b B₀ sc T env ρ μ' H' s'.heap where
  eok := L.eok
  own := L.own
  ownC := L.ownC
  len := L.len
  ns := by
    obtain ⟨m, hn, hm⟩ := L.ns
    refine ⟨m, hn.at' fun o e => P.keep _ o e fun l => (l.lt S).2.2 L.own, fun i x v h1 h2 h3 => ?_⟩
    obtain ⟨rv, e, r⟩ := hm i x v h1 h2 h3
    exact ⟨rv, e, VR.step P r⟩
  cs := fun i x h1 => by
    obtain ⟨c, v₀, e, ⟨o, ho, hd⟩, hv⟩ := L.cs i x h1
    refine ⟨c, v₀, e, ⟨o, P.keep _ o ho fun l => (l.lt S).2.2 (L.ownC _ _ e), hd⟩, fun v h2 h3 => ?_⟩
    obtain ⟨rv, e', r⟩ := hv v h2 h3
    exact ⟨rv, e', VR.step P r⟩

/-- what is said of a call -/
noncomputable def CallsOk (b : Base) (C : Calls') (n : Nat) : Prop := ∀ (f : Nat) (vs : List V) (H : List O) (v : V) (H' : List O), C f vs H = some (v, H') → f < 39 →
  ∀ (A : Around) (s : Shared) (μ : Mu) (B₀ : Addr → Prop) (rvs : List Value) (R : Result → Shared → Prop), RoomC A n → St b B₀ μ H s.heap → All2 (VR b.scr μ (Bad B₀ μ H) s.heap) vs rvs →
  (∀ rv s' μ', Step b B₀ μ H s μ' H' s' → VR b.scr μ' (Bad B₀ μ' H') s'.heap v rv → R (.ok (.ret rv)) s') → codeAny (model b.prog b.w) A (.call (.ref (fnAddrs.getD f 0)) ⟨rvs, []⟩) R s

noncomputable def EvG (b : Base) (n : Nat) (sc : Scope) (T : List Slot) (e : Expr) (ρ : List V) (H : List O) (v : V) (H' : List O) : Prop :=
  ∀ ⦃A : Around⦄ {s : Shared} {μ : Mu} {B₀ : Addr → Prop} {env : Env}, Room A n → St b B₀ μ H s.heap → Slots b B₀ sc T env ρ μ H s.heap →
  ∀ {Q : Value → Shared → Prop} {E : Value → Shared → Prop}, (∀ rv s' μ', Step b B₀ μ H s μ' H' s' → VR b.scr μ' (Bad B₀ μ' H') s'.heap v rv → Q rv s') → wpAny (model b.prog b.w) A (eval e env) Q E s
noncomputable def EvOK (b : Base) (ns : List Int) (C : Calls') (n : Nat) (x : X) : Prop := ∀ {sc : Scope} {T : List Slot} {e : Expr}, mX sc T x e = true → ∀ {ρ : List V} {H : List O} {v : V} {H' : List O}, ev ns C x ρ H = some (v, H') → EvG b n sc T e ρ H v H'

noncomputable def TrG (b : Base) (n : Nat) (sc : Scope) (T : List Slot) (e : Expr) (ρ : List V) (H : List O) (k : Bool) (H' : List O) : Prop :=
  ∀ ⦃A : Around⦄ {s : Shared} {μ : Mu} {B₀ : Addr → Prop} {env : Env}, Room A n → St b B₀ μ H s.heap → Slots b B₀ sc T env ρ μ H s.heap →
  ∀ {Q : Bool → Shared → Prop} {E : Value → Shared → Prop}, (∀ s' μ', Step b B₀ μ H s μ' H' s' → Q k s') → wpAny (model b.prog b.w) A (isTrue e env (eval e env)) Q E s
noncomputable def TrOK (b : Base) (ns : List Int) (C : Calls') (n : Nat) (x : X) : Prop := ∀ {sc : Scope} {T : List Slot} {e : Expr}, mX sc T x e = true → ∀ {ρ : List V} {H : List O} {k : Bool} {H' : List O}, ev ns C x ρ H = some (.d (.bool k), H') → TrG b n sc T e ρ H k H'

noncomputable def EvsG (b : Base) (n : Nat) (sc : Scope) (T : List Slot) (es : List Expr) (ρ : List V) (H : List O) (vs : List V) (H' : List O) : Prop :=
  ∀ ⦃A : Around⦄ {s : Shared} {μ : Mu} {B₀ : Addr → Prop} {env : Env}, Room A n → St b B₀ μ H s.heap → Slots b B₀ sc T env ρ μ H s.heap →
  ∀ {pos : Pos} {Q : List Value → Shared → Prop} {E : Value → Shared → Prop}, (∀ rvs s' μ', Step b B₀ μ H s μ' H' s' → All2 (VR b.scr μ' (Bad B₀ μ' H') s'.heap) vs rvs → Q rvs s') → wpAny (model b.prog b.w) A (spliced (backTo pos (starEach es env))) Q E s
noncomputable def EvsOK (b : Base) (ns : List Int) (C : Calls') (n : Nat) (xs : Xs) : Prop := ∀ {sc : Scope} {T : List Slot} {es : List Expr}, mXs sc T xs es = true → ∀ {ρ : List V} {H : List O} {vs : List V} {H' : List O}, evs ns C xs ρ H = some (vs, H') → EvsG b n sc T es ρ H vs H'

noncomputable def bopOf (k : Bool) : BoolOp := if k then .And else .Or
noncomputable def EvBG (b : Base) (n : Nat) (sc : Scope) (T : List Slot) (es : List Expr) (k : Bool) (ρ : List V) (H : List O) (v : V) (H' : List O) : Prop :=
  ∀ ⦃A : Around⦄ {s : Shared} {μ : Mu} {B₀ : Addr → Prop} {env : Env}, Room A n → St b B₀ μ H s.heap → Slots b B₀ sc T env ρ μ H s.heap → es ≠ [] →
  ∀ {pos : Pos} {Q : Value → Shared → Prop} {E : Value → Shared → Prop}, (∀ rv s' μ', Step b B₀ μ H s μ' H' s' → VR b.scr μ' (Bad B₀ μ' H') s'.heap v rv → Q rv s') → wpAny (model b.prog b.w) A (boolOp pos (bopOf k) (evalEach es env)) Q E s
noncomputable def EvBOK (b : Base) (ns : List Int) (C : Calls') (n : Nat) (xs : Xs) : Prop := ∀ {sc : Scope} {T : List Slot} {es : List Expr}, mXs sc T xs es = true → ∀ {k : Bool} {ρ : List V} {H : List O} {v : V} {H' : List O}, evB ns C k xs ρ H = some (v, H') → EvBG b n sc T es k ρ H v H'
noncomputable def AllG (b : Base) (n : Nat) (sc : Scope) (T : List Slot) (es : List Expr) (k : Bool) (ρ : List V) (H : List O) (r : Bool) (H' : List O) : Prop :=
  ∀ ⦃A : Around⦄ {s : Shared} {μ : Mu} {B₀ : Addr → Prop} {env : Env}, Room A n → St b B₀ μ H s.heap → Slots b B₀ sc T env ρ μ H s.heap →
  ∀ {Q : Bool → Shared → Prop} {E : Value → Shared → Prop}, (∀ s' μ', Step b B₀ μ H s μ' H' s' → Q r s') → wpAny (model b.prog b.w) A (allTrue (bopOf k) es env) Q E s
noncomputable def AllOK (b : Base) (ns : List Int) (C : Calls') (n : Nat) (xs : Xs) : Prop := ∀ {sc : Scope} {T : List Slot} {es : List Expr}, mXs sc T xs es = true → ∀ {k : Bool} {ρ : List V} {H : List O} {r : Bool} {H' : List O}, evB ns C k xs ρ H = some (.d (.bool r), H') → AllG b n sc T es k ρ H r H'

/-! ## names -/
theorem eval_debug {y : Str} (h : y ≠ debugS) : (y == ("__debug__" : Str)) = false := by
  simpa [debugS] using h

theorem ev_var (ok : Ok b ns K mg mb) {C : Calls'} {n i : Nat} : EvOK b ns C n (.var i) := by
  intro sc T e hm ρ H v H' hv
  refine ob1_elim (mX_var_eq.symm.trans hm) fun y hy hm => ob1_elim hm fun t hT hm => ob2_elim hm fun x k ht hm => and_elim hm fun hm hd => and_elim hm fun hm hkk => and_elim hm fun q hk => ?_
  obtain rfl := dec_elim q
  refine oh_elim (ev_var_eq.symm.trans hv) fun v' e1 hv => nu_elim (Q := fun v H' => EvG b n sc T e ρ H v H') hv fun e2 => asName_elim (R := fun e => EvG b n sc T e ρ H v' H) hy fun p => ?_
  intro A s μ B₀ env hr S L Q E hQ
  have hkind : env.scope.kind = .function := L.eok.scope ▸ L.eok.kind
  have hkof : env.kindOf y = some k := show env.scope.names.lookup y = _ from L.eok.scope ▸ dec_elim hk
  refine wpAny_Name (bor_elim hkk (fun q => ?_) fun q => ?_) (eval_debug (dec_elim hd))
  · obtain rfl := eq_of_beq q
    obtain ⟨m, hn, hm'⟩ := L.ns
    obtain ⟨rv, e3, r⟩ := hm' i y v' (ht ▸ hT) e1 e2
    exact wpAny_loadName_local hkind hkof hn e3 (hQ rv s μ (Step.refl S) r)
  · obtain rfl := eq_of_beq q
    obtain ⟨c, v₀, e3, hc, hv⟩ := L.cs i y (ht ▸ hT)
    obtain ⟨rv, rfl, r⟩ := hv v' e1 e2
    exact wpAny_loadName_cell hkind hkof e3 hc (hQ rv s μ (Step.refl S) r)

theorem glob_elim {x : Str} {e : Expr} {R : Expr → Prop} (hG : isGlob sc x e = true) (k : ∀ p, sc.names.lookup x = some .globalImplicit → (x == ("__debug__" : Str)) = false → R (.Name x p)) : R e :=
  ob1_elim hG fun y hy hG => and_elim hG fun hG hd => and_elim hG fun q hk => asName_elim hy fun p => by
    obtain rfl := dec_elim q
    exact k p (dec_elim hk) (eval_debug (dec_elim hd))
/-- a global name -/
theorem glob_name {A : Around} {x : Str} {e : Expr} {v : Value} (hG : isGlob sc x e = true) (S : St b B₀ μ H s.heap) (L : EnvOk sc env) (ok : Ok b ns K mg mb) (hx : mg x = some v) {Q : Value → Shared → Prop} {E : Value → Shared → Prop} (h : Q v s) :
    wpAny (model b.prog b.w) A (eval e env) Q E s :=
  glob_elim (R := fun e => wpAny (model b.prog b.w) A (eval e env) Q E s) hG fun p hk hd =>
    Name_function_global (L.scope ▸ L.kind) (show env.scope.names.lookup x = _ from L.scope ▸ hk) (loadGlobal_global (mg := mg) (L.globals ▸ ok.g.keeps S.base) hx h) hd
theorem glob_builtin {A : Around} {x : Str} {e : Expr} {v : Value} (hG : isGlob sc x e = true) (S : St b B₀ μ H s.heap) (L : EnvOk sc env) (ok : Ok b ns K mg mb) (hx : (x, v) ∈ builtinsUsed) {Q : Value → Shared → Prop} {E : Value → Shared → Prop} (h : Q v s) :
    wpAny (model b.prog b.w) A (eval e env) Q E s :=
  have n := ok.none _ hx
  glob_elim (R := fun e => wpAny (model b.prog b.w) A (eval e env) Q E s) hG fun p hk hd =>
    Name_function_global (L.scope ▸ L.kind) (show env.scope.names.lookup x = _ from L.scope ▸ hk) (loadGlobal_builtin (mg := mg) (mb := mb) (L.globals ▸ ok.g.keeps S.base) n.1 (L.builtins ▸ ok.bl.keeps S.base) ((ok.bb _ n.2.2).trans n.2.1) h) hd

theorem ev_glob (ok : Ok b ns K mg mb) {C : Calls'} {n g : Nat} : EvOK b ns C n (.glob g) := by
  intro sc T e hm ρ H v H' hv
  refine and_elim (mX_glob_eq.symm.trans hm) fun hm _ => oh_elim (ev_glob_eq.symm.trans hv) fun d hd hv => sp_elim (Q := fun v H' => EvG b n sc T e ρ H v H') hv ?_
  intro A s μ B₀ env hr S L Q E hQ
  obtain ⟨rv, h1, h2⟩ := ok.const g d hd
  exact glob_name hm S L.eok ok h1 (hQ rv s μ (Step.refl S) (FR.mono (fun a o e _ => ⟨S.base a o e, not_bad_base S e⟩) h2))

/-! ## constants -/
theorem ev_cst {C : Calls'} {n : Nat} {d : D} : EvOK b ns C n (.cst d) := by
  intro sc T e hm ρ H v H' hv
  refine sp_elim (Q := fun v H' => EvG b n sc T e ρ H v H') hv ?_
  clear hv
  have hm : mConst d e = true := hm
  cases d with
  | none => exact asConst_elim (R := fun e => EvG b n sc T e ρ H (.d .none) H) (dec_elim hm) fun k p A s μ B₀ env hr S L Q E hQ => wpAny_Constant_none (hQ _ _ _ (Step.refl S) .none)
  | bool i => exact asConst_elim (R := fun e => EvG b n sc T e ρ H (.d (.bool i)) H) (dec_elim hm) fun k p A s μ B₀ env hr S L Q E hQ => wpAny_Constant_bool (hQ _ _ _ (Step.refl S) (.bool _))
  | int i =>
    refine bor_elim hm (fun hm => ?_) fun hm => ob2_elim hm fun o x hu hm => and_elim hm fun q hx => asUn_elim (R := fun e => EvG b n sc T e ρ H (.d (.int i)) H) hu fun p => ?_
    · exact asConst_elim (R := fun e => EvG b n sc T e ρ H (.d (.int i)) H) (dec_elim hm) fun k p A s μ B₀ env hr S L Q E hQ => wpAny_Constant_int (hQ _ _ _ (Step.toks (Step.refl S)) (.int _ _))
    · obtain rfl := dec_elim q
      exact asConst_elim (R := fun x => EvG b n sc T (.UnaryOp .USub x p) ρ H (.d (.int i)) H) (dec_elim hx) fun k p A s μ B₀ env hr S L Q E hQ => wpAny_UnaryOp (wpAny_Constant_int (PyProof.Rows.neg_int ((Int.neg_neg i).symm ▸ hQ _ _ _ (Step.toks (Step.refl S)) (.int _ _))))
  | str i => exact asConst_elim (R := fun e => EvG b n sc T e ρ H (.d (.str i)) H) (dec_elim hm) fun k p A s μ B₀ env hr S L Q E hQ => wpAny_Constant_str (hQ _ _ _ (Step.toks (Step.refl S)) (.str _ _))
  | bytes i => exact asConst_elim (R := fun e => EvG b n sc T e ρ H (.d (.bytes i)) H) (dec_elim hm) fun k p A s μ B₀ env hr S L Q E hQ _ _ _ => hQ _ _ _ (Step.toks (Step.refl S)) (.bytes _ _)
  | lst _ => exact ff_elim hm
  | tup _ => exact ff_elim hm
  | obj _ _ => exact ff_elim hm
end Mine
end

/-! ### EqV -/
section
set_option tactic.hygienic false
set_option genSizeOf false
set_option bootstrap.genMatcherCode false
open PySem PySem.W PyProof.Rows PySem.Calls PySem.SeqAt
set_option linter.unusedVariables false
namespace Mine

/-- two lists of values carry the same list's items -/
theorem get_inj {h : Heap} {a : Addr} {o o' : Obj} (e : h.get? a = some o) (e' : h.get? a = some o') : o = o' := Option.some.inj (e.symm.trans e')
theorem seq_inj {d : Data} {x y : Array Value} {n m : Nat} (p : d = .seq x n) (q : d = .seq y m) : x = y := (Data.seq.inj (p.symm.trans q)).1
theorem isList_unique {h : Heap} {a : Addr} {x y : Array Value} (p : h.IsList a x) (q : h.IsList a y) : x = y :=
  p.elim fun _ p => q.elim fun _ q => p.2.2.elim fun _ p' => q.2.2.elim fun _ q' => seq_inj p' (get_inj p.1 q.1 ▸ q')
theorem isTuple_unique {h : Heap} {a : Addr} {x y : Array Value} (p : h.IsTuple a x) (q : h.IsTuple a y) : x = y :=
  p.elim fun _ p => q.elim fun _ q => p.2.2.elim fun _ p' => q.2.2.elim fun _ q' => seq_inj p' (get_inj p.1 q.1 ▸ q')
theorem type_inj {a b : String} (h : Value.type a = .type b) : a = b := by injection h
theorem type_ref {a : String} {b : Addr} (h : Value.type a = .ref b) : False := nomatch h
theorem list_not_tuple {h : Heap} {a : Addr} {x y : Array Value} (p : h.IsList a x) (q : h.IsTuple a y) : False :=
  p.elim fun _ p => q.elim fun _ q => absurd (type_inj (p.2.1.symm.trans (get_inj p.1 q.1 ▸ q.2.1))) (by decide)
theorem list_not_inst {h : Heap} {a C d : Addr} {x : Array Value} (p : h.IsList a x) (q : h.get? a = some (instObj C d)) : False :=
  p.elim fun _ p => type_ref (p.2.1.symm.trans (congrArg Obj.cls (get_inj p.1 q)))
theorem tuple_not_inst {h : Heap} {a C d : Addr} {x : Array Value} (p : h.IsTuple a x) (q : h.get? a = some (instObj C d)) : False :=
  p.elim fun _ p => type_ref (p.2.1.symm.trans (congrArg Obj.cls (get_inj p.1 q)))
theorem clsAddr_inj {c d : Nat} (hc : c < 3) (hd : d < 3) : clsAddr c = clsAddr d → c = d :=
  (show ∀ c, c < 3 → ∀ d, d < 3 → clsAddr c = clsAddr d → c = d by decide) c hc d hd
theorem ofList_inj {x y : List Value} (e : x.toArray = y.toArray) : x = y := congrArg Array.toList e
theorem ref_inj {a b : Addr} (h : Value.ref a = .ref b) : a = b := by injection h
theorem entries_inj {es es' : List DictEntry} {n n' : Nat} (h : dictOf es n = dictOf es' n') : es = es' := by
  have h := congrArg Obj.data h
  injection h with h1
  exact congrArg Array.toList h1
theorem inst_inj {C C' d d' : Addr} (h : instObj C d = instObj C' d') : C = C' ∧ d = d' :=
  ⟨ref_inj (congrArg Obj.cls h), Option.some.inj (congrArg Obj.dict h)⟩

theorem FRs.elim {B : Addr → Prop} {h : Heap} {R : List D → Prop} {xs : List D} {v : Value} {vs : List Value} (p : FRs B h xs (v :: vs)) (k : ∀ y ys, FR B h y v → FRs B h ys vs → R (y :: ys)) : R xs := by
  cases p with
  | cons a r => exact k _ _ a r
theorem FR.unique {B : Addr → Prop} {h : Heap} {x y : D} {v : Value} (p : FR B h x v) : FR B h y v → x = y :=
  FR.rec (motive_1 := fun x v _ => ∀ y, FR B h y v → x = y) (motive_2 := fun xs vs _ => ∀ ys, FRs B h ys vs → xs = ys)
    (fun y q => q.velim (R := fun y => D.none = y) rfl) (fun b y q => q.velim (R := fun y => D.bool b = y) rfl) (fun i t y q => q.velim (R := fun y => D.int i = y) rfl) (fun s t y q => q.velim (R := fun y => D.str s = y) rfl)
    (fun b t y q => q.velim (R := fun y => D.bytes b = y) fun l e => congrArg (fun a => D.bytes (Array.toList a)) e.symm)
    (fun {a xs vs} p z n f ih y q => q.velim (R := fun y => D.lst xs = y) ⟨fun ys ws p' g => congrArg D.lst (ih ys (ofList_inj (isList_unique p'.isList p.isList) ▸ g)), fun ys ws p' _ => (list_not_tuple p.isList p').elim, fun _ _ _ _ _ h1 _ _ _ => (list_not_inst p.isList h1).elim⟩)
    (fun {a xs vs} p z n f ih y q => q.velim (R := fun y => D.tup xs = y) ⟨fun ys ws p' _ => (list_not_tuple p'.isList p).elim, fun ys ws p' g => congrArg D.tup (ih ys (ofList_inj (isTuple_unique p' p) ▸ g)), fun _ _ _ _ _ h1 _ _ _ => (tuple_not_inst p h1).elim⟩)
    (fun {a c dx fs es n} h1 h2 en hc b1 b2 f ih y q => q.velim (R := fun y => D.obj c fs = y) ⟨fun ys ws p' _ => (list_not_inst p'.isList h1).elim, fun ys ws p' _ => (tuple_not_inst p' h1).elim, fun c' dx' es' n' fs' h1' h2' hc' g => by
      have e := inst_inj (get_inj h1 h1')
      obtain rfl := clsAddr_inj hc hc' e.1
      exact congrArg (D.obj c) (ih _ (entries_inj (get_inj (e.2 ▸ h2') h2) ▸ g))⟩)
    (fun ys q => by cases q; rfl)
    (fun {x v xs vs} a r ia ir ys q => q.elim (R := fun ys => x :: xs = ys) fun y ys a' r' => congr (congrArg List.cons (ia y a')) (ir ys r'))
    p y

/-! ## equality, by cases -/
theorem eqF_elim {P : D → D → Bool → Prop} {g : List D → List D → Option Bool} {x y : D} {r : Bool} (e : eqF g x y = some r) (none : P .none .none true) (nt : ∀ ys, P .none (.tup ys) false) (tn : ∀ xs, P (.tup xs) .none false)
    (bool : ∀ a b, P (.bool a) (.bool b) (a == b)) (int : ∀ a b, P (.int a) (.int b) (a == b)) (str : ∀ a b, P (.str a) (.str b) (a == b)) (bytes : ∀ a b, P (.bytes a) (.bytes b) (a == b))
    (lst : ∀ xs ys, g xs ys = some r → P (.lst xs) (.lst ys) r) (tup : ∀ xs ys, g xs ys = some r → P (.tup xs) (.tup ys) r) : P x y r := by
  cases x with
  | none => cases y <;> first | exact no_some e | exact so_1 (R := P _ _) e none | exact so_1 (R := P _ _) e (nt _)
  | bool a => exact bd_elim (R := fun y => P (.bool a) y r) e fun b e => so_1 (R := P _ _) e (bool a b)
  | int a => exact id_elim (R := fun y => P (.int a) y r) e fun b e => so_1 (R := P _ _) e (int a b)
  | str a => cases y <;> first | exact no_some e | exact so_1 (R := P _ _) e (str a _)
  | bytes a => cases y <;> first | exact no_some e | exact so_1 (R := P _ _) e (bytes a _)
  | lst a => exact ld_elim (R := fun y => P (.lst a) y r) e fun b e => lst a b e
  | tup a => cases y <;> first | exact no_some e | exact so_1 (R := P _ _) e (tn a) | exact tup a _ e
  | obj c a => exact no_some e
theorem eqL_self {f : D → D → Option Bool} (hf : ∀ x r, f x x = some r → r = true) {xs : List D} : ∀ {r : Bool}, eqL f xs xs = some r → r = true := by
  induction xs with
  | nil => exact fun e => (Option.some.inj e).symm
  | cons x xs ih => exact fun e => oh_elim e fun a h1 e => oh_elim e fun c h2 e => so_1 (R := fun r => r = true) e (by rw [hf x a h1, ih h2]; rfl)
theorem beq_self' {α : Type} [BEq α] [ReflBEq α] {x : α} {r : Bool} (e : some (x == x) = some r) : r = true := so_1 (R := fun r => r = true) e BEq.rfl
theorem eqF_self {g : List D → List D → Option Bool} (hg : ∀ xs r, g xs xs = some r → r = true) (x : D) (r : Bool) (e : eqF g x x = some r) : r = true := by
  cases x with
  | none => exact (Option.some.inj e).symm
  | bool a => exact beq_self' (x := a) e
  | int a => exact beq_self' (x := a) e
  | str a => exact beq_self' (x := a) e
  | bytes a => exact beq_self' (x := a) e
  | lst a => exact hg a r e
  | tup a => exact hg a r e
  | obj c a => exact no_some e
theorem eqD_self (k : Nat) : ∀ (x : D) (r : Bool), eqD k x x = some r → r = true := by
  induction k with
  | zero => exact eqF_self fun _ _ e => no_some e
  | succ k ih => exact eqF_self fun _ _ e => eqL_self ih e

/-- the elementwise answer -/
noncomputable def pairE (f : D → D → Option Bool) (xs ys : List D) (j : Nat) : Bool := (oh xs[j]? fun x => oh ys[j]? fun y => f x y).getD true
theorem range_all (p : Nat → Bool) (n : Nat) : (List.range (n + 1)).all p = (p 0 && (List.range n).all fun j => p (j + 1)) := by
  rw [List.range_succ_eq_map, List.all_cons, List.all_map]; rfl
theorem eqL_spec {f : D → D → Option Bool} {xs : List D} : ∀ {ys : List D} {r : Bool}, eqL f xs ys = some r →
    (∀ (j : Nat) (x y : D), xs[j]? = some x → ys[j]? = some y → f x y = some (pairE f xs ys j)) ∧ r = ((List.range (min xs.length ys.length)).all (pairE f xs ys) && xs.length == ys.length) := by
  induction xs with
  | nil =>
    intro ys r e
    refine ⟨fun j x y h => no_some h, so_1 (R := fun r => r = _) e ?_⟩
    cases ys with
    | nil => rfl
    | cons y ys => exact (Bool.and_false _).symm
  | cons x xs ih =>
    intro ys r e
    cases ys with
    | nil => exact ⟨fun j x y _ h => no_some h, so_1 (R := fun r => r = _) e rfl⟩
    | cons y ys =>
      refine oh_elim e fun a h1 e => oh_elim e fun c h2 e => so_1 (R := fun r => _ ∧ r = _) e ?_
      obtain ⟨i1, i2⟩ := ih h2
      have hp : pairE f (x :: xs) (y :: ys) 0 = a := congrArg (Option.getD · true) h1
      refine ⟨fun j x' y' e1 e2 => ?_, ?_⟩
      · cases j with
        | zero => exact Option.some.inj e1 ▸ Option.some.inj e2 ▸ hp.symm ▸ h1
        | succ j => exact i1 j x' y' e1 e2
      · rw [i2, List.length_cons, List.length_cons, Nat.succ_min_succ, range_all, hp, ← Bool.and_assoc]
        exact congrArg _ (by simp)

theorem rc_bytes {A : Around} {s : Shared} (x : List UInt8) (t : Tok) (y : List UInt8) (u : Tok) : RcAt A s (.bytes x.toArray t) (.bytes y.toArray u) (x == y) := fun prog w E Q h =>
  PySem.W.eq_bytes (prog := prog) (w := w) (A := A) (E := E) (Q := Q) (by simpa using h)
theorem rcNe_bytes {A : Around} {s : Shared} (x : List UInt8) (t : Tok) (y : List UInt8) (u : Tok) : RcNeAt A s (.bytes x.toArray t) (.bytes y.toArray u) (!(x == y)) := fun prog w E Q h =>
  PySem.W.ne_bytes (prog := prog) (w := w) (A := A) (E := E) (Q := Q) (by simpa [bne] using h)
theorem eqAt_of_rc {A : Around} {s : Shared} {v u : Value} {r : Bool} (hv : ∀ x t, v ≠ .float x t) (hs : v = u → r = true) (h : RcAt A s v u r) : EqAt A s v u r := fun prog w E Q hq => by
  unfold eqBool
  refine wpAny_holding ?_
  refine wpAny_ite_split (fun hab => ?_) (fun _ => ?_)
  · rw [hs (eq_of_beq hab)] at hq
    exact wpAny_bind (wpAny_rule (wpAny_pure hq))
  · have z := h prog w E (fun c s' => wpAny (model prog w) A (truthOfDropped c) Q E s') (by exact wpAny_truthy_bool hq)
    cases v <;> first | exact absurd rfl (hv _ _) | exact wpAny_bind z
theorem FR.notFloat {B : Addr → Prop} {h : Heap} {d : D} {v : Value} (p : FR B h d v) : ∀ x t, v ≠ .float x t := fun x t e => FR.velim (v := .float x t) (R := fun _ => False) (e ▸ p) trivial

/-- == and != of frozen data -/
noncomputable def EqG (s : Shared) (k : Nat) (B : Addr → Prop) (x y : D) (r : Bool) : Prop := ∀ ⦃A : Around⦄ {v u : Value}, A.units + k < cLine → FR B s.heap x v → FR B s.heap y u → RcAt A s v u r ∧ RcNeAt A s v u (!r)
theorem EqG.lt {A : Around} {k : Nat} (h : A.units + k < cLine) : A.units < cLine := Nat.lt_of_le_of_lt (Nat.le_add_right _ _) h
theorem eqG_items {B : Addr → Prop} {s : Shared} {k : Nat} (ih : ∀ {x y : D} {r : Bool}, eqD k x y = some r → EqG s k B x y r) {A : Around} (hu : A.units + (k + 1) < cLine) {xs ys : List D} {vs ws : List Value} (f : FRs B s.heap xs vs) (g : FRs B s.heap ys ws) {r : Bool} (e : eqL (eqD k) xs ys = some r) :
    (∀ j (h1 : j < vs.toArray.size) (h2 : j < ws.toArray.size), EqAt A.in1 s vs.toArray[j] ws.toArray[j] (pairE (eqD k) xs ys j)) ∧ r = ((List.range (min vs.toArray.size ws.toArray.size)).all (pairE (eqD k) xs ys) && vs.toArray.size == ws.toArray.size) := by
  have a1 := frs_all2 f
  have a2 := frs_all2 g
  have i := eqL_spec e
  rw [a1.length, a2.length] at i
  refine ⟨fun j h1 h2 => ?_, i.2⟩
  obtain ⟨v', e1, r1⟩ := a1.get (List.getElem?_eq_getElem (Nat.lt_of_lt_of_eq h1 a1.length.symm))
  obtain ⟨u', e2, r2⟩ := a2.get (List.getElem?_eq_getElem (Nat.lt_of_lt_of_eq h2 a2.length.symm))
  have ee := i.1 j _ _ (List.getElem?_eq_getElem (Nat.lt_of_lt_of_eq h1 a1.length.symm)) (List.getElem?_eq_getElem (Nat.lt_of_lt_of_eq h2 a2.length.symm))
  have g1 : vs.toArray[j] = v' := (List.getElem?_eq_some_iff.mp e1).2
  have g2 : ws.toArray[j] = u' := (List.getElem?_eq_some_iff.mp e2).2
  rw [g1, g2]
  refine eqAt_of_rc r1.notFloat (fun q => ?_) (ih ee (A := A.in1) (show A.units + 1 + k < cLine from Nat.add_right_comm .. ▸ hu) r1 r2).1
  exact eqD_self k _ _ ((FR.unique r1 (q ▸ r2)).symm ▸ ee)
theorem eqG_atoms {B : Addr → Prop} {s : Shared} {k : Nat} {g : List D → List D → Option Bool} {x y : D} {r : Bool} (e : eqF g x y = some r) (lst : ∀ xs ys, g xs ys = some r → EqG s k B (.lst xs) (.lst ys) r) (tup : ∀ xs ys, g xs ys = some r → EqG s k B (.tup xs) (.tup ys) r) : EqG s k B x y r :=
  eqF_elim (P := EqG s k B) e
    (fun A v u hu p q => p.elim (R := fun v => RcAt A s v u _ ∧ RcNeAt A s v u _) (q.elim (R := fun u => RcAt A s .none u _ ∧ RcNeAt A s .none u _) ⟨.none_none, .none_none⟩))
    (fun ys A v u hu p q => p.elim (R := fun v => RcAt A s v u _ ∧ RcNeAt A s v u _) (q.elim (R := fun u => RcAt A s .none u _ ∧ RcNeAt A s .none u _) fun a vs h _ _ _ => ⟨.none_tuple h (EqG.lt hu), .none_tuple h (EqG.lt hu)⟩))
    (fun xs A v u hu p q => p.elim (R := fun v => RcAt A s v u _ ∧ RcNeAt A s v u _) fun a vs h _ _ _ => (q.elim (R := fun u => RcAt A s (.ref a) u _ ∧ RcNeAt A s (.ref a) u _) ⟨.tuple_none h (EqG.lt hu), .tuple_none h (EqG.lt hu)⟩))
    (fun a b A v u hu p q => p.elim (R := fun v => RcAt A s v u _ ∧ RcNeAt A s v u _) (q.elim (R := fun u => RcAt A s (.bool a) u _ ∧ RcNeAt A s (.bool a) u _) ⟨.bool_bool _ _, .bool_bool _ _⟩))
    (fun a b A v u hu p q => p.elim (R := fun v => RcAt A s v u _ ∧ RcNeAt A s v u _) fun t => (q.elim (R := fun u => RcAt A s (.int a t) u _ ∧ RcNeAt A s (.int a t) u _) fun t' => ⟨.int_int _ _ _ _, .int_int _ _ _ _⟩))
    (fun a b A v u hu p q => p.elim (R := fun v => RcAt A s v u _ ∧ RcNeAt A s v u _) fun t => (q.elim (R := fun u => RcAt A s (.str a t) u _ ∧ RcNeAt A s (.str a t) u _) fun t' => ⟨.str_str _ _ _ _, .str_str _ _ _ _⟩))
    (fun a b A v u hu p q => p.elim (R := fun v => RcAt A s v u _ ∧ RcNeAt A s v u _) fun t => (q.elim (R := fun u => RcAt A s (.bytes a.toArray t) u _ ∧ RcNeAt A s (.bytes a.toArray t) u _) fun t' => ⟨rc_bytes _ _ _ _, rcNe_bytes _ _ _ _⟩))
    lst tup
theorem eq_frozen {B : Addr → Prop} {s : Shared} (k : Nat) : ∀ {x y : D} {r : Bool}, eqD k x y = some r → EqG s k B x y r := by
  induction k with
  | zero => exact fun e => eqG_atoms e (fun _ _ h => no_some h) fun _ _ h => no_some h
  | succ k ih =>
    refine fun {x y r} e => eqG_atoms e (fun xs ys e A v u hu p q => ?_) fun xs ys e A v u hu p q => ?_
    · refine p.elim (R := fun v => RcAt A s v u r ∧ RcNeAt A s v u !r) fun a vs hl z nb f => q.elim (R := fun u => RcAt A s (.ref a) u r ∧ RcNeAt A s (.ref a) u !r) fun a' ws hl' z' nb' f' => ?_
      have h := eqG_items ih hu f f' e
      by_cases hsz : vs.toArray.size = ws.toArray.size
      · rw [h.2, hsz, Nat.min_self, beq_self_eq_true, Bool.and_true, ← hsz]
        exact ⟨.lists hl.isList hl'.isList hsz (EqG.lt hu) h.1, .lists hl.isList hl'.isList hsz (EqG.lt hu) h.1⟩
      · have e2 : (vs.toArray.size == ws.toArray.size) = false := beq_false_of_ne hsz
        rw [h.2, e2, Bool.and_false]
        exact ⟨.lists_lengths hl.isList hl'.isList (congrArg not e2) (EqG.lt hu), .lists_lengths hl.isList hl'.isList (congrArg not e2) (EqG.lt hu)⟩
    · refine p.elim (R := fun v => RcAt A s v u r ∧ RcNeAt A s v u !r) fun a vs hl z nb f => q.elim (R := fun u => RcAt A s (.ref a) u r ∧ RcNeAt A s (.ref a) u !r) fun a' ws hl' z' nb' f' => ?_
      have h := eqG_items ih hu f f' e
      rw [h.2]
      exact ⟨.tuples hl hl' (EqG.lt hu) h.1, .tuples hl hl' (EqG.lt hu) h.1⟩
end Mine
end

/-! ### Sound2 -/
section
set_option tactic.hygienic false
set_option genSizeOf false
set_option bootstrap.genMatcherCode false
open PySem PySem.W PyProof.Rows PySem.Calls PySem.SeqAt
set_option linter.unusedVariables false
set_option linter.unusedSimpArgs false
namespace Mine
variable {b : Base} {ns : List Int} {K : Frag} {mg mb : Str → Option Value} {B₀ : Addr → Prop} {sc : Scope} {T : List Slot} {env : Env} {ρ : List V} {μ μ' : Mu} {H H' : List O} {s s' : Shared} {C : Calls'} {n : Nat}

/-! ## small inversions -/
section
variable {B : Addr → Prop} {h : Heap} {v : Value} {R : Value → Prop}
@[elab_as_elim] theorem fr_int {i : Int} (p : FR B h (.int i) v) (k : ∀ t, R (.int i t)) : R v := p.elim k
@[elab_as_elim] theorem fr_bool {c : Bool} (p : FR B h (.bool c) v) (k : R (.bool c)) : R v := p.elim k
@[elab_as_elim] theorem fr_none (p : FR B h .none v) (k : R .none) : R v := p.elim k
@[elab_as_elim] theorem fr_lstP {xs : List D} (p : FR B h (.lst xs) v) (k : ∀ a vs, h.PlainList a (List.toArray vs) → vs.length ≤ sizeLine → ¬ B a → FRs B h xs vs → R (.ref a)) : R v := p.elim k
@[elab_as_elim] theorem fr_lst {xs : List D} (p : FR B h (.lst xs) v) (k : ∀ a vs, h.IsList a (List.toArray vs) → vs.length ≤ sizeLine → ¬ B a → FRs B h xs vs → R (.ref a)) : R v := p.elim fun a vs q => k a vs q.isList
@[elab_as_elim] theorem fr_tup {xs : List D} (p : FR B h (.tup xs) v) (k : ∀ a vs, h.IsTuple a (List.toArray vs) → vs.length ≤ sizeLine → ¬ B a → FRs B h xs vs → R (.ref a)) : R v := p.elim k
end
theorem small_lt {a : Int} (h : small a = true) : a.natAbs < 2 ^ 64 := dec_elim h

/-- a token more, before the rest -/
theorem Step.tok (S : St b B₀ μ H s.heap) {tk : Nat} : Step b B₀ μ H s μ H { s with toks := tk } := Step.toks (Step.refl S)
theorem st_tok {h : Heap} (S : St b B₀ μ H h) : St b B₀ μ H h := S

theorem op_ok {op : Op} {i j k : Int} (h : opI op i j = some k) {t u : Tok} {A : Around} {Q : Value → Shared → Prop} {E : Value → Shared → Prop} (hQ : ∀ t' tk, Q (.int k t') { s with toks := tk }) :
    wpAny (model b.prog b.w) A (binaryOp (opOf op) (.int i t) (.int j u)) Q E s := by
  have hq : ∀ {a}, some a = some k → ∀ t' tk, Q (.int a t') { s with toks := tk } := fun e => Option.some.inj e ▸ hQ
  clear hQ
  cases op with
  | add => exact PyProof.Rows.add_int (hq h _ _)
  | sub => exact PyProof.Rows.sub_int (hq h _ _)
  | mul =>
    refine if_elim h fun hs h => and_elim hs fun hs _ => PyProof.Rows.mul_int (hq h _ _) (IntMulOk.of_left (intBits_le_64 ?_ ?_))
    all_goals have := small_lt hs; omega
  | fdiv =>
    refine if_elim h fun hs h => and_elim hs fun hs h0 => and_elim hs fun _ hs => PyProof.Rows.floordiv_int (dec_elim h0) (hq h _ _) (.inl (PyProof.noPylong_of_log2 ?_))
    by_cases h0 : j.natAbs = 0
    · rw [h0]; decide +kernel
    · have : j.natAbs.log2 < 64 := (Nat.log2_lt h0).mpr (small_lt hs)
      omega
  | mod => exact if_elim h fun hs h => PyProof.Rows.mod_int' (dec_elim hs) (hq h _ _)
  | shl => exact if_elim h fun hs h => and_elim hs fun hs h2 => and_elim hs fun h0 h1 => PyProof.Rows.lshift_int_small (dec_elim h1) (Int.le_trans (dec_elim h2) (by decide)) (small_lt h0) (hq h _ _)
  | shr => exact if_elim h fun hs h => PyProof.Rows.rshift_int (dec_elim hs) (hq h _ _)
  | band => exact PyProof.Rows.and_int (hq h _ _)
  | bor => exact PyProof.Rows.or_int (hq h _ _)

theorem ev_bin {op : Op} {x y : X} (hx : EvOK b ns C n x) (hy : EvOK b ns C n y) : EvOK b ns C n (.bin op x y) := by
  intro sc T e hm ρ H v H' hv
  refine ob3_elim (mX_bin_eq.symm.trans hm) fun l o r he hm => and_elim hm fun w1 h2 => and_elim w1 fun q2 h1 => asBin_elim (R := fun e => EvG b n sc T e ρ H v H') he fun p => ?_
  obtain rfl := dec_elim q2
  refine ih_elim (ev_bin_eq.symm.trans hv) fun i H1 e1 hv => ih_elim hv fun j H2 e2 hv => oh_elim hv fun k e3 hv => sp_elim hv ?_
  intro A s μ B₀ env hr S L Q E hQ
  refine wpAny_BinOp (hx h1 e1 hr S L fun rv s1 μ1 P1 V1 => hy h2 e2 hr P1.st (L.step S P1) fun ru s2 μ2 P2 V2 => ?_)
  refine fr_int V1 fun t => fr_int V2 fun u => ?_
  exact op_ok e3 fun t' tk => hQ _ _ μ2 ((P1.trans P2).trans (Step.tok P2.st)) (.int _ _)

theorem ev_inv {x : X} (hx : EvOK b ns C n x) : EvOK b ns C n (.inv x) := by
  intro sc T e hm ρ H v H' hv
  refine ob2_elim (mX_inv_eq.symm.trans hm) fun o y he hm => and_elim hm fun q3 h1 => asUn_elim (R := fun e => EvG b n sc T e ρ H v H') he fun p => ?_
  obtain rfl := dec_elim q3
  refine ih_elim (ev_inv_eq.symm.trans hv) fun i H1 e1 hv => sp_elim hv ?_
  intro A s μ B₀ env hr S L Q E hQ
  refine wpAny_UnaryOp (hx h1 e1 hr S L fun rv s1 μ1 P1 V1 => ?_)
  refine fr_int V1 fun t => ?_
  exact PyProof.Rows.invert_int (hQ _ _ μ1 (P1.trans (Step.tok P1.st)) (.int _ _))

theorem ev_not {x : X} (hx : EvOK b ns C n x) : EvOK b ns C n (.not x) := by
  intro sc T e hm ρ H v H' hv
  refine ob2_elim (mX_not_eq.symm.trans hm) fun o y he hm => and_elim hm fun q4 h1 => asUn_elim (R := fun e => EvG b n sc T e ρ H v H') he fun p => ?_
  obtain rfl := dec_elim q4
  refine bh_elim (ev_not_eq.symm.trans hv) fun i H1 e1 hv => sp_elim hv ?_
  intro A s μ B₀ env hr S L Q E hQ
  refine wpAny_UnaryOp (hx h1 e1 hr S L fun rv s1 μ1 P1 V1 => ?_)
  refine fr_bool V1 ?_
  exact not_value (wpAny_truthy_bool (hQ _ _ μ1 P1 (.bool _)))
theorem tr_not {x : X} (hx : TrOK b ns C n x) : TrOK b ns C n (.not x) := by
  intro sc T e hm ρ H v H' hv
  refine ob2_elim (mX_not_eq.symm.trans hm) fun o y he hm => and_elim hm fun q5 h1 => asUn_elim (R := fun e => TrG b n sc T e ρ H v H') he fun p => ?_
  obtain rfl := dec_elim q5
  refine bh_elim (ev_not_eq.symm.trans hv) fun i H1 e1 hv => spb_elim hv ?_
  intro A s μ B₀ env hr S L Q E hQ
  exact wpAny_isTrue_Not (hx h1 e1 hr S L fun s1 μ1 P1 => hQ _ μ1 P1)

/-! ## comparisons -/
noncomputable def isI (a : Int) : Value → Bool
  | .int i _ => i == a
  | _ => false
theorem intsOf_spec {B : Addr → Prop} {h : Heap} {A : Around} {xs : List D} : ∀ {is : List Int} {vs : List Value}, intsOf xs = some is → All2 (FR B h) xs vs → ∀ (a : Int) (t : Tok), (∀ y ∈ vs, EqAt A s y (.int a t) (isI a y)) ∧ vs.any (isI a) = is.contains a := by
  induction xs with
  | nil => exact fun e f a t => f.elim (P := fun vs => (∀ y ∈ vs, EqAt A s y (.int a t) (isI a y)) ∧ vs.any (isI a) = List.contains _ a) (so_1 (R := fun is => (∀ y ∈ [], EqAt A s y (.int a t) (isI a y)) ∧ List.any [] (isI a) = List.contains is a) e ⟨fun y h => (nomatch h), rfl⟩)
  | cons x xs ih =>
    refine fun e f a t => f.elim (P := fun vs => (∀ y ∈ vs, EqAt A s y (.int a t) (isI a y)) ∧ vs.any (isI a) = List.contains _ a) fun v vs r f => ?_
    refine id_elim (R := fun x => FR B h x v → _) e (fun i e r => oh_elim e fun is' e' e => fr_int r fun t' => ?_) r
    have ii := ih e' f a t
    refine so_1 (R := fun is => _ ∧ _ = List.contains is a) e ⟨fun y hy => (List.mem_cons.mp hy).elim (fun q => q ▸ EqAt.int_int _ _ _ _) (ii.1 y), ?_⟩
    rw [List.any_cons, ii.2, List.contains_cons]
    exact congrArg (· || is'.contains a) (show (i == a) = (a == i) from BEq.comm)
theorem ints_at {B : Addr → Prop} {h : Heap} {A : Around} {xs : List D} {is : List Int} {vs : List Value} (e : intsOf xs = some is) (f : FRs B h xs vs) (a : Int) (t : Tok) : (∀ y, y ∈ vs.toArray → EqAt A s y (.int a t) (isI a y)) ∧ vs.toArray.any (isI a) = is.contains a := by
  have i := intsOf_spec (A := A) (s := s) e (frs_all2 f) a t
  exact ⟨fun y hy => i.1 y (List.mem_toArray.mp hy), List.any_toArray.trans i.2⟩

theorem lookI_cons {k : Int} {a : Int × V} {r : List (Int × V)} : lookI k (a :: r) = if k = a.1 then some a.2 else lookI k r := rfl
theorem dict_look {prog : Program} {w : World} {R : V → Value → Prop} {kvs : List (Int × V)} {ps : List (Int × Value)} (h : All2 (fun a c => a.1 = c.1 ∧ R a.2 c.2) kvs ps) (k : Int) :
    (lookI k kvs).isSome = (valueAt ps k).isSome ∧ ∀ v, lookI k kvs = some v → ∃ rv, valueAt ps k = some rv ∧ R v rv := by
  induction h with
  | nil => exact ⟨rfl, fun v e => no_some e⟩
  | @cons a c as bs r f ih =>
    have hv : valueAt (c :: bs) k = if k = a.1 then some c.2 else valueAt bs k := by
      unfold valueAt
      rw [List.find?_cons]
      by_cases hk : k = a.1
      · rw [if_pos hk, decide_eq_true (hk.trans r.1).symm]; rfl
      · rw [if_neg hk, decide_eq_false fun q => hk (r.1.trans q).symm]
    rw [hv, lookI_cons]
    by_cases hk : k = a.1
    · rw [if_pos hk, if_pos hk]
      exact ⟨rfl, fun v e => so_1 (R := fun v => ∃ rv, some c.2 = some rv ∧ R v rv) e ⟨_, rfl, r.2⟩⟩
    · rw [if_neg hk, if_neg hk]
      exact ih

theorem getO_get {l : Nat} {o : O} (e : getO H l = o) (ho : o.live = true) : H[l]? = some o := by
  have e : (H[l]?).getD .dead = o := e
  cases h : H[l]? with
  | none => rw [h] at e; have e : O.dead = o := e; subst e; exact ff_elim ho
  | some o' => rw [h] at e; exact congrArg some e
theorem mu_of (S : St b B₀ μ H s.heap) {l : Nat} {p : Addr × Addr} {o : O} (e1 : μ[l]? = some p) (e : H[l]? = some o) : OR b.prog b.w b.scr μ (Bad B₀ μ H) s.heap o p := S.objs l p o e1 e
theorem not_modules (ok : Ok b ns K mg mb) (S : St b B₀ μ H s.heap) {l : Nat} {p : Addr × Addr} (e1 : μ[l]? = some p) : (p.1 == sysModules) = false := by
  have h1 := (S.mu l p e1).1.1
  have h2 := ok.low
  exact beq_eq_false_iff_ne.mpr (Nat.ne_of_gt (Nat.lt_of_lt_of_le h2 h1))

/-- what a comparison is worth -/
noncomputable def CmpG (b : Base) (A : Around) (op : CmpOp) (s : Shared) (c : Bool) (v u : Value) : Prop := ∀ ⦃Q : Value → Shared → Prop⦄ ⦃E : Value → Shared → Prop⦄, (∀ tk, Q (.bool c) { s with toks := tk }) → wpAny (model b.prog b.w) A (compareOp op v u) Q E s
theorem seqD_elim {R : D → List D → Prop} {d : D} {xs : List D} (h : seqD d = some xs) (k1 : ∀ xs, R (.lst xs) xs) (k2 : ∀ xs, R (.tup xs) xs) : R d xs := by
  cases d <;> first | exact no_some h | exact so_1 (R := R _) h (k1 _) | exact so_1 (R := R _) h (k2 _)
theorem dict_elim {R : O → Bool → Prop} {k : Int} {o : O} {c : Bool} (h : inO k o = some c) (f : ∀ kvs, R (.dict kvs) (lookI k kvs).isSome) : R o c := by
  cases o <;> first | exact no_some h | exact so_1 (R := R _) h (f _)
section
variable {A : Around} {c : Bool} {v u : Value} {B : Addr → Prop} {k : Int} {d : D} {t : Tok}
theorem in_d (hc : (oh (seqD d) fun xs => oh (intsOf xs) fun is => some (is.contains k)) = some c) (hy : FR B s.heap d u) : CmpG b A .In s c (.int k t) u :=
  oh_elim hc fun xs e1 hc => oh_elim hc fun is e2 hc => so_1 (R := fun c => CmpG b A .In s c (.int k t) u) hc (seqD_elim (R := fun d xs => FR B s.heap d u → intsOf xs = some is → CmpG b A .In s (is.contains k) (.int k t) u) e1
    (fun xs hy e2 Q E hQ => fr_lst hy fun a vs hl z nb f => in_listAt (isI k) hl (ints_at e2 f k t).1 ((ints_at (A := A) (s := s) e2 f k t).2 ▸ hQ s.toks))
    (fun xs hy e2 Q E hQ => fr_tup hy fun a vs hl z nb f => in_tupleAt (isI k) hl (ints_at e2 f k t).1 ((ints_at (A := A) (s := s) e2 f k t).2 ▸ hQ s.toks)) hy e2)
theorem nin_d (hc : (ld' d fun xs => oh (intsOf xs) fun is => some (!is.contains k)) = some c) (hy : FR B s.heap d u) : CmpG b A .NotIn s c (.int k t) u :=
  ld_elim (R := fun d => FR B s.heap d u → CmpG b A .NotIn s c (.int k t) u) hc (fun xs hc hy => oh_elim hc fun is e2 hc => so_1 (R := fun c => CmpG b A .NotIn s c (.int k t) u) hc fun Q E hQ => fr_lst hy fun a vs hl z nb f => notIn_listAt (isI k) hl (ints_at e2 f k t).1 ((ints_at (A := A) (s := s) e2 f k t).2 ▸ hQ s.toks)) hy
variable (ok : Ok b ns K mg mb) (S : St b B₀ μ H s.heap) {l : Nat} (hy : VR b.scr μ (Bad B₀ μ H) s.heap (.loc l) u)
include ok S hy
theorem in_o (hc : inO k (getO H l) = some c) : CmpG b A .In s c (.int k t) u := by
  obtain ⟨p, e1, rfl⟩ := hy
  refine dict_elim (R := fun o c => getO H l = o → CmpG b A .In s c (.int k t) (.ref p.1)) hc (fun kvs e Q E hQ => ?_) rfl
  obtain ⟨_, ps, hd, _, f⟩ := S.objs _ p _ e1 (getO_get e rfl)
  exact wpAny_in_of (intKind_is _ _ _ _) (not_modules ok S e1) hd.mapOf ((dict_look (prog := b.prog) (w := b.w) f _).1 ▸ hQ _)
theorem nin_o (hc : inO k (getO H l) = some c) : CmpG b A .NotIn s (!c) (.int k t) u := by
  obtain ⟨p, e1, rfl⟩ := hy
  refine dict_elim (R := fun o c => getO H l = o → CmpG b A .NotIn s (!c) (.int k t) (.ref p.1)) hc (fun kvs e Q E hQ => ?_) rfl
  obtain ⟨_, ps, hd, _, f⟩ := S.objs _ p _ e1 (getO_get e rfl)
  exact wpAny_notIn_of (intKind_is _ _ _ _) (not_modules ok S e1) hd.mapOf ((dict_look (prog := b.prog) (w := b.w) f _).1 ▸ hQ _)
end
theorem none_beq {B : Addr → Prop} {h : Heap} {d : D} {v : Value} (p : FR B h d v) : (v == .none) = isNone d := by
  cases d with
  | none => exact p.elim (R := fun v => (v == .none) = true) rfl
  | bool b => exact p.elim (R := fun v => (v == .none) = false) rfl
  | int i => exact p.elim (R := fun v => (v == .none) = false) fun _ => rfl
  | str i => exact p.elim (R := fun v => (v == .none) = false) fun _ => rfl
  | bytes i => exact p.elim (R := fun v => (v == .none) = false) fun _ => rfl
  | lst i => exact p.elim (R := fun v => (v == .none) = false) fun _ _ _ _ _ _ => rfl
  | tup i => exact p.elim (R := fun v => (v == .none) = false) fun _ _ _ _ _ _ => rfl
  | obj c i => exact p.elim (R := fun v => (v == .none) = false) fun _ _ _ _ _ _ _ _ _ _ _ => rfl
theorem Room.unit8 {A : Around} {n : Nat} (hr : Room A n) : A.units + 8 < cLine := Nat.lt_of_le_of_lt (Nat.le_trans (Nat.add_le_add (Nat.le_add_right _ (20 * n)) (by decide)) (Nat.le_refl _)) hr.units
theorem cmp_g (ok : Ok b ns K mg mb) {op : Cm} {x y : V} {c : Bool} {v u : Value} (hc : cmpV H op x y = some c) (S : St b B₀ μ H s.heap) (hx : VR b.scr μ (Bad B₀ μ H) s.heap x v) (hy : VR b.scr μ (Bad B₀ μ H) s.heap y u) {A : Around} (hr : Room A n) : CmpG b A (cmOf op) s c v u := by
  cases op with
  | eq => exact dv_elim (R := fun x => VR b.scr μ (Bad B₀ μ H) s.heap x v → _) hc (fun a hc hx => dv_elim (R := fun y => VR b.scr μ (Bad B₀ μ H) s.heap y u → _) hc (fun d hc hy Q E hQ => (eq_frozen 8 hc hr.unit8 hx hy).1 b.prog b.w E Q (hQ s.toks)) hy) hx
  | ne => exact dv_elim (R := fun x => VR b.scr μ (Bad B₀ μ H) s.heap x v → _) hc (fun a hc hx => dv_elim (R := fun y => VR b.scr μ (Bad B₀ μ H) s.heap y u → _) hc (fun d hc hy => oh_elim hc fun c' e hc => so_1 (R := fun c => CmpG b A .NotEq s c v u) hc fun Q E hQ => (eq_frozen 8 e hr.unit8 hx hy).2 b.prog b.w E Q (hQ s.toks)) hy) hx
  | lt => exact iv_elim (R := fun x => VR b.scr μ (Bad B₀ μ H) s.heap x v → _) hc (fun a hc hx => iv_elim (R := fun y => VR b.scr μ (Bad B₀ μ H) s.heap y u → _) hc (fun d hc hy => so_1 (R := fun c => CmpG b A .Lt s c v u) hc fun Q E hQ => fr_int hx fun t => fr_int hy fun t' => PyProof.Rows.lt_int (hQ s.toks)) hy) hx
  | le => exact iv_elim (R := fun x => VR b.scr μ (Bad B₀ μ H) s.heap x v → _) hc (fun a hc hx => iv_elim (R := fun y => VR b.scr μ (Bad B₀ μ H) s.heap y u → _) hc (fun d hc hy => so_1 (R := fun c => CmpG b A .LtE s c v u) hc fun Q E hQ => fr_int hx fun t => fr_int hy fun t' => PyProof.Rows.le_int (hQ s.toks)) hy) hx
  | is => exact dv_elim (R := fun x => VR b.scr μ (Bad B₀ μ H) s.heap x v → _) hc (fun a hc hx => dv_elim (R := fun y => VR b.scr μ (Bad B₀ μ H) s.heap y u → _) hc (fun d hc hy => nd_elim (R := fun d => FR _ _ d u → _) hc (fun hc hy => so_1 (R := fun c => CmpG b A .Is s c v u) hc fun Q E hQ => fr_none hy (is_none (none_beq hx ▸ hQ s.toks))) hy) hy) hx
  | isnot => exact dv_elim (R := fun x => VR b.scr μ (Bad B₀ μ H) s.heap x v → _) hc (fun a hc hx => dv_elim (R := fun y => VR b.scr μ (Bad B₀ μ H) s.heap y u → _) hc (fun d hc hy => nd_elim (R := fun d => FR _ _ d u → _) hc (fun hc hy => so_1 (R := fun c => CmpG b A .IsNot s c v u) hc fun Q E hQ => fr_none hy (isNot_none (none_beq hx ▸ hQ s.toks))) hy) hy) hx
  | isin =>
    refine iv_elim (R := fun x => VR b.scr μ (Bad B₀ μ H) s.heap x v → _) hc (fun a hc hx => fr_int hx fun t => ?_) hx
    cases y with
    | d d => exact in_d hc hy
    | loc l => exact in_o ok S hy hc
    | scr => exact no_some hc
    | undef => exact no_some hc
  | notin =>
    refine iv_elim (R := fun x => VR b.scr μ (Bad B₀ μ H) s.heap x v → _) hc (fun a hc hx => fr_int hx fun t => ?_) hx
    cases y with
    | d d => exact nin_d hc hy
    | loc l => exact oh_elim hc fun c' e hc => so_1 (R := fun c => CmpG b A .NotIn s c (.int a t) u) hc (nin_o ok S hy e)
    | scr => exact no_some hc
    | undef => exact no_some hc
theorem cmp_ok (ok : Ok b ns K mg mb) {op : Cm} {x y : V} {c : Bool} {v u : Value} (hc : cmpV H op x y = some c) (S : St b B₀ μ H s.heap) (hx : VR b.scr μ (Bad B₀ μ H) s.heap x v) (hy : VR b.scr μ (Bad B₀ μ H) s.heap y u) {A : Around} (hr : Room A n)
    {Q : Value → Shared → Prop} {E : Value → Shared → Prop} (hQ : ∀ tk, Q (.bool c) { s with toks := tk }) : wpAny (model b.prog b.w) A (compareOp (cmOf op) v u) Q E s := cmp_g ok hc S hx hy hr hQ
end Mine
end

/-! ### Sound3 -/
section
set_option tactic.hygienic false
set_option genSizeOf false
set_option bootstrap.genMatcherCode false
open PySem PySem.W PyProof.Rows PySem.Calls PySem.SeqAt
set_option linter.unusedVariables false
set_option linter.unusedSimpArgs false
namespace Mine
variable {b : Base} {ns : List Int} {K : Frag} {mg mb : Str → Option Value} {B₀ : Addr → Prop} {sc : Scope} {T : List Slot} {env : Env} {ρ : List V} {μ μ' : Mu} {H H' : List O} {s s' : Shared} {C : Calls'} {n : Nat}

theorem notSet_marks {op : CmpOp} {e : Expr} (h : notSet e = true) : behindInMarks op e = false := by
  cases e <;> first | rfl | exact ff_elim h
section
variable {M : Model} {A : Around} {E : Value → Shared → Prop}
theorem wp_rel {vs keep : List Value} {Q : Unit → Shared → Prop} (h : Q () s) : wpAny M A (release vs keep) Q E s := fun Γ p _ => by rw [Sem.wp_release]; exact h
theorem wp_operate {vs : List Value} {m : Sem Value} {Q : Value → Shared → Prop} (h : wpAny M A m Q E s) : wpAny M A (operate vs m) Q E s := fun Γ p hΓ => by rw [Sem.wp_operate]; exact h Γ p hΓ
theorem compare2 {l r1 r2 : Expr} {o1 o2 : CmpOp} {pos : Pos} {Q : Value → Shared → Prop} (h1 : notSet r1 = true) (h2 : notSet r2 = true)
    (h : wpAny M A (eval l env) (fun v s1 => wpAny M A (eval r1 env) (fun u s2 => wpAny M A (compareOp o1 v u) (fun c s3 => wpAny M A (truthy c) (fun t s4 => if t then wpAny M A (eval r2 env) (fun z s5 => wpAny M A (compareOp o2 u z) Q E s5) E s4 else Q c s4) E s3) E s2) E s1) E s) :
    wpAny M A (eval (.Compare l [o1, o2] [r1, r2] pos) env) Q E s := by
  have e : eval (.Compare l [o1, o2] [r1, r2] pos) env = (do compareChain pos (← eval l env) [o1, o2] (markedEach [o1, o2] [r1, r2] [eval r1 env, eval r2 env])) := rfl
  rw [e]
  have e2 : markedEach [o1, o2] [r1, r2] [eval r1 env, eval r2 env] = [eval r1 env, eval r2 env] := by
    exact congrArg (fun m => [eval r1 env, m]) (markedBehindIn_of_false (notSet_marks h2))
  rw [e2]
  refine wpAny_bind (wpAny_mono h (fun v s1 h1 => ?_) fun _ _ x => x)
  refine wpAny_bind (wpAny_holding (wpAny_mono h1 (fun u s2 h2 => wpAny_bind (wpAny_standAt (wpAny_bind (wpAny_holding (wpAny_mono h2 (fun c s3 h3 => wpAny_bind (wp_rel (wpAny_bind (wpAny_holding (wpAny_mono h3 (fun t s4 h4 => ?_) fun _ _ x => x))))) fun _ _ x => x))))) fun _ _ x => x))
  cases t with
  | true => exact wpAny_bind (wpAny_holding (wpAny_mono h4 (fun z s5 h5 => wpAny_bind (wpAny_standAt (wp_operate h5))) fun _ _ x => x))
  | false => exact wpAny_pure h4
theorem test2 {l r1 r2 : Expr} {o1 o2 : CmpOp} {pos : Pos} {whole : Sem Value} {Q : Bool → Shared → Prop} (h1 : notSet r1 = true) (h2 : notSet r2 = true)
    (h : wpAny M A (eval l env) (fun v s1 => wpAny M A (eval r1 env) (fun u s2 => wpAny M A (compareOp o1 v u) (fun c s3 => wpAny M A (truthy c) (fun t s4 => if t then wpAny M A (eval r2 env) (fun z s5 => wpAny M A (compareOp o2 u z) (fun c s6 => wpAny M A (truthy c) Q E s6) E s5) E s4 else Q false s4) E s3) E s2) E s1) E s) :
    wpAny M A (isTrue (.Compare l [o1, o2] [r1, r2] pos) env whole) Q E s := by
  have e : isTrue (.Compare l [o1, o2] [r1, r2] pos) env whole = (do testChain pos (← eval l env) [o1, o2] (markedEach [o1, o2] [r1, r2] [eval r1 env, eval r2 env])) := rfl
  rw [e]
  have e2 : markedEach [o1, o2] [r1, r2] [eval r1 env, eval r2 env] = [eval r1 env, eval r2 env] := by
    exact congrArg (fun m => [eval r1 env, m]) (markedBehindIn_of_false (notSet_marks h2))
  rw [e2]
  refine wpAny_bind (wpAny_mono h (fun v s1 h1 => ?_) fun _ _ x => x)
  refine wpAny_bind (wpAny_holding (wpAny_mono h1 (fun u s2 h2 => wpAny_bind (wpAny_standAt (wpAny_bind (wpAny_holding (wpAny_mono h2 (fun c s3 h3 => wpAny_bind (wp_rel (wpAny_bind (wpAny_holding (wpAny_mono h3 (fun t s4 h4 => ?_) fun _ _ x => x))))) fun _ _ x => x))))) fun _ _ x => x))
  cases t with
  | true => exact wpAny_bind (wpAny_holding (wpAny_mono h4 (fun z s5 h5 => wpAny_bind (wpAny_standAt (wpAny_bind (wp_operate (wpAny_mono h5 (fun c s6 h6 => wpAny_holding h6) fun _ _ x => x))))) fun _ _ x => x))
  | false => exact wpAny_pure h4
theorem boolOp_last {pos : Pos} {op : BoolOp} {t : Sem Value} {Q : Value → Shared → Prop} (h : wpAny M A t Q E s) : wpAny M A (boolOp pos op [t]) Q E s := h
theorem boolOp_cons {pos : Pos} {k : Bool} {t u : Sem Value} {r : List (Sem Value)} {Q : Value → Shared → Prop}
    (h : wpAny M A t (fun v s1 => wpAny M A (truthy v) (fun c s2 => if c = k then wpAny M A (boolOp pos (bopOf k) (u :: r)) Q E s2 else Q v s2) E s1) E s) : wpAny M A (boolOp pos (bopOf k) (t :: u :: r)) Q E s := by
  refine wpAny_bind (wpAny_mono h (fun v s1 h1 => wpAny_bind (wpAny_standAt (wpAny_bind (wpAny_holding (wpAny_mono h1 (fun c s2 h2 => ?_) fun _ _ x => x))))) fun _ _ x => x)
  cases k <;> cases c <;> first | exact wpAny_pure h2 | exact h2
end

theorem ev_cmp (ok : Ok b ns K mg mb) {op : Cm} {x y : X} (hx : EvOK b ns C n x) (hy : EvOK b ns C n y) : EvOK b ns C n (.cmp op x y) ∧ TrOK b ns C n (.cmp op x y) := by
  constructor <;> intro sc T e hm ρ H v H' hv
  · refine ocm1_elim (mX_cmp_eq.symm.trans hm) fun l o r he hm => and_elim hm fun hm h2 => and_elim hm fun hm h1 => and_elim hm fun q hs => asCmp_elim (R := fun e => EvG b n sc T e ρ H v H') he fun p => ?_
    obtain rfl := dec_elim q
    refine vh_elim (ev_cmp_eq.symm.trans hv) fun i H1 e1 hv => vh_elim hv fun j H2 e2 hv => oh_elim hv fun k e3 hv => sp_elim hv ?_
    intro A s μ B₀ env hr S L Q E hQ
    refine wpAny_Compare1 (hx h1 e1 hr S L fun rv s1 μ1 P1 V1 => hy h2 e2 hr P1.st (L.step S P1) fun ru s2 μ2 P2 V2 => ?_) (notSet_marks hs)
    exact cmp_ok ok e3 P2.st (VR.step P2 V1) V2 hr fun tk => hQ _ _ μ2 ((P1.trans P2).trans (Step.tok P2.st)) (.bool _)
  · refine ocm1_elim (mX_cmp_eq.symm.trans hm) fun l o r he hm => and_elim hm fun hm h2 => and_elim hm fun hm h1 => and_elim hm fun q hs => asCmp_elim (R := fun e => TrG b n sc T e ρ H v H') he fun p => ?_
    obtain rfl := dec_elim q
    refine vh_elim (ev_cmp_eq.symm.trans hv) fun i H1 e1 hv => vh_elim hv fun j H2 e2 hv => oh_elim hv fun k e3 hv => spb_elim hv ?_
    intro A s μ B₀ env hr S L Q E hQ
    refine wpAny_isTrue_Compare1 (hx h1 e1 hr S L fun rv s1 μ1 P1 V1 => hy h2 e2 hr P1.st (L.step S P1) fun ru s2 μ2 P2 V2 => ?_) (notSet_marks hs)
    exact cmp_ok ok e3 P2.st (VR.step P2 V1) V2 hr fun tk => wpAny_truthy_bool (hQ _ μ2 ((P1.trans P2).trans (Step.tok P2.st)))

theorem ev_cmp2 (ok : Ok b ns K mg mb) {o1 o2 : Cm} {x y z : X} (hx : EvOK b ns C n x) (hy : EvOK b ns C n y) (hz : EvOK b ns C n z) : EvOK b ns C n (.cmp2 o1 o2 x y z) := by
  intro sc T e hm ρ H v H' hv
  refine ocm2_elim (mX_cmp2_eq.symm.trans hm) fun l p1 p2 r1 r2 he hm => and_elim hm fun hm h3 => and_elim hm fun hm h2 => and_elim hm fun hm h1 => and_elim hm fun hm n2 => and_elim hm fun hm n1 => and_elim hm fun q1 q2 => asCmp_elim (R := fun e => EvG b n sc T e ρ H v H') he fun p => ?_
  obtain rfl := dec_elim q1
  obtain rfl := dec_elim q2
  refine vh_elim (ev_cmp2_eq.symm.trans hv) fun i H1 e1 hv => vh_elim hv fun j H2 e2 hv => oh_elim hv fun c c1 hv => ?_
  clear hm he
  intro A s μ B₀ env hr S L Q E hQ
  refine compare2 n1 n2 (hx h1 e1 hr S L fun rv s1 μ1 P1 V1 => hy h2 e2 hr P1.st (L.step S P1) fun ru s2 μ2 P2 V2 => cmp_ok ok c1 P2.st (VR.step P2 V1) V2 hr fun tk => wpAny_truthy_bool ?_)
  have Pt := Step.tok (tk := tk) P2.st
  have P12 := (P1.trans P2).trans Pt
  cases c with
  | true =>
    refine vh_elim hv fun w H3 e3 hv => oh_elim hv fun k c2 hv => hz h3 e3 hr Pt.st (L.step S P12) fun rz s3 μ3 P3 V3 => cmp_ok ok c2 P3.st (VR.step P3 (VR.step Pt V2)) V3 hr fun tk' => ?_
    obtain ⟨rfl, rfl⟩ := pair_inj hv
    exact hQ _ _ μ3 ((P12.trans P3).trans (Step.tok P3.st)) (.bool _)
  | false =>
    obtain ⟨rfl, rfl⟩ := pair_inj hv
    exact hQ _ _ μ2 P12 (.bool _)
theorem tr_cmp2 (ok : Ok b ns K mg mb) {o1 o2 : Cm} {x y z : X} (hx : EvOK b ns C n x) (hy : EvOK b ns C n y) (hz : EvOK b ns C n z) : TrOK b ns C n (.cmp2 o1 o2 x y z) := by
  intro sc T e hm ρ H v H' hv
  refine ocm2_elim (mX_cmp2_eq.symm.trans hm) fun l p1 p2 r1 r2 he hm => and_elim hm fun hm h3 => and_elim hm fun hm h2 => and_elim hm fun hm h1 => and_elim hm fun hm n2 => and_elim hm fun hm n1 => and_elim hm fun q1 q2 => asCmp_elim (R := fun e => TrG b n sc T e ρ H v H') he fun p => ?_
  obtain rfl := dec_elim q1
  obtain rfl := dec_elim q2
  refine vh_elim (ev_cmp2_eq.symm.trans hv) fun i H1 e1 hv => vh_elim hv fun j H2 e2 hv => oh_elim hv fun c c1 hv => ?_
  clear hm he
  intro A s μ B₀ env hr S L Q E hQ
  refine test2 n1 n2 (hx h1 e1 hr S L fun rv s1 μ1 P1 V1 => hy h2 e2 hr P1.st (L.step S P1) fun ru s2 μ2 P2 V2 => cmp_ok ok c1 P2.st (VR.step P2 V1) V2 hr fun tk => wpAny_truthy_bool ?_)
  have Pt := Step.tok (tk := tk) P2.st
  have P12 := (P1.trans P2).trans Pt
  cases c with
  | true =>
    refine vh_elim hv fun w H3 e3 hv => oh_elim hv fun k c2 hv => hz h3 e3 hr Pt.st (L.step S P12) fun rz s3 μ3 P3 V3 => cmp_ok ok c2 P3.st (VR.step P3 (VR.step Pt V2)) V3 hr fun tk' => ?_
    obtain ⟨rfl, rfl⟩ := bool_inj hv
    exact wpAny_truthy_bool (hQ _ μ3 ((P12.trans P3).trans (Step.tok P3.st)))
  | false =>
    obtain ⟨rfl, rfl⟩ := bool_inj hv
    exact hQ _ μ2 P12

/-! ## and, or -/
theorem evB_nil : EvBOK b ns C n .nil := by
  intro sc T es hm k ρ H v H' hv
  exact l0_elim (R := fun es => EvBG b n sc T es k ρ H v H') hm fun A s μ B₀ env hr S L hne => absurd rfl hne
theorem evB_cons {x : X} {xs : Xs} (hx : EvOK b ns C n x) (hs : EvBOK b ns C n xs) : EvBOK b ns C n (.cons x xs) := by
  intro sc T es hm k ρ H v H' hv
  refine lc_elim (R := fun es => EvBG b n sc T es k ρ H v H') (mXs_cons_eq.symm.trans hm) fun e es hm => and_elim hm fun hm h2 => and_elim hm fun _ h1 => bh_elim (evB_cons_eq.symm.trans hv) fun c H1 e1 hv => ?_
  clear hm
  cases es with
  | nil =>
    cases xs with
    | cons _ _ => exact ff_elim h2
    | nil =>
      have hv : some (.d (.bool c), H1) = some (v, H') := by
        by_cases hk : c = k
        · rw [if_pos hk] at hv; exact hk ▸ hv
        · rw [if_neg hk] at hv; exact hv
      refine so_2 (R := fun v H' => EvBG b n sc T [e] k ρ H v H') hv fun A s μ B₀ env hr S L hne pos Q E hQ => boolOp_last (hx h1 e1 hr S L hQ)
  | cons e' es' =>
    intro A s μ B₀ env hr S L hne pos Q E hQ
    refine boolOp_cons (hx h1 e1 hr S L fun rv s1 μ1 P1 V1 => fr_bool V1 (wpAny_truthy_bool ?_))
    by_cases hk : c = k
    · rw [if_pos hk] at hv ⊢
      exact hs h2 hv hr P1.st (L.step S P1) (List.cons_ne_nil _ _) fun rv s2 μ2 P2 V2 => hQ _ _ μ2 (P1.trans P2) V2
    · rw [if_neg hk] at hv ⊢
      obtain ⟨rfl, rfl⟩ := pair_inj hv
      exact hQ _ _ μ1 P1 (.bool _)
theorem all_nil : AllOK b ns C n .nil := by
  intro sc T es hm k ρ H r H' hv
  refine l0_elim (R := fun es => AllG b n sc T es k ρ H r H') hm (spb_elim hv ?_)
  cases k
  · exact fun A s μ B₀ env hr S L Q E hQ => wpAny_allTrue_Or_nil (hQ _ μ (Step.refl S))
  · exact fun A s μ B₀ env hr S L Q E hQ => wpAny_allTrue_And_nil (hQ _ μ (Step.refl S))
theorem all_cons {x : X} {xs : Xs} (hx : TrOK b ns C n x) (hs : AllOK b ns C n xs) : AllOK b ns C n (.cons x xs) := by
  intro sc T es hm k ρ H r H' hv
  refine lc_elim (R := fun es => AllG b n sc T es k ρ H r H') (mXs_cons_eq.symm.trans hm) fun e es hm => and_elim hm fun hm h2 => and_elim hm fun _ h1 => bh_elim (evB_cons_eq.symm.trans hv) fun c H1 e1 hv => ?_
  clear hm
  intro A s μ B₀ env hr S L Q E hQ
  have fin : ∀ s1 μ1, Step b B₀ μ H s μ1 H1 s1 → if c = k then wpAny (model b.prog b.w) A (allTrue (bopOf k) es env) Q E s1 else Q c s1 := fun s1 μ1 P1 => by
    by_cases hk : c = k
    · rw [if_pos hk] at hv ⊢
      exact hs h2 hv hr P1.st (L.step S P1) fun s2 μ2 P2 => hQ _ μ2 (P1.trans P2)
    · rw [if_neg hk] at hv ⊢
      obtain ⟨rfl, rfl⟩ := bool_inj hv
      exact hQ _ μ1 P1
  cases k with
  | false => exact wpAny_allTrue_Or_cons (hx h1 e1 hr S L fun s1 μ1 P1 => (show (if c = true then _ else _) from by cases c <;> exact fin s1 μ1 P1))
  | true => exact wpAny_allTrue_And_cons (hx h1 e1 hr S L fun s1 μ1 P1 => (show (if c = true then _ else _) from by cases c <;> exact fin s1 μ1 P1))
theorem ev_bop {k : Bool} {xs : Xs} (hs : EvBOK b ns C n xs) : EvOK b ns C n (.bop k xs) := by
  intro sc T e hm ρ H v H' hv
  refine ob2_elim (mX_bop_eq.symm.trans hm) fun o es he hm => and_elim hm fun w6 h2 => and_elim w6 fun q7 h1 => asBool_elim (R := fun e => EvG b n sc T e ρ H v H') he fun p => ?_
  replace h1 := dec_elim h1
  obtain rfl := dec_elim q7
  intro A s μ B₀ env hr S L Q E hQ
  exact hs h2 hv hr S L h1 hQ
theorem tr_bop {k : Bool} {xs : Xs} (hs : AllOK b ns C n xs) : TrOK b ns C n (.bop k xs) := by
  intro sc T e hm ρ H v H' hv
  refine ob2_elim (mX_bop_eq.symm.trans hm) fun o es he hm => and_elim hm fun w8 h2 => and_elim w8 fun q9 h1 => asBool_elim (R := fun e => TrG b n sc T e ρ H v H') he fun p => ?_
  replace h1 := dec_elim h1
  obtain rfl := dec_elim q9
  intro A s μ B₀ env hr S L Q E hQ
  exact wpAny_isTrue_BoolOp (hs h2 hv hr S L hQ)

theorem ev_ite {c x y : X} (hc : TrOK b ns C n c) (hx : EvOK b ns C n x) (hy : EvOK b ns C n y) : EvOK b ns C n (.ite c x y) := by
  intro sc T e hm ρ H v H' hv
  refine ob3_elim (mX_ite_eq.symm.trans hm) fun x1 x2 x3 he hm => and_elim hm fun w10 h3 => and_elim w10 fun h1 h2 => asIf_elim (R := fun e => EvG b n sc T e ρ H v H') he fun p => bh_elim (ev_ite_eq.symm.trans hv) fun t H1 e1 hv => ?_
  intro A s μ B₀ env hr S L Q E hQ
  refine wpAny_IfExp (hc h1 e1 hr S L fun s1 μ1 P1 => ?_)
  cases t with
  | true => exact hx h2 hv hr P1.st (L.step S P1) fun rv s2 μ2 P2 V2 => hQ _ _ μ2 (P1.trans P2) V2
  | false => exact hy h3 hv hr P1.st (L.step S P1) fun rv s2 μ2 P2 V2 => hQ _ _ μ2 (P1.trans P2) V2
theorem tr_ite {c x y : X} (hc : TrOK b ns C n c) (hx : TrOK b ns C n x) (hy : TrOK b ns C n y) : TrOK b ns C n (.ite c x y) := by
  intro sc T e hm ρ H v H' hv
  refine ob3_elim (mX_ite_eq.symm.trans hm) fun x1 x2 x3 he hm => and_elim hm fun w11 h3 => and_elim w11 fun h1 h2 => asIf_elim (R := fun e => TrG b n sc T e ρ H v H') he fun p => bh_elim (ev_ite_eq.symm.trans hv) fun t H1 e1 hv => ?_
  intro A s μ B₀ env hr S L Q E hQ
  show wpAny _ _ (do if ← isTrue x1 env (eval x1 env) then isTrue x2 env (eval x2 env) else isTrue x3 env (eval x3 env)) _ _ _
  refine wpAny_bind (hc h1 e1 hr S L fun s1 μ1 P1 => ?_)
  cases t with
  | true => exact hx h2 hv hr P1.st (L.step S P1) fun s2 μ2 P2 => hQ _ μ2 (P1.trans P2)
  | false => exact hy h3 hv hr P1.st (L.step S P1) fun s2 μ2 P2 => hQ _ μ2 (P1.trans P2)

/-! ## the plain test -/
noncomputable def plainTest (e : Expr) : Bool := (view e).kind != 5
theorem isTrue_plain' {e : Expr} (whole : Sem Value) : plainTest e = true → isTrue e env whole = (do let v ← whole; standAt e.pos; holding [v] (truthy v)) := by
  cases e with
  | UnaryOp op x p => cases op <;> first | exact fun _ => rfl | exact fun h => ff_elim h
  | _ => first | exact fun _ => rfl | exact fun h => ff_elim h
theorem tr_of_ev {x : X} (hx : EvOK b ns C n x) (hp : ∀ {sc T e}, mX sc T x e = true → plainTest e = true) : TrOK b ns C n x := by
  intro sc T e hm ρ H v H' hv
  intro A s μ B₀ env hr S L Q E hQ
  refine wpAny_isTrue_value (hx hm hv hr S L fun rv s1 μ1 P1 V1 => ?_) (isTrue_plain' _ (hp hm))
  refine fr_bool V1 ?_
  exact wpAny_truthy_bool (hQ _ μ1 P1)
end Mine
end

/-! ### Sound4a -/
section
set_option tactic.hygienic false
set_option genSizeOf false
set_option bootstrap.genMatcherCode false
open PySem PySem.W PyProof.Rows PySem.Calls PySem.SeqAt
set_option linter.unusedVariables false
set_option linter.unusedSimpArgs false
namespace Mine
variable {b : Base} {ns : List Int} {K : Frag} {mg mb : Str → Option Value} {B₀ : Addr → Prop} {sc : Scope} {T : List Slot} {env : Env} {ρ : List V} {μ μ' : Mu} {H H' : List O} {s s' : Shared} {C : Calls'} {n : Nat}

/-! ## lists of expressions -/
theorem starEach_plain {e : Expr} {es : List Expr} {env : Env} : notStar e = true → starEach (e :: es) env = (false, eval e env) :: starEach es env := by
  cases e <;> first | exact fun _ => rfl | exact fun h => ff_elim h
theorem evs_nil : EvsOK b ns C n .nil := by
  intro sc T es hm ρ H vs H' hv
  exact l0_elim (R := fun es => EvsG b n sc T es ρ H vs H') hm (so_2 (R := fun vs H' => EvsG b n sc T [] ρ H vs H') hv fun A s μ B₀ env hr S L pos Q E hQ => wpAny_items_nil (hQ _ _ _ (Step.refl S) .nil))
theorem evs_cons {x : X} {xs : Xs} (hx : EvOK b ns C n x) (hxs : EvsOK b ns C n xs) : EvsOK b ns C n (.cons x xs) := by
  intro sc T es hm ρ H vs H' hv
  refine lc_elim (R := fun es => EvsG b n sc T es ρ H vs H') (mXs_cons_eq.symm.trans hm) fun e es hm => and_elim hm fun hm h3 => and_elim hm fun h1 h2 => vh_elim (evs_cons_eq.symm.trans hv) fun v H1 e1 hv => vh_elim hv fun vs' H2 e2 hv => so_2 (R := fun vs H' => EvsG b n sc T (e :: es) ρ H vs H') hv ?_
  clear hm hv
  intro A s μ B₀ env hr S L pos Q E hQ
  exact wpAny_items_cons (hx h2 e1 hr S L fun rv s1 μ1 P1 V1 => hxs h3 e2 hr P1.st (L.step S P1) fun rvs s2 μ2 P2 V2 => hQ _ _ _ (P1.trans P2) (.cons (VR.step P2 V1) V2)) (starEach_plain h1)
theorem mXs_length {es : List Expr} : ∀ {xs : Xs} {ρ : List V} {H : List O} {vs : List V} {H' : List O}, mXs sc T xs es = true → evs ns C xs ρ H = some (vs, H') → vs.length = es.length := by
  induction es with
  | nil =>
    intro xs ρ H vs H' h e
    cases xs with
    | nil => exact so_2 (R := fun vs _ => vs.length = 0) e rfl
    | cons _ _ => exact ff_elim h
  | cons a es ih =>
    intro xs ρ H vs H' h e
    cases xs with
    | nil => exact ff_elim h
    | cons _ _ => exact and_elim h fun _ h => vh_elim e fun v H1 _ e => vh_elim e fun vs H2 e2 e => so_2 (R := fun vs _ => vs.length = es.length + 1) e (congrArg (· + 1) (ih h e2))

theorem toDs_frs {B : Addr → Prop} {h : Heap} {vs : List V} : ∀ {rvs : List Value} {ds : List D}, toDs vs = some ds → All2 (VR b.scr μ B h) vs rvs → FRs B h ds rvs := by
  induction vs with
  | nil => exact fun e f => so_1 (R := fun ds => FRs B h ds _) e (f.elim (P := fun rvs => FRs B h [] rvs) .nil)
  | cons v vs ih => exact fun {rvs ds} e f => f.elim (P := fun rvs => FRs B h ds rvs) fun rv rvs r f => dv_elim (R := fun v => VR b.scr μ B h v rv → FRs B h ds (rv :: rvs)) e (fun x e r => oh_elim e fun xs e2 e => so_1 (R := fun ds => FRs B h ds (rv :: rvs)) e (.cons r (ih e2 f))) r

/-! ## new things -/
theorem push_step {o : Obj} {tk : Nat} (S : St b B₀ μ H s.heap) : Step b B₀ μ H s μ H { s with heap := s.heap.push o, toks := tk } :=
  Step.loose S (fun a ob e => Heap.get?_push_of_some o e) (by show _ ≤ (s.heap.push o).objs.size; rw [Heap.size_push]; exact Nat.le_succ _) rfl rfl
theorem new_lst {xs : List D} {vs : List Value} (S : St b B₀ μ H s.heap) (f : FRs (Bad B₀ μ H) s.heap xs vs) (z : vs.length ≤ sizeLine) : FR (Bad B₀ μ H) (s.heap.push { cls := .type "list", data := .seq vs.toArray }) (.lst xs) (.ref s.heap.objs.size) :=
  .lst ⟨_, Heap.get?_push_size _ rfl⟩ z (not_bad_new S (Nat.le_refl _)) (FRs.mono (fun a o e nb => ⟨Heap.get?_push_of_some _ e, nb⟩) f)
theorem new_tup {xs : List D} {vs : List Value} (S : St b B₀ μ H s.heap) (f : FRs (Bad B₀ μ H) s.heap xs vs) (z : vs.length ≤ sizeLine) : FR (Bad B₀ μ H) (s.heap.push { cls := .type "tuple", data := .seq vs.toArray }) (.tup xs) (.ref s.heap.objs.size) :=
  .tup ⟨_, Heap.get?_push_size _ rfl, rfl, _, rfl⟩ z (not_bad_new S (Nat.le_refl _)) (FRs.mono (fun a o e nb => ⟨Heap.get?_push_of_some _ e, nb⟩) f)
theorem new_lstM {xs : List V} {vs : List Value} {tk : Nat} (S : St b B₀ μ H s.heap) (f : All2 (VR b.scr μ (Bad B₀ μ H) s.heap) xs vs) (z : vs.length ≤ sizeLine) :
    Step b B₀ μ H s (μ ++ [(s.heap.objs.size, s.heap.objs.size)]) (H ++ [.lst xs]) { s with heap := s.heap.push { cls := .type "list", data := .seq vs.toArray }, toks := tk } := by
  have k : ∀ a o, s.heap.get? a = some o → (s.heap.push { cls := .type "list", data := .seq vs.toArray }).get? a = some o := fun a o e => Heap.get?_push_of_some _ e
  have hz : s.heap.objs.size ≤ s.heap.objs.size ∧ s.heap.objs.size < (s.heap.push { cls := .type "list", data := .seq vs.toArray }).objs.size := by
    rw [Heap.size_push]; exact ⟨Nat.le_refl _, Nat.lt_succ_self _⟩
  refine Step.new S k hz hz rfl rfl ⟨rfl, vs, ⟨_, Heap.get?_push_size _ rfl⟩, z, f.imp fun v rv x => VR.lift (fun a ob e nb => ⟨k _ _ e, fun q => q.elim (fun z => nb (.inl z)) fun l => ?_⟩) (fun _ _ e => get_append e) x⟩
  rcases live_append S.len l with z | rfl | rfl
  · exact nb (.inr z)
  · exact Nat.lt_irrefl _ (Heap.lt_size e)
  · exact Nat.lt_irrefl _ (Heap.lt_size e)
theorem new_loc (S : St b B₀ μ H s.heap) {p : Addr × Addr} {B : Addr → Prop} {h : Heap} : VR b.scr (μ ++ [p]) B h (.loc H.length) (.ref p.1) :=
  ⟨p, by rw [← S.len]; simp, rfl⟩
theorem le_line {k : Nat} (h : k ≤ 1000000) : k ≤ sizeLine := sizeLine_eq ▸ Nat.le_trans h (by decide)

theorem line_100 {k : Nat} (h : decide (k ≤ 100) = true) : k ≤ sizeLine := le_line (Nat.le_trans (dec_elim h) (by decide))

theorem ev_list {xs : Xs} (hx : EvsOK b ns C n xs) : EvOK b ns C n (.list xs) := by
  intro sc T e hm ρ H v H' hv
  refine ob1_elim (mX_list_eq.symm.trans hm) fun es he hm => asList_elim (R := fun e => EvG b n sc T e ρ H v H') he fun p => ?_
  refine and_elim hm fun hn hm => ?_
  refine vh_elim (ev_list_eq.symm.trans hv) fun vs H1 e1 hv => oh_elim hv fun ds e2 hv => sp_elim hv ?_
  intro A s μ B₀ env hr S L Q E hQ
  refine wpAny_List (hx hm e1 hr S L fun rvs s1 μ1 P1 V1 => ?_)
  have z : rvs.length ≤ sizeLine := V1.length ▸ mXs_length hm e1 ▸ line_100 hn
  exact ⟨z, hQ _ _ μ1 (P1.trans (push_step P1.st)) (new_lst P1.st (toDs_frs e2 V1) z)⟩
theorem ev_tup {xs : Xs} (hx : EvsOK b ns C n xs) : EvOK b ns C n (.tup xs) := by
  intro sc T e hm ρ H v H' hv
  refine ob1_elim (mX_tup_eq.symm.trans hm) fun es he hm => asTup_elim (R := fun e => EvG b n sc T e ρ H v H') he fun k p => ?_
  refine and_elim hm fun hn hm => ?_
  refine vh_elim (ev_tup_eq.symm.trans hv) fun vs H1 e1 hv => oh_elim hv fun ds e2 hv => sp_elim hv ?_
  intro A s μ B₀ env hr S L Q E hQ
  refine wpAny_Tuple (hx hm e1 hr S L fun rvs s1 μ1 P1 V1 => ?_)
  have z : rvs.length ≤ sizeLine := V1.length ▸ mXs_length hm e1 ▸ line_100 hn
  exact ⟨z, hQ _ _ μ1 (P1.trans (push_step P1.st)) (new_tup P1.st (toDs_frs e2 V1) z)⟩
theorem ev_listM {xs : Xs} (hx : EvsOK b ns C n xs) : EvOK b ns C n (.listM xs) := by
  intro sc T e hm ρ H v H' hv
  refine ob1_elim (mX_listM_eq.symm.trans hm) fun es he hm => asList_elim (R := fun e => EvG b n sc T e ρ H v H') he fun p => ?_
  refine and_elim hm fun hn hm => ?_
  refine vh_elim (ev_listM_eq.symm.trans hv) fun vs H1 e1 hv => sp_elim hv ?_
  intro A s μ B₀ env hr S L Q E hQ
  refine wpAny_List (hx hm e1 hr S L fun rvs s1 μ1 P1 V1 => ?_)
  have z : rvs.length ≤ sizeLine := V1.length ▸ mXs_length hm e1 ▸ line_100 hn
  exact ⟨z, hQ _ _ _ (P1.trans (new_lstM P1.st V1 z)) (new_loc P1.st)⟩

/-! ## list sums -/
theorem frs_append {B : Addr → Prop} {h : Heap} {xs ys : List D} {vs us : List Value} (a : FRs B h xs vs) (c : FRs B h ys us) : FRs B h (xs ++ ys) (vs ++ us) := all2_frs ((frs_all2 a).append (frs_all2 c))
theorem frs_length {B : Addr → Prop} {h : Heap} {xs : List D} {vs : List Value} (a : FRs B h xs vs) : xs.length = vs.length := (frs_all2 a).length
theorem add_two {l c : Addr} {vs us : List Value} {A : Around} {Q : Value → Shared → Prop} {E : Value → Shared → Prop} (hl : s.heap.IsList l vs.toArray) (hc : s.heap.IsList c us.toArray) (hz : vs.length + us.length ≤ sizeLine)
    (h : Q (.ref s.heap.objs.size) { s with heap := s.heap.push { cls := .type "list", data := .seq (vs ++ us).toArray } }) : wpAny (model b.prog b.w) A (binaryOp .Add (.ref l) (.ref c)) Q E s := by
  obtain ⟨⟨cls, dd, data, sl⟩, ho, hc1, n1, hd⟩ := id hl
  obtain ⟨⟨cls2, dd2, data2, sl2⟩, ho2, hc2, n2, hd2⟩ := id hc
  simp only at hc1 hd hc2 hd2
  subst hc1 hd hc2 hd2
  have e : vs.toArray ++ us.toArray = (vs ++ us).toArray := by simp
  refine concat_meets ⟨_, ho, rfl⟩ ⟨_, ho2, rfl⟩ noFill_list_add seq_list_add PySem.F.slot_list_add PySem.F.entry_list_add (PySem.F.args_list_add_2 _ _) (list_addW l c vs.toArray us.toArray n1 n2 dd dd2 sl sl2 (by simpa using hz)) ⟨ho, ho2, ?_⟩
  rw [e]
  exact h

theorem ev_cat {x y : X} (hx : EvOK b ns C n x) (hy : EvOK b ns C n y) : EvOK b ns C n (.cat x y) := by
  intro sc T e hm ρ H v H' hv
  refine ob3_elim (mX_cat_eq.symm.trans hm) fun l o r he hm => and_elim hm fun w12 h2 => and_elim w12 fun q13 h1 => asBin_elim (R := fun e => EvG b n sc T e ρ H v H') he fun p => ?_
  obtain rfl := dec_elim q13
  refine lh_elim (ev_cat_eq.symm.trans hv) fun xs H1 e1 hv => lh_elim hv fun ys H2 e2 hv => if_elim hv fun hb hv => sp_elim hv ?_
  intro A s μ B₀ env hr S L Q E hQ
  refine wpAny_BinOp (hx h1 e1 hr S L fun rv s1 μ1 P1 V1 => hy h2 e2 hr P1.st (L.step S P1) fun ru s2 μ2 P2 V2 => ?_)
  refine fr_lst (VR.step P2 V1) fun a vs hl z nb f => fr_lst V2 fun a' us hl' z' nb' f' => ?_
  have hz : vs.length + us.length ≤ sizeLine := le_line (by rw [← frs_length f, ← frs_length f']; exact hb)
  refine add_two hl hl' hz (hQ _ _ μ2 ((P1.trans P2).trans (push_step P2.st)) (new_lst P2.st (frs_append f f') ?_))
  rw [List.length_append]; exact hz
theorem all2_d {B : Addr → Prop} {h : Heap} {xs : List D} {vs : List Value} (f : FRs B h xs vs) : All2 (VR b.scr μ B h) (xs.map .d) vs := All2.map_left (frs_all2 f)
theorem ev_catM {x y : X} (hx : EvOK b ns C n x) (hy : EvOK b ns C n y) : EvOK b ns C n (.catM x y) := by
  intro sc T e hm ρ H v H' hv
  refine ob3_elim (mX_catM_eq.symm.trans hm) fun l o r he hm => and_elim hm fun w14 h2 => and_elim w14 fun q15 h1 => asBin_elim (R := fun e => EvG b n sc T e ρ H v H') he fun p => ?_
  obtain rfl := dec_elim q15
  refine ph_elim (ev_catM_eq.symm.trans hv) fun l H1 e1 hv => lh_elim hv fun ys H2 e2 hv => gl_elim hv fun xs e3 hv => if_elim hv fun hb hv => sp_elim hv ?_
  intro A s μ B₀ env hr S L Q E hQ
  refine wpAny_BinOp (hx h1 e1 hr S L fun rv s1 μ1 P1 V1 => hy h2 e2 hr P1.st (L.step S P1) fun ru s2 μ2 P2 V2 => ?_)
  obtain ⟨p, hp, rfl⟩ := VR.step P2 V1
  obtain ⟨_, vs, hl, z, f⟩ := P2.st.objs _ p _ hp (getO_get e3 rfl)
  refine fr_lst V2 fun a' us hl' z' nb' f' => ?_
  have hz : vs.length + us.length ≤ sizeLine := le_line (by rw [← f.length, ← frs_length f']; exact hb)
  refine add_two hl.isList hl' hz (hQ _ _ _ ((P1.trans P2).trans (new_lstM P2.st (f.append (all2_d f')) ?_)) (new_loc P2.st))
  rw [List.length_append]; exact hz
end Mine
end

/-! ### Sound4b -/
section
set_option tactic.hygienic false
set_option genSizeOf false
set_option bootstrap.genMatcherCode false
open PySem PySem.W PyProof.Rows PySem.Calls PySem.SeqAt
set_option linter.unusedVariables false
set_option linter.unusedSimpArgs false
namespace Mine
variable {b : Base} {ns : List Int} {K : Frag} {mg mb : Str → Option Value} {B₀ : Addr → Prop} {sc : Scope} {T : List Slot} {env : Env} {ρ : List V} {μ μ' : Mu} {H H' : List O} {s s' : Shared} {C : Calls'} {n : Nat}

/-! ## fields -/
theorem fname_inj : ∀ n < 22, ∀ m < 22, fname n = fname m → n = m := by decide +kernel
theorem fields_lt : ∀ c < 3, ∀ n ∈ fieldsOf c, n < 22 := by decide
theorem posOf_mem {n : Nat} {ns : List Nat} : ∀ {k : Nat}, posOf n ns = some k → n ∈ ns := by
  induction ns with
  | nil => exact fun e => no_some e
  | cons m r ih =>
    intro k e
    by_cases h : n = m
    · exact h ▸ List.mem_cons_self
    · exact oh_elim ((if_neg h).symm.trans e) fun k e _ => List.mem_cons_of_mem _ (ih e)
theorem isStr_str {x y : Str} {t : Tok} : (Value.str x t).isStr y = (x == y) := rfl
theorem ents_get {n : Nat} (hn : n < 22) {ns : List Nat} {es : List DictEntry} (h : Ents ns es) : ∀ {k : Nat}, (∀ m ∈ ns, m < 22) → posOf n ns = some k →
    getL (fname n) es = some ((es[k]?).map (·.val)) := by
  induction h with
  | nil => exact fun _ _ => rfl
  | @cons m ns x es t hk r ih =>
    intro k hm e
    have hg : getL (fname n) (x :: es) = if (fname m == fname n) = true then some (some x.val) else getL (fname n) es := by
      unfold getL
      rw [List.find?_cons, hk, isStr_str]
      cases (fname m == fname n) with
      | true => rfl
      | false => simp [hk, DictEntry.refKey]
    rw [hg]
    by_cases h : n = m
    · have e : some 0 = some k := (if_pos h).symm.trans e
      rw [if_pos (by rw [h]; exact beq_self_eq_true _), ← Option.some.inj e]; rfl
    · rw [if_neg fun q => h (fname_inj _ (hm m List.mem_cons_self) _ hn (eq_of_beq q)).symm]
      exact oh_elim ((if_neg h).symm.trans e) fun k' e' e => so_1 (R := fun k => _ = some (((x :: es)[k]?).map (·.val))) e (ih (fun m hm' => hm m (List.mem_cons_of_mem _ hm')) e')
theorem handed_fr {B : Addr → Prop} {h : Heap} {x : D} {v : Value} (r : FR B h x v) : handedIn v = true :=
  FR.casesOn (motive_1 := fun _ v _ => handedIn v = true) r rfl (fun _ => rfl) (fun _ _ => rfl) (fun _ _ => rfl) (fun _ _ => rfl) (fun _ _ _ _ => rfl) (fun _ _ _ _ => rfl) (fun _ _ _ _ _ _ _ => rfl)
theorem handed_vr {scr : Addr} {B : Addr → Prop} {h : Heap} {x : V} {v : Value} (r : VR scr μ B h x v) : handedIn v = true := by
  cases x with
  | d x => exact handed_fr r
  | loc l => obtain ⟨p, _, rfl⟩ := r; rfl
  | scr => obtain rfl := r; rfl
  | undef => exact r.elim

theorem attr_base0 {f : Expr} {x : Str} {env : Env} {m : Sem Value} {as : List Expr} {ks : List Keyword} {p : Pos} : notCall0 (.Call f as ks p) = true → attributeBase (.Call f as ks p) x env m = m := by
  cases f <;> first | exact fun _ => rfl | skip
  cases as <;> first | exact fun _ => rfl | skip
  cases ks <;> first | exact fun _ => rfl | exact fun h => ff_elim h
theorem attr_base {e : Expr} {x : Str} {env : Env} {m : Sem Value} : notCall0 e = true → attributeBase e x env m = m := by
  cases e <;> first | exact attr_base0 | exact fun _ => rfl
theorem eval_attr {e : Expr} {x : Str} {p : Pos} {env : Env} (h : notCall0 e = true) : eval (.Attribute e x p) env = (do
      let o ← eval e env
      standAt p.atName
      let r ← holding [o] (getAttr o x true)
      letTemporaryGo e o r
      pure r) := by
  have e0 : eval (.Attribute e x p) env = (do
      let o ← attributeBase e x env (eval e env)
      standAt p.atName
      let r ← holding [o] (getAttr o x true)
      letTemporaryGo e o r
      pure r) := rfl
  rw [e0, attr_base h]

/-- the read of a field -/
theorem get_field (ok : Ok b ns K mg mb) (S : St b B₀ μ H s.heap) {a dx : Addr} {c f k : Nat} {es : List DictEntry} {m : Nat} {v : Value} (hc : c < 3) (h1 : s.heap.get? a = some (instObj (clsAddr c) dx)) (h2 : s.heap.get? dx = some (dictOf es m)) (he : Ents (fieldsOf c) es)
    (hf : fpos c f = some k) (hv : (es.map (·.val))[k]? = some v) (hh : handedIn v = true) {A : Around} {Q : Value → Shared → Prop} {E : Value → Shared → Prop} (hQ : Q v { s with toks := s.toks + 1 }) :
    wpAny (model b.prog b.w) A (getAttr (.ref a) (fname f) true) Q E s := by
  have hm := posOf_mem hf
  refine get_value (x := a) (C := clsAddr c) (od := some (dictOf es m)) (ox := instObj (clsAddr c) dx) (ok.X.keeps S.base) ⟨h1, rfl, rfl, h2⟩ (ok.kf.ga c hc) (findObj_own (attr := none) (ok.kf.hd c hc) (ok.kf.fl c hc f hm) rfl ?_) hh hQ
  rw [lookIn_dict, ents_get (fields_lt c hc f hm) he (fields_lt c hc) hf, ← List.getElem?_map, hv]

theorem objO_elim {P : Prop} {f : Nat} {o : O} {v : V} (h : attrO f o = some v) (k : ∀ c fs k, o = .obj c fs → fpos c f = some k → fs[k]? = some v → P) : P := by
  cases o with
  | obj c fs => exact oh_elim h fun j e1 e2 => k c fs j rfl e1 e2
  | _ => exact no_some h
theorem objD_elim {R : D → Prop} {f : Nat} {d : D} {v : V} (h : attrD f d = some v) (k : ∀ c fs k, fpos c f = some k → (fs[k]?).map V.d = some v → R (.obj c fs)) : R d := by
  cases d with
  | obj c fs => exact oh_elim h fun j e1 e2 => k c fs j e1 e2
  | _ => exact no_some h
theorem map_d_elim {R : V → Prop} {o : Option D} {v : V} (h : o.map V.d = some v) (k : ∀ d, o = some d → R (.d d)) : R v := match o, h with
  | none, h => no_some h
  | some d, h => so_1 (R := R) h (k d rfl)
/-- a value that is read -/
noncomputable def GotG (b : Base) (B₀ : Addr → Prop) (μ : Mu) (H : List O) (s : Shared) (v : V) (Q : Value → Shared → Prop) : Prop := ∀ rv tk, VR b.scr μ (Bad B₀ μ H) s.heap v rv → Q rv { s with toks := tk }
theorem attr_ok (ok : Ok b ns K mg mb) {f : Nat} {u v : V} {rv : Value} (S : St b B₀ μ H s.heap) (hu : VR b.scr μ (Bad B₀ μ H) s.heap u rv) (hv : attrV H f u = some v) {A : Around} {Q : Value → Shared → Prop} {E : Value → Shared → Prop} (hQ : GotG b B₀ μ H s v Q) :
    wpAny (model b.prog b.w) A (getAttr rv (fname f) true) Q E s := by
  cases u with
  | d d =>
    refine objD_elim (R := fun d => FR (Bad B₀ μ H) s.heap d rv → wpAny (model b.prog b.w) A (getAttr rv (fname f) true) Q E s) hv (fun c fs k e3 e2 hu => ?_) hu
    refine FR.elim (R := fun rv => wpAny (model b.prog b.w) A (getAttr rv (fname f) true) Q E s) hu fun a dx es m g1 g2 g3 g4 g5 g6 g7 => map_d_elim (R := fun v => GotG b B₀ μ H s v Q → wpAny (model b.prog b.w) A (getAttr (.ref a) (fname f) true) Q E s) e2 (fun y hy hQ => ?_) hQ
    obtain ⟨rw', hrv, r⟩ := (frs_all2 g7).get hy
    exact get_field ok S g4 g1 g2 g3 e3 hrv (handed_fr r) (hQ _ _ r)
  | loc l =>
    obtain ⟨p, hp, rfl⟩ := hu
    refine objO_elim hv fun c fs k e4 e3 e2 => ?_
    obtain ⟨hc, es, m, g1, g2, g3, g7⟩ := S.objs _ p _ hp (getO_get e4 rfl)
    obtain ⟨rw', hrv, r⟩ := g7.get e2
    exact get_field ok S hc g1 g2 g3 e3 hrv (handed_vr r) (hQ _ _ r)
  | scr => exact no_some hv
  | undef => exact no_some hv
theorem ev_attr (ok : Ok b ns K mg mb) {x : X} {f : Nat} (hx : EvOK b ns C n x) : EvOK b ns C n (.attr x f) := by
  intro sc T e hm ρ H v H' hv
  refine ob2_elim (mX_attr_eq.symm.trans hm) fun e' nm he hm => and_elim hm fun w16 h2 => and_elim w16 fun w17 h1 => and_elim w17 fun q18 _ => asAttr_elim (R := fun e => EvG b n sc T e ρ H v H') he fun p => ?_
  obtain rfl := dec_elim q18
  refine vh_elim (ev_attr_eq.symm.trans hv) fun u H1 e1 hv => oh_elim hv fun v' e2 hv => sp_elim hv ?_
  intro A s μ B₀ env hr S L Q E hQ
  exact Attribute_any_ (hx h2 e1 hr S L fun rv s1 μ1 P1 V1 => attr_ok ok P1.st V1 e2 fun rv tk r => hQ _ _ μ1 (P1.trans (Step.tok P1.st)) r) (eval_attr h1)

/-! ## items -/
theorem sub_plain {j : Expr} {o i : Value} : notSlice j = true → subscripted j false o i = operate [o, i] (getItem o i) := by
  cases j <;> first | exact fun _ => rfl | exact fun h => ff_elim h
theorem at_nat {n : Nat} {i : Int} {k : Nat} (h : at? n i = some k) : k < n ∧ seqIndex? i n = some k ∧ ((0 ≤ i ∧ k = i.toNat ∧ i < n) ∨ (i < 0 ∧ -(n : Int) ≤ i ∧ k = (i + n).toNat)) := by
  unfold at? at h
  unfold seqIndex?
  by_cases h0 : 0 ≤ i
  · rw [if_pos h0] at h
    refine if_elim h fun h1 h => so_1 (R := fun k => k < n ∧ _ = some k ∧ ((0 ≤ i ∧ k = i.toNat ∧ i < n) ∨ (i < 0 ∧ -(n : Int) ≤ i ∧ k = (i + n).toNat))) h ⟨by omega, ?_, .inl ⟨h0, rfl, h1⟩⟩
    have hneg : ¬ i < 0 := Int.not_lt.mpr h0
    simp [hneg, h0, h1]
  · rw [if_neg h0] at h
    refine if_elim h fun h1 h => so_1 (R := fun k => k < n ∧ _ = some k ∧ ((0 ≤ i ∧ k = i.toNat ∧ i < n) ∨ (i < 0 ∧ -(n : Int) ≤ i ∧ k = (i + n).toNat))) h ⟨by omega, ?_, .inr ⟨Int.not_le.mp h0, h1, rfl⟩⟩
    have hneg : i < 0 := Int.not_le.mp h0
    have g1 : 0 ≤ i + (n : Int) := by omega
    simp [hneg, g1]
    omega
theorem list_item {l : Addr} {vs : List Value} {i : Int} {t : Tok} {k : Nat} {v : Value} (hl : s.heap.IsList l vs.toArray) (hz : vs.length ≤ sizeLine) (hk : at? vs.length i = some k) (hv : vs[k]? = some v) {A : Around} {Q : Value → Shared → Prop} {E : Value → Shared → Prop} (h : Q v s) :
    wpAny (model b.prog b.w) A (getItem (.ref l) (.int i t)) Q E s := by
  rw [sizeLine_eq] at hz
  obtain ⟨h1, _, ⟨a, rfl, c⟩ | ⟨a, c, rfl⟩⟩ := at_nat hk
  · exact wpAny_getItem_list hl a (by omega) (by simpa using hv) h
  · exact wpAny_getItem_list_neg hl a (by simpa using c) (by omega) (by simpa using hv) h
theorem tup_item {l : Addr} {vs : List Value} {i : Int} {t : Tok} {k : Nat} {v : Value} (hl : s.heap.IsTuple l vs.toArray) (hz : vs.length ≤ sizeLine) (hk : at? vs.length i = some k) (hv : vs[k]? = some v) {A : Around} {Q : Value → Shared → Prop} {E : Value → Shared → Prop} (h : Q v s) :
    wpAny (model b.prog b.w) A (getItem (.ref l) (.int i t)) Q E s := by
  rw [sizeLine_eq] at hz
  obtain ⟨h1, h2, h3⟩ := at_nat hk
  exact PyProof.Rows.getItem_tuple hl (by omega) (by omega) (by simpa using h2) (by simpa using hv) h

theorem idxO_elim {R : O → Prop} {i : Int} {o : O} {v : V} (h : idxO i o = some v) (k1 : ∀ xs k, at? xs.length i = some k → xs[k]? = some v → R (.lst xs)) (k2 : ∀ kvs, lookI i kvs = some v → R (.dict kvs)) : R o := by
  cases o with
  | lst xs => exact oh_elim h fun k e1 e2 => k1 xs k e1 e2
  | dict kvs => exact k2 kvs h
  | _ => exact no_some h
theorem item_ok (ok : Ok b ns K mg mb) {x y v : V} {rx ry : Value} (hv : idxV H x y = some v) (S : St b B₀ μ H s.heap) (hx : VR b.scr μ (Bad B₀ μ H) s.heap x rx) (hy : VR b.scr μ (Bad B₀ μ H) s.heap y ry) {A : Around} {value slice : Expr} (hs : notSlice slice = true)
    {Q : Value → Shared → Prop} {E : Value → Shared → Prop} (hQ : GotG b B₀ μ H s v Q) : wpAny (model b.prog b.w) A (subscriptTail value slice rx ry) Q E s := by
  refine iv_elim (R := fun y => VR b.scr μ (Bad B₀ μ H) s.heap y ry → _) hv (fun i hv hy => fr_int hy fun t => ?_) hy
  clear hy
  cases x with
  | d d =>
    refine oh_elim hv fun xs e0 hv => oh_elim hv fun k e hv => map_d_elim (R := fun v => GotG b B₀ μ H s v Q → _) hv (fun d' hd hQ => ?_) hQ
    refine seqD_elim (R := fun d xs => FR (Bad B₀ μ H) s.heap d rx → at? xs.length i = some k → xs[k]? = some d' → wpAny (model b.prog b.w) A (subscriptTail value slice rx (.int i t)) Q E s) e0 (fun xs hx e hd => ?_) (fun xs hx e hd => ?_) hx e hd
    · refine fr_lst hx fun a vs hl z nb f => ?_
      obtain ⟨rv, hrv, r⟩ := (frs_all2 f).get hd
      exact tail_any hl.typeIs slot_list_getitem.lookup (list_item hl z (frs_length f ▸ e) hrv (hQ rv s.toks r)) (sub_plain hs)
    · refine fr_tup hx fun a vs hl z nb f => ?_
      obtain ⟨rv, hrv, r⟩ := (frs_all2 f).get hd
      exact tail_any (PyProof.Rows.IsTup.typeIs hl) slot_tuple_getitem.lookup (tup_item hl z (frs_length f ▸ e) hrv (hQ rv s.toks r)) (sub_plain hs)
  | loc l =>
    obtain ⟨p, hp, rfl⟩ := hx
    refine idxO_elim (R := fun o => getO H l = o → wpAny (model b.prog b.w) A (subscriptTail value slice (.ref p.1) (.int i t)) Q E s) hv (fun xs k e e2 e4 => ?_) (fun kvs e e4 => ?_) rfl
    · obtain ⟨_, vs, hl, z, f⟩ := S.objs _ p _ hp (getO_get e4 rfl)
      obtain ⟨rv, hrv, r⟩ := f.get e2
      exact tail_any hl.isList.typeIs slot_list_getitem.lookup (list_item hl.isList z (f.length ▸ e) hrv (hQ rv s.toks r)) (sub_plain hs)
    · obtain ⟨_, ps, hd, z, f⟩ := S.objs _ p _ hp (getO_get e4 rfl)
      obtain ⟨rv, hrv, r⟩ := (dict_look (prog := b.prog) (w := b.w) f _).2 _ e
      exact tail_any hd.mapOf.typeIs slot_dict_getitem.lookup (wpAny_getItem_of (intKind_is _ _ _ _) hd.mapOf hrv (hQ _ _ r)) (sub_plain hs)
  | scr => exact no_some hv
  | undef => exact no_some hv

theorem ev_idx (ok : Ok b ns K mg mb) {x y : X} (hx : EvOK b ns C n x) (hy : EvOK b ns C n y) : EvOK b ns C n (.idx x y) := by
  intro sc T e hm ρ H v H' hv
  refine ob2_elim (mX_idx_eq.symm.trans hm) fun e' j he hm => and_elim hm fun w19 h2 => and_elim w19 fun h0 h1 => asSub_elim (R := fun e => EvG b n sc T e ρ H v H') he fun p => ?_
  refine vh_elim (ev_idx_eq.symm.trans hv) fun u H1 e1 hv => vh_elim hv fun j H2 e2 hv => oh_elim hv fun v' e3 hv => sp_elim hv ?_
  intro A s μ B₀ env hr S L Q E hQ
  exact Subscript_ (hx h1 e1 hr S L fun rv s1 μ1 P1 V1 => hy h2 e2 hr P1.st (L.step S P1) fun ru s2 μ2 P2 V2 => item_ok ok e3 P2.st (VR.step P2 V1) V2 h0 fun rv tk r => hQ _ _ μ2 ((P1.trans P2).trans (Step.tok P2.st)) r)
end Mine
end

/-! ### Sound4c -/
section
set_option tactic.hygienic false
set_option genSizeOf false
set_option bootstrap.genMatcherCode false
open PySem PySem.W PyProof.Rows PySem.Calls PySem.SeqAt
set_option linter.unusedVariables false
set_option linter.unusedSimpArgs false
set_option maxRecDepth 100000
namespace Mine
variable {b : Base} {ns : List Int} {K : Frag} {mg mb : Str → Option Value} {B₀ : Addr → Prop} {sc : Scope} {T : List Slot} {env : Env} {ρ : List V} {μ μ' : Mu} {H H' : List O} {s s' : Shared} {C : Calls'} {n : Nat}

/-! ## calls of what is built in -/
theorem glob_shape {x : Str} {e : Expr} (hG : isGlob sc x e = true) : ∃ p, e = .Name x p := glob_elim (R := fun e => ∃ p, e = .Name x p) hG fun p _ _ => ⟨p, rfl⟩
theorem call_name {x : Str} {fe : Expr} {args : List Expr} {pos : Pos} {A : Around} {v : Value} {M : Model} {Q : Value → Shared → Prop} {E : Value → Shared → Prop} (hG : isGlob sc x fe = true)
    (h : wpAny M A (eval fe env) (fun f s1 => wpAny M A (callWith pos f [] (backTo pos (starEach args env)) []) Q E s1) E s) : wpAny M A (eval (.Call fe args [] pos) env) Q E s := by
  exact glob_elim (R := fun fe => wpAny M A (eval fe env) (fun f s1 => wpAny M A (callWith pos f [] (backTo pos (starEach args env)) []) Q E s1) E s → wpAny M A (eval (.Call fe args [] pos) env) Q E s) hG (fun p _ _ h => wpAny_Call_Name_kw h) h
theorem call_b (ok : Ok b ns K mg mb) {x : Str} {id : String} (hid : (x, Value.builtin id) ∈ builtinsUsed) {fe e : Expr} {rest : List Expr} {pos : Pos} {A : Around} {Q : Value → Shared → Prop} {E : Value → Shared → Prop} (hG : isGlob sc x fe = true) (S : St b B₀ μ H s.heap) (L : EnvOk sc env)
    (h1 : notStar e = true) (h2 : (backTo pos (starEach rest env)).any (·.1) = false) (h : wpAny (model b.prog b.w) A (spliced (backTo pos (starEach (e :: rest) env))) (fun vs s1 => wpAny (model b.prog b.w) A (call (.builtin id) vs) Q E s1) E s) :
    wpAny (model b.prog b.w) A (eval (.Call fe (e :: rest) [] pos) env) Q E s :=
  call_name (v := .none) hG (glob_builtin hG S L ok hid (PyProof.Rows.callWith_builtin1 h (starEach_plain h1) h2))
theorem call_t (ok : Ok b ns K mg mb) {x : Str} {id : String} (hid : (x, Value.type id) ∈ builtinsUsed) {fe e : Expr} {rest : List Expr} {pos : Pos} {A : Around} {Q : Value → Shared → Prop} {E : Value → Shared → Prop} (hG : isGlob sc x fe = true) (S : St b B₀ μ H s.heap) (L : EnvOk sc env)
    (h1 : notStar e = true) (h2 : (backTo pos (starEach rest env)).any (·.1) = false) (h : wpAny (model b.prog b.w) A (spliced (backTo pos (starEach (e :: rest) env))) (fun vs s1 => wpAny (model b.prog b.w) A (call (.type id) vs) Q E s1) E s) :
    wpAny (model b.prog b.w) A (eval (.Call fe (e :: rest) [] pos) env) Q E s :=
  call_name (v := .none) hG (glob_builtin hG S L ok hid (by
    rw [starEach_plain h1] at h ⊢
    exact PySem.callWith_type (by show (false || (backTo pos (starEach rest env)).any (·.1)) = false; rw [h2]; rfl) (evalArgs_plain h)))

/-- one argument -/
theorem one_arg {x : X} (hx : EvOK b ns C n x) {e : Expr} (h1 : notStar e = true) (h2 : mX sc T x e = true) {v : V} (hv : ev ns C x ρ H = some (v, H')) {A : Around} (hr : Room A n) (S : St b B₀ μ H s.heap) (L : Slots b B₀ sc T env ρ μ H s.heap) {pos : Pos} {Q : List Value → Shared → Prop} {E : Value → Shared → Prop}
    (hQ : ∀ rv s' μ', Step b B₀ μ H s μ' H' s' → VR b.scr μ' (Bad B₀ μ' H') s'.heap v rv → Q [rv] s') : wpAny (model b.prog b.w) A (spliced (backTo pos (starEach [e] env))) Q E s :=
  wpAny_items_cons (hx h2 hv hr S L fun rv s1 μ1 P1 V1 => wpAny_items_nil (hQ _ _ _ P1 V1)) (starEach_plain h1)
/-- a list, frozen or tracked -/
@[elab_as_elim] theorem listOf_spec {u : V} {xs : List V} {rv : Value} {R : Value → Prop} (hu : VR b.scr μ (Bad B₀ μ H) s.heap u rv) (S : St b B₀ μ H s.heap) (h : listOf? H u = some xs) (k : ∀ a vs, s.heap.IsList a (List.toArray vs) → vs.length ≤ sizeLine → All2 (VR b.scr μ (Bad B₀ μ H) s.heap) xs vs → R (.ref a)) : R rv := by
  cases u with
  | d d => exact ld_elim (R := fun d => FR (Bad B₀ μ H) s.heap d rv → R rv) h (fun ds h hu => so_1 (R := fun xs => (∀ a vs, s.heap.IsList a (List.toArray vs) → vs.length ≤ sizeLine → All2 (VR b.scr μ (Bad B₀ μ H) s.heap) xs vs → R (.ref a)) → R rv) h (fun k => fr_lst hu fun a vs hl z nb f => k a vs hl z (all2_d f)) k) hu
  | loc l =>
    obtain ⟨p, hp, rfl⟩ := hu
    refine gl_elim h fun ys e h => so_1 (R := fun xs => (∀ a vs, s.heap.IsList a (List.toArray vs) → vs.length ≤ sizeLine → All2 (VR b.scr μ (Bad B₀ μ H) s.heap) xs vs → R (.ref a)) → R (.ref p.1)) h (fun k => ?_) k
    obtain ⟨_, vs, hl, z, f⟩ := S.objs _ p _ hp (getO_get e rfl)
    exact k _ vs hl.isList z f
  | scr => exact no_some h
  | undef => exact no_some h
theorem line_lt {k : Nat} (z : k ≤ sizeLine) : (k : Int) < 2 ^ 63 := Int.lt_of_le_of_lt (Int.ofNat_le.mpr (Nat.le_trans z (Nat.le_of_eq sizeLine_eq))) (by decide)

theorem ev_len (ok : Ok b ns K mg mb) {x : X} (hx : EvOK b ns C n x) : EvOK b ns C n (.len x) := by
  intro sc T e hm ρ H v H' hv
  refine oc1_elim (mX_len_eq.symm.trans hm) fun fe y he hm => and_elim hm fun w20 h2 => and_elim w20 fun h0 h1 => asCall_elim (R := fun e => EvG b n sc T e ρ H v H') he fun p => ?_
  refine vh_elim (ev_len_eq.symm.trans hv) fun u H1 e1 hv => oh_elim hv fun xs e2 hv => sp_elim hv ?_
  intro A s μ B₀ env hr S L Q E hQ
  refine call_b ok (id := "len") bu_len h0 S L.eok h1 rfl (one_arg hx h1 h2 e1 hr S L fun rv s1 μ1 P1 V1 => ?_)
  exact listOf_spec V1 P1.st e2 fun a vs hl z f => call_len_list hl (line_lt z) (hQ _ _ μ1 (P1.trans (Step.tok P1.st)) (f.length.symm ▸ FR.int _ _))

theorem copy_ok {a : Addr} {vs : List Value} (hl : s.heap.IsList a vs.toArray) (z : vs.length ≤ sizeLine) {A : Around} {Q : Value → Shared → Prop} {E : Value → Shared → Prop}
    (hQ : ∀ h' c', (∀ b o', s.heap.get? b = some o' → h'.get? b = some o') → h'.get? s.heap.objs.size = some { cls := .type "list", dict := none, data := .seq vs.toArray c', slots := #[] } → Q (.ref s.heap.objs.size) { s with heap := h' }) :
    wpAny (model b.prog b.w) A (call (.type "list") [.ref a]) Q E s := by
  obtain ⟨o, ho, hc, c, hd⟩ := hl
  exact call_list_seq a (.inl rfl) ho hc hd hQ (by simpa using z)
theorem ev_copy (ok : Ok b ns K mg mb) {x : X} (hx : EvOK b ns C n x) : EvOK b ns C n (.copy x) := by
  intro sc T e hm ρ H v H' hv
  refine oc1_elim (mX_copy_eq.symm.trans hm) fun fe y he hm => and_elim hm fun w21 h2 => and_elim w21 fun h0 h1 => asCall_elim (R := fun e => EvG b n sc T e ρ H v H') he fun p => ?_
  refine lh_elim (ev_copy_eq.symm.trans hv) fun xs H1 e1 hv => sp_elim hv ?_
  intro A s μ B₀ env hr S L Q E hQ
  refine call_t ok (id := "list") bu_list h0 S L.eok h1 rfl (one_arg hx h1 h2 e1 hr S L fun rv s1 μ1 P1 V1 => ?_)
  refine fr_lst V1 fun a vs hl z nb f => ?_
  refine copy_ok hl z fun h' c' k hn => ?_
  have P2 : Step b B₀ μ1 H1 s1 μ1 H1 { s1 with heap := h' } := Step.loose P1.st k (Nat.le_of_lt (Heap.lt_size hn)) rfl rfl
  exact hQ _ _ μ1 (P1.trans P2) (.lst ⟨_, hn⟩ z (not_bad_new P1.st (Nat.le_refl _)) (FRs.mono (fun a o e nb => ⟨k _ _ e, nb⟩) f))
theorem ev_copyM (ok : Ok b ns K mg mb) {x : X} (hx : EvOK b ns C n x) : EvOK b ns C n (.copyM x) := by
  intro sc T e hm ρ H v H' hv
  refine oc1_elim (mX_copyM_eq.symm.trans hm) fun fe y he hm => and_elim hm fun w22 h2 => and_elim w22 fun h0 h1 => asCall_elim (R := fun e => EvG b n sc T e ρ H v H') he fun p => ?_
  refine lh_elim (ev_copyM_eq.symm.trans hv) fun xs H1 e1 hv => sp_elim hv ?_
  intro A s μ B₀ env hr S L Q E hQ
  refine call_t ok (id := "list") bu_list h0 S L.eok h1 rfl (one_arg hx h1 h2 e1 hr S L fun rv s1 μ1 P1 V1 => ?_)
  refine fr_lst V1 fun a vs hl z nb f => ?_
  refine copy_ok hl z fun h' c' k hn => ?_
  have hz : s1.heap.objs.size ≤ s1.heap.objs.size ∧ s1.heap.objs.size < h'.objs.size := ⟨Nat.le_refl _, Heap.lt_size hn⟩
  have P2 : Step b B₀ μ1 H1 s1 (μ1 ++ [(s1.heap.objs.size, s1.heap.objs.size)]) (H1 ++ [.lst (xs.map .d)]) { s1 with heap := h' } := by
    refine Step.new P1.st k hz hz rfl rfl ⟨rfl, vs, ⟨_, hn⟩, z, (all2_d (b := b) (μ := μ1) f).imp fun v rv x => VR.lift (fun a ob e nb => ⟨k _ _ e, fun q => q.elim (fun z => nb (.inl z)) fun l => ?_⟩) (fun _ _ e => get_append e) x⟩
    rcases live_append P1.st.len l with z | rfl | rfl
    · exact nb (.inr z)
    · exact Nat.lt_irrefl _ (Heap.lt_size e)
    · exact Nat.lt_irrefl _ (Heap.lt_size e)
  exact hQ _ _ _ (P1.trans P2) (new_loc P1.st)

/-! ## sorted -/
theorem insI_perm (a : Int) : ∀ l, (insI a l).Perm (a :: l)
  | [] => .refl _
  | c :: r => by
    unfold insI
    split
    · exact .refl _
    · exact (List.Perm.cons c (insI_perm a r)).trans (.swap _ _ _)
theorem sortI_perm : ∀ l : List Int, (sortI l).Perm l
  | [] => .refl _
  | a :: r => (insI_perm a _).trans (.cons a (sortI_perm r))
set_option tactic.hygienic true in
theorem insI_sorted (a : Int) : ∀ {l : List Int}, l.Pairwise (· ≤ ·) → (insI a l).Pairwise (· ≤ ·)
  | [], _ => List.pairwise_singleton _ _
  | c :: r, h => by
    unfold insI
    obtain ⟨h1, h2⟩ := List.pairwise_cons.mp h
    split
    · rename_i hac
      refine List.pairwise_cons.mpr ⟨fun x hx => ?_, h⟩
      rcases List.mem_cons.mp hx with rfl | hx
      · exact hac
      · exact Int.le_trans hac (h1 x hx)
    · rename_i hac
      refine List.pairwise_cons.mpr ⟨fun x hx => ?_, insI_sorted a h2⟩
      rcases List.mem_cons.mp ((insI_perm a r).mem_iff.mp hx) with rfl | hx
      · omega
      · exact h1 x hx
theorem sortI_sorted : ∀ l : List Int, (sortI l).Pairwise (· ≤ ·)
  | [] => .nil
  | a :: r => insI_sorted a (sortI_sorted r)
theorem sorted_one : ∀ {l l' : List Int}, l.Perm l' → l.Pairwise (· ≤ ·) → l'.Pairwise (· ≤ ·) → l = l'
  | [], l', p, _, _ => (List.nil_perm.mp p).symm
  | a :: r, [], p, _, _ => absurd p.length_eq (by simp)
  | a :: r, c :: q, p, h, h' => by
    obtain ⟨h1, h2⟩ := List.pairwise_cons.mp h
    obtain ⟨g1, g2⟩ := List.pairwise_cons.mp h'
    have e1 : a ≤ c := by
      rcases List.mem_cons.mp (p.mem_iff.mpr List.mem_cons_self) with rfl | hx
      · exact Int.le_refl _
      · exact h1 _ hx
    have e2 : c ≤ a := by
      rcases List.mem_cons.mp (p.mem_iff.mp List.mem_cons_self) with rfl | hx
      · exact Int.le_refl _
      · exact g1 _ hx
    obtain rfl : a = c := by omega
    rw [sorted_one (List.Perm.cons_inv p) h2 g2]

theorem ints_of {B : Addr → Prop} {h : Heap} {xs : List D} : ∀ {is : List Int} {vs : List Value}, intsOf xs = some is → All2 (FR B h) xs vs → IntsAre vs is := by
  induction xs with
  | nil => exact fun e f => so_1 (R := fun is => IntsAre _ is) e (f.elim (P := fun vs => IntsAre vs []) .nil)
  | cons x xs ih => exact fun {is vs} e f => f.elim (P := fun vs => IntsAre vs is) fun v vs r f => id_elim (R := fun x => FR B h x v → IntsAre (v :: vs) is) e (fun i e r => oh_elim e fun is' e' e => so_1 (R := fun is => IntsAre (v :: vs) is) e (fr_int r fun t => .cons _ _ (ih e' f))) r
theorem ints_frs {B : Addr → Prop} {h : Heap} {is : List Int} {vs : List Value} (i : IntsAre vs is) : FRs B h (is.map .int) vs := by
  induction i with
  | nil => exact .nil
  | cons i t r ih => exact .cons (.int i t) ih

theorem ev_sorted (ok : Ok b ns K mg mb) {x : X} (hx : EvOK b ns C n x) : EvOK b ns C n (.sorted x) := by
  intro sc T e hm ρ H v H' hv
  refine oc1_elim (mX_sorted_eq.symm.trans hm) fun fe y he hm => and_elim hm fun w23 h2 => and_elim w23 fun h0 h1 => asCall_elim (R := fun e => EvG b n sc T e ρ H v H') he fun p => ?_
  refine lh_elim (ev_sorted_eq.symm.trans hv) fun xs H1 e1 hv => oh_elim hv fun is e2 hv => if_elim hv fun e3 hv => sp_elim hv ?_
  intro A s μ B₀ env hr S L Q E hQ
  refine call_b ok (id := "sorted") bu_sorted h0 S L.eok h1 rfl (one_arg hx h1 h2 e1 hr S L fun rv s1 μ1 P1 V1 => ?_)
  refine fr_lst V1 fun a vs hl z nb f => ?_
  have hi := ints_of e2 (frs_all2 f)
  refine sorted_ints hl hi (hi.length ▸ e3) fun out is' a1 a2 a3 => ?_
  obtain ⟨c, hn⟩ := sortedAll_at s1.heap vs out
  have k : ∀ a o, s1.heap.get? a = some o → (sortedAll s1.heap vs out).get? a = some o := fun a o e => sortedAll_old e
  have P2 : Step b B₀ μ1 H1 s1 μ1 H1 { s1 with heap := sortedAll s1.heap vs out } := Step.loose P1.st k (Nat.le_trans (Nat.le_succ _) (Nat.le_of_lt (Heap.lt_size hn))) rfl rfl
  have e4 : is' = sortI is := sorted_one (a2.trans (sortI_perm is).symm) a3 (sortI_sorted is)
  have e5 : out.toList.length = is.length := a1.length.trans a2.length_eq
  refine hQ _ _ μ1 (P1.trans P2) (.lst (vs := out.toList) ⟨c, ?_⟩ (le_line (Nat.le_trans (Nat.le_of_eq e5) (Nat.le_trans (Nat.le_of_lt e3) (by decide)))) (not_bad_new P1.st (Nat.le_succ _)) (ints_frs (e4 ▸ a1)))
  rw [hn]

/-! ## int, isinstance, repr -/
theorem ev_toInt (ok : Ok b ns K mg mb) {x : X} (hx : EvOK b ns C n x) : EvOK b ns C n (.toInt x) := by
  intro sc T e hm ρ H v H' hv
  refine oc1_elim (mX_toInt_eq.symm.trans hm) fun fe y he hm => and_elim hm fun w24 h2 => and_elim w24 fun h0 h1 => asCall_elim (R := fun e => EvG b n sc T e ρ H v H') he fun p => ?_
  refine bh_elim (ev_toInt_eq.symm.trans hv) fun xs H1 e1 hv => sp_elim hv ?_
  intro A s μ B₀ env hr S L Q E hQ
  refine call_t ok (id := "int") bu_int h0 S L.eok h1 rfl (one_arg hx h1 h2 e1 hr S L fun rv s1 μ1 P1 V1 => ?_)
  refine fr_bool V1 ?_
  exact call_int_bool (hQ _ _ μ1 (P1.trans (Step.tok P1.st)) (.int _ _))

theorem two_args (ok : Ok b ns K mg mb) {x : X} (hx : EvOK b ns C n x) {e g : Expr} (h1 : notStar e = true) (h2 : mX sc T x e = true) {v : V} (hv : ev ns C x ρ H = some (v, H')) {A : Around} (hr : Room A n) (S : St b B₀ μ H s.heap) (L : Slots b B₀ sc T env ρ μ H s.heap) {y : Str} {ty : String} (hg : isGlob sc y g = true)
    (hy : (y, Value.type ty) ∈ builtinsUsed) {pos : Pos} {Q : List Value → Shared → Prop} {E : Value → Shared → Prop}
    (hQ : ∀ rv s' μ', Step b B₀ μ H s μ' H' s' → VR b.scr μ' (Bad B₀ μ' H') s'.heap v rv → Q [rv, .type ty] s') : wpAny (model b.prog b.w) A (spliced (backTo pos (starEach [e, g] env))) Q E s := by
  have hs : notStar g = true := glob_elim (R := fun g => notStar g = true) hg fun _ _ _ => rfl
  exact wpAny_items_cons (hx h2 hv hr S L fun rv s1 μ1 P1 V1 => wpAny_items_cons (glob_builtin hg P1.st L.eok ok hy (wpAny_items_nil (hQ _ _ _ P1 V1))) (starEach_plain hs)) (starEach_plain h1)

theorem tupQ_elim {R : D → Bool → Prop} {d : D} {c : Bool} (h : tupQ d = some c) (k1 : ∀ xs, R (.tup xs) true) (k2 : ∀ i, R (.int i) false) : R d c := by
  cases d <;> first | exact no_some h | exact so_1 (R := R _) h (k1 _) | exact so_1 (R := R _) h (k2 _)
theorem boolQ_elim {R : D → Bool → Prop} {d : D} {c : Bool} (h : boolQ d = some c) (k1 : ∀ xs, R (.bool xs) true) (k2 : ∀ i, R (.int i) false) (k3 : ∀ i, R (.bytes i) false) : R d c := by
  cases d <;> first | exact no_some h | exact so_1 (R := R _) h (k1 _) | exact so_1 (R := R _) h (k2 _) | exact so_1 (R := R _) h (k3 _)
theorem glob_back {x : Str} {g : Expr} {p : Pos} (hg : isGlob sc x g = true) : (backTo p (starEach [g] env)).any (·.1) = false := glob_elim (R := fun g => (backTo p (starEach [g] env)).any (·.1) = false) hg fun _ _ _ => rfl
theorem ev_isTup (ok : Ok b ns K mg mb) {x : X} (hx : EvOK b ns C n x) : EvOK b ns C n (.isTup x) := by
  intro sc T e hm ρ H v H' hv
  refine oc2_elim (mX_isTup_eq.symm.trans hm) fun fe y g he hm => and_elim hm fun w25 h2 => and_elim w25 fun w26 h1 => and_elim w26 fun h0 hg => asCall_elim (R := fun e => EvG b n sc T e ρ H v H') he fun p => ?_
  refine dh_elim (ev_isTup_eq.symm.trans hv) fun d H1 e1 hv => oh_elim hv fun c e2 hv => sp_elim hv ?_
  intro A s μ B₀ env hr S L Q E hQ
  refine call_b ok (id := "isinstance") bu_isinstance h0 S L.eok h1 (glob_back hg) (two_args ok hx h1 h2 e1 hr S L hg (ty := "tuple") bu_tuple fun rv s1 μ1 P1 V1 => ?_)
  have q := fun s2 P2 => hQ (.bool c) s2 μ1 (P1.trans P2) (.bool _)
  refine tupQ_elim (R := fun d c => (∀ s2, Step b B₀ μ1 H1 s1 μ1 H1 s2 → Q (.bool c) s2) → FR (Bad B₀ μ1 H1) s1.heap d rv → wpAny (model b.prog b.w) A (call (.builtin "isinstance") [rv, .type "tuple"]) Q E s1) e2 (fun xs q V1 => ?_) (fun i q V1 => ?_) q V1
  · exact fr_tup V1 fun a vs hl z nb f => call_isinstance (isinstance_true (Tx := "tuple") PySem.F.isi_meta_tuple PySem.F.sub_tuple_tuple) ⟨PyProof.Rows.IsTup.typeIs hl, q _ (Step.refl P1.st)⟩
  · exact fr_int V1 fun t => IsiPair.int_tuple (q _ (Step.tok P1.st))

theorem bytes_bool {x : Array UInt8} {u : Tok} {A : Around} {Q : Value → Shared → Prop} {E : Value → Shared → Prop} (h : Q (.bool false) { s with toks := s.toks + 1 }) : wpAny (model b.prog b.w) A (call (.builtin "isinstance") [.bytes x u, .type "bool"]) Q E s := by
  refine call_function_meets (S := fun _ R s => R (.ok (.ret (.bool false))) { s with toks := s.toks + 1 }) PySem.F.kind_isinstance PySem.F.plain_isinstance PySem.F.entry_isinstance (PySem.F.args_isinstance_2 _ _) (fun prog w A R s hs => ?_) h
  obtain ⟨h, g, d, t, os⟩ := s
  exact isinstance_outer (isinstance_nested_false_bytes (by decide +kernel) PySem.F.isi_meta_bool PySem.F.sub_bytes_bool hs) (fun e => by cases e)
theorem ev_isBool (ok : Ok b ns K mg mb) {x : X} (hx : EvOK b ns C n x) : EvOK b ns C n (.isBool x) := by
  intro sc T e hm ρ H v H' hv
  refine oc2_elim (mX_isBool_eq.symm.trans hm) fun fe y g he hm => and_elim hm fun w27 h2 => and_elim w27 fun w28 h1 => and_elim w28 fun h0 hg => asCall_elim (R := fun e => EvG b n sc T e ρ H v H') he fun p => ?_
  refine dh_elim (ev_isBool_eq.symm.trans hv) fun d H1 e1 hv => oh_elim hv fun c e2 hv => sp_elim hv ?_
  intro A s μ B₀ env hr S L Q E hQ
  refine call_b ok (id := "isinstance") bu_isinstance h0 S L.eok h1 (glob_back hg) (two_args ok hx h1 h2 e1 hr S L hg (ty := "bool") bu_bool fun rv s1 μ1 P1 V1 => ?_)
  have q := fun s2 P2 => hQ (.bool c) s2 μ1 (P1.trans P2) (.bool _)
  refine boolQ_elim (R := fun d c => (∀ s2, Step b B₀ μ1 H1 s1 μ1 H1 s2 → Q (.bool c) s2) → FR (Bad B₀ μ1 H1) s1.heap d rv → wpAny (model b.prog b.w) A (call (.builtin "isinstance") [rv, .type "bool"]) Q E s1) e2 (fun xs q V1 => ?_) (fun i q V1 => ?_) (fun i q V1 => ?_) q V1
  · exact fr_bool V1 (IsiPair.bool_bool (q _ (Step.refl P1.st)))
  · exact fr_int V1 fun t => IsiPair.int_bool (q _ (Step.tok P1.st))
  · exact FR.elim (R := fun rv => wpAny (model b.prog b.w) A (call (.builtin "isinstance") [rv, .type "bool"]) Q E s1) V1 fun t => bytes_bool (q _ (Step.tok P1.st))

theorem slot_bytes_repr : PySem.Slot "bytes" "__repr__" "bytes.__repr__" :=
  .of (owner := "bytes") (n := "__repr__") (by rw [typeLookup_type, builtinLookup_eq_fast]; kernel_rfl) (by decide +kernel) (by decide +kernel) (by decide +kernel)
    (by first | exact .inl (by decide +kernel) | exact .inr (by decide +kernel)) (by rw [isSubtype_type]; kernel_rfl)
theorem entry_bytes_repr : entryFor table "bytes.__repr__" = some Builtin.«bytes.__repr__» := entryFor_of_tree (by kernel_rfl)
theorem args_bytes_repr (a : Value) : argsOk "bytes.__repr__" ⟨[a], []⟩ := by unfold argsOk; kernel_rfl
theorem gives_bytes_x (t : Tok) : Gives (Builtin.«bytes.__repr__» ⟨[.bytes #[120] t], []⟩) (.str (Str.ofString "b'x'")) := .of_eq (by kernel_rfl)

theorem repr_ok {x : D} {y : Str} (h : reprD x = some y) {B : Addr → Prop} {v : Value} (hv : FR B s.heap x v) {A : Around} {Q : Value → Shared → Prop} {E : Value → Shared → Prop} (hQ : Q (.str y s.toks) { s with toks := s.toks + 1 }) :
    wpAny (model b.prog b.w) A (call (.builtin "repr") [v]) Q E s := by
  have q : ∀ {z}, some z = some y → Q (.str z s.toks) { s with toks := s.toks + 1 } := fun e => Option.some.inj e ▸ hQ
  clear hQ
  cases x with
  | none => exact fr_none hv (P.repr_of_none (q h))
  | bool c => exact fr_bool hv (P.repr_of_bool (q h))
  | int i => exact if_elim h fun h0 h => fr_int hv fun t => h0 ▸ P.repr_of_int (by decide) (q h)
  | bytes c => exact if_elim h fun h0 h => FR.elim (R := fun v => wpAny (model b.prog b.w) A (call (.builtin "repr") [v]) Q E s) hv fun t => h0 ▸ call_repr_gives rfl slot_bytes_repr entry_bytes_repr (args_bytes_repr _) (gives_bytes_x _) (q h) (hx := by decide +kernel)
  | _ => exact no_some h
theorem ev_repr (ok : Ok b ns K mg mb) {x : X} (hx : EvOK b ns C n x) : EvOK b ns C n (.repr x) := by
  intro sc T e hm ρ H v H' hv
  refine oc1_elim (mX_repr_eq.symm.trans hm) fun fe y he hm => and_elim hm fun w29 h2 => and_elim w29 fun h0 h1 => asCall_elim (R := fun e => EvG b n sc T e ρ H v H') he fun p => ?_
  refine dh_elim (ev_repr_eq.symm.trans hv) fun x' H1 e1 hv => oh_elim hv fun y e2 hv => sp_elim hv ?_
  intro A s μ B₀ env hr S L Q E hQ
  refine call_b ok (id := "repr") bu_repr h0 S L.eok h1 rfl (one_arg hx h1 h2 e1 hr S L fun rv s1 μ1 P1 V1 => ?_)
  exact repr_ok e2 V1 (hQ _ _ μ1 (P1.trans (Step.tok P1.st)) (.str _ _))

/-! ## slices -/
theorem pick_lo (items : List Value) (a c : Int) (ha : 0 ≤ a) (hc : 0 ≤ c) : slicePick items.toArray (some a) (some c) none = ((items.take c.toNat).drop a.toNat).toArray := by
  obtain ⟨a, rfl⟩ := Int.eq_ofNat_of_zero_le ha
  obtain ⟨c, rfl⟩ := Int.eq_ofNat_of_zero_le hc
  rw [slicePick_plain]
  simp only [Option.elim, clipAt_nat, List.size_toArray, Int.toNat_natCast]
  congr 1
  have h1 : items.take c = items.take (min c items.length) := by
    rw [← List.take_take, List.take_length]
  have h2 : ∀ l : List Value, l.length ≤ items.length → l.drop a = l.drop (min a items.length) := fun l h => by
    by_cases q : a ≤ items.length
    · rw [Nat.min_eq_left q]
    · rw [Nat.min_eq_right (Nat.le_of_lt (Nat.not_le.mp q)), List.drop_eq_nil_of_le h, List.drop_eq_nil_of_le (Nat.le_trans h (Nat.le_of_lt (Nat.not_le.mp q)))]
  rw [h2 (items.take c) (List.length_take_le' ..), h1, List.drop_take]
theorem pick_0 (items : List Value) (c : Int) (hc : 0 ≤ c) : slicePick items.toArray none (some c) none = (items.take c.toNat).toArray := by
  obtain ⟨c, rfl⟩ := Int.eq_ofNat_of_zero_le hc
  rw [slicePick_upto']
  simp
theorem ints_take {is : List Int} {vs : List Value} (h : IntsAre vs is) (n : Nat) : IntsAre (vs.take n) (is.take n) := by
  induction h generalizing n with
  | nil => simp; exact .nil
  | cons i t r ih => cases n with
    | zero => exact .nil
    | succ n => exact .cons i t (ih n)
theorem part_some {e : Expr} {env : Env} : evalPart (some e) env = eval e env := evalPart_some e env
theorem slice_step {o : Obj} {xs : List D} {vs : List Value} (S : St b B₀ μ H s.heap) (f : FRs (Bad B₀ μ H) s.heap xs vs) (z : vs.length ≤ sizeLine) {Q : Value → Shared → Prop}
    (hQ : ∀ rv s', Step b B₀ μ H s μ H s' → FR (Bad B₀ μ H) s'.heap (.lst xs) rv → Q rv s') : Q (.ref (s.heap.objs.size + 1)) { s with heap := (s.heap.push o).push { cls := .type "list", data := .seq vs.toArray } } := by
  have P1 : Step b B₀ μ H s μ H { s with heap := s.heap.push o, toks := s.toks } := push_step S
  have P2 := push_step (o := { cls := .type "list", data := .seq vs.toArray }) (tk := s.toks) P1.st
  have F := new_lst P1.st (FRs.mono (fun a ob e nb => ⟨Heap.get?_push_of_some _ e, nb⟩) f) z
  refine hQ _ _ (P1.trans P2) ?_
  have e : (s.heap.push o).objs.size = s.heap.objs.size + 1 := Heap.size_push ..
  rw [← e]
  exact F
end Mine
end

/-! ### Sound4d -/
section
set_option tactic.hygienic false
set_option genSizeOf false
set_option bootstrap.genMatcherCode false
open PySem PySem.W PyProof.Rows PySem.Calls PySem.SeqAt
set_option linter.unusedVariables false
set_option linter.unusedSimpArgs false
set_option maxRecDepth 100000
namespace Mine
variable {b : Base} {ns : List Int} {K : Frag} {mg mb : Str → Option Value} {B₀ : Addr → Prop} {sc : Scope} {T : List Slot} {env : Env} {ρ : List V} {μ μ' : Mu} {H H' : List O} {s s' : Shared} {C : Calls'} {n : Nat}

theorem name_go {v : Expr} (h : (asName v).isSome = true) (o r : Value) : letTemporaryGo v o r = pure () :=
  (Option.isSome_iff_exists.mp h).elim fun y hy => asName_elim (R := fun v => letTemporaryGo v o r = pure ()) hy fun _ => rfl
theorem scr_elim {R : V → Prop} {u v : V} {i : Int} (h : (match u with | .scr => if 0 ≤ i then some (V.d (.lst ((ns.take i.toNat).map .int))) else none | _ => none) = some v) (k : 0 ≤ i → some (V.d (.lst ((ns.take i.toNat).map .int))) = some v → R .scr) : R u := by
  cases u <;> first | exact no_some h | exact if_elim h k
theorem ev_sl0 (ok : Ok b ns K mg mb) {x y : X} (hx : EvOK b ns C n x) (hy : EvOK b ns C n y) : EvOK b ns C n (.sl0 x y) := by
  intro sc T e hm ρ H v H' hv
  refine ob2_elim (mX_sl0_eq.symm.trans hm) fun e' j he hm => oz_elim hm fun u' hj hm => ob1_elim hm fun u hu hm => and_elim hm fun hm h2 => and_elim hm fun h0 h1 => asSub_elim (R := fun e => EvG b n sc T e ρ H v H') he fun p => asSlice_elim (R := fun j => EvG b n sc T (.Subscript e' j p) ρ H v H') (hu ▸ hj) fun p' => ?_
  refine vh_elim (ev_sl0_eq.symm.trans hv) fun w H1 e1 hv => vh_elim hv fun j' H2 e2 hv => oh_elim hv fun v' e3 hv => sp_elim hv ?_
  clear hm hu hj he
  intro A s μ B₀ env hr S L Q E hQ
  refine wpAny_Subscript_list_slice (hx h1 e1 hr S L fun rv s1 μ1 P1 V1 => ?_) (fun o r => name_go h0 o r)
  rw [evalPart_none]
  refine wpAny_pure ?_
  rw [evalPart_some]
  refine hy h2 e2 hr P1.st (L.step S P1) fun ru s2 μ2 P2 V2 => ?_
  refine iv_elim (R := fun j' => VR b.scr μ2 (Bad B₀ μ2 H2) s2.heap j' ru → _) e3 (fun i e3 V2 => scr_elim (R := fun w => VR b.scr μ2 (Bad B₀ μ2 H2) s2.heap w rv → _) e3 (fun hi e3 V1 => fr_int V2 fun t => ?_) (VR.step P2 V1)) V2
  obtain rfl := V1
  obtain ⟨vs, hl, hI, z⟩ := ok.scr
  have hl' : s2.heap.IsList b.scr vs.toArray := hl.elim fun o r => ⟨o, P2.st.base _ _ r.1, r.2⟩
  refine ⟨b.scr, vs.toArray, none, some i, rfl, hl', z, .none, .int i t, pick_0 vs i hi ▸ ?_⟩
  exact slice_step (Q := fun rv s' => Q rv s') P2.st (ints_frs (ints_take hI i.toNat)) (Nat.le_trans (List.length_take_le' ..) z) fun rv s3 P3 F3 => hQ rv s3 μ2 ((P1.trans P2).trans P3) (Option.some.inj e3 ▸ F3)
theorem frs_take {B : Addr → Prop} {h : Heap} {xs : List D} {vs : List Value} (f : FRs B h xs vs) (a c : Nat) : FRs B h ((xs.take a).drop c) ((vs.take a).drop c) := all2_frs (((frs_all2 f).take a).drop c)
theorem ev_sl {x y z : X} (hx : EvOK b ns C n x) (hy : EvOK b ns C n y) (hz : EvOK b ns C n z) : EvOK b ns C n (.sl x y z) := by
  intro sc T e hm ρ H v H' hv
  refine ob2_elim (mX_sl_eq.symm.trans hm) fun e' j he hm => ob2_elim hm fun l' u' hj hm => ob1_elim hm fun l hl hm => ob1_elim hm fun u hu hm => and_elim hm fun hm h3 => and_elim hm fun hm h2 => and_elim hm fun h0 h1 => asSub_elim (R := fun e => EvG b n sc T e ρ H v H') he fun p => asSlice_elim (R := fun j => EvG b n sc T (.Subscript e' j p) ρ H v H') (hu ▸ hl ▸ hj) fun p' => ?_
  refine vh_elim (ev_sl_eq.symm.trans hv) fun w H1 e1 hv => vh_elim hv fun lo H2 e2 hv => vh_elim hv fun hi H3 e3 hv => oh_elim hv fun v' e4 hv => sp_elim hv ?_
  clear hm hu hl hj he
  intro A s μ B₀ env hr S L Q E hQ
  refine wpAny_Subscript_list_slice (hx h1 e1 hr S L fun rv s1 μ1 P1 V1 => ?_) (fun o r => name_go h0 o r)
  rw [evalPart_some]
  refine hy h2 e2 hr P1.st (L.step S P1) fun ru s2 μ2 P2 V2 => ?_
  rw [evalPart_some]
  refine hz h3 e3 hr P2.st ((L.step S P1).step P1.st P2) fun rw' s3 μ3 P3 V3 => ?_
  refine dv_elim (R := fun w => VR b.scr μ3 (Bad B₀ μ3 H3) s3.heap w rv → _) e4 (fun d e4 V1 => ld_elim (R := fun d => FR (Bad B₀ μ3 H3) s3.heap d rv → _) e4 (fun xs e4 V1 => iv_elim (R := fun lo => VR b.scr μ3 (Bad B₀ μ3 H3) s3.heap lo ru → _) e4 (fun a e4 V2 => iv_elim (R := fun hi => VR b.scr μ3 (Bad B₀ μ3 H3) s3.heap hi rw' → _) e4 (fun c e4 V3 => if_elim e4 fun hac e4 => ?_) V3) (VR.step P3 V2)) V1) (VR.step (P2.trans P3) V1)
  refine fr_lst V1 fun ad vs hl zz nb f => fr_int V2 fun t => fr_int V3 fun t' => ?_
  refine ⟨ad, vs.toArray, some a, some c, rfl, hl, zz, .int a t, .int c t', pick_lo vs a c hac.1 hac.2 ▸ ?_⟩
  exact slice_step (Q := fun rv s' => Q rv s') P3.st (frs_take f c.toNat a.toNat) (Nat.le_trans (Nat.le_trans (Nat.le_of_eq List.length_drop) (Nat.sub_le _ _)) (Nat.le_trans (List.length_take_le' ..) zz)) fun rv s4 P4 F4 => hQ rv s4 μ3 (((P1.trans P2).trans P3).trans P4) (Option.some.inj e4 ▸ F4)

/-! ## dicts -/
theorem new_dict {kvs : List (Int × V)} {ps : List (Int × Value)} (S : St b B₀ μ H s.heap) (k : ∀ a o, s.heap.get? a = some o → s'.heap.get? a = some o) (hz : s.heap.objs.size < s'.heap.objs.size) (hg : s'.gens = s.gens) (ho : s'.os = s.os)
    (hd : s'.heap.DictOf (intKind b.prog b.w) s.heap.objs.size ps) (z : ps.length ≤ sizeLine) (f : All2 (fun a c => a.1 = c.1 ∧ VR b.scr μ (Bad B₀ μ H) s.heap a.2 c.2) kvs ps) :
    Step b B₀ μ H s (μ ++ [(s.heap.objs.size, s.heap.objs.size)]) (H ++ [.dict kvs]) s' := by
  refine Step.new S k ⟨Nat.le_refl _, hz⟩ ⟨Nat.le_refl _, hz⟩ hg ho ⟨rfl, ps, hd, z, f.imp fun v rv x => ⟨x.1, VR.lift (fun a ob e nb => ⟨k _ _ e, fun q => q.elim (fun z => nb (.inl z)) fun l => ?_⟩) (fun _ _ e => get_append e) x.2⟩⟩
  rcases live_append S.len l with z | rfl | rfl
  · exact nb (.inr z)
  · exact Nat.lt_irrefl _ (Heap.lt_size e)
  · exact Nat.lt_irrefl _ (Heap.lt_size e)
theorem ev_dictM {kvs : List (Int × Bool)} : EvOK b ns C n (.dictM kvs) := by
  intro sc T e hm ρ H v H' hv
  refine ob2_elim (mX_dictM_eq.symm.trans hm) fun ks vs he hm => and_elim hm fun h _ => asDict_elim (R := fun e => EvG b n sc T e ρ H v H') he fun p => if_elim (ev_dictM_eq.symm.trans hv) fun hl hv => sp_elim hv ?_
  clear hm hv he
  cases kvs with
  | nil =>
    refine and_elim h fun h1 h2 => l0_elim (R := fun ks => EvG b n sc T (.Dict ks vs p) ρ H (.loc H.length) (H ++ [.dict []])) h1 (l0_elim (R := fun vs => EvG b n sc T (.Dict [] vs p) ρ H (.loc H.length) (H ++ [.dict []])) h2 ?_)
    intro A s μ B₀ env hr S L Q E hQ
    rw [eval_Dict_empty]
    refine wpAny_bind (wpAny_standAt ?_)
    unfold newDict
    refine wpAny_newObj_type ?_ (Nat.zero_le _)
    refine hQ _ _ _ (new_dict (ps := []) S (fun a o e => Heap.get?_push_of_some _ e) (by show _ < (s.heap.push _).objs.size; rw [Heap.size_push]; exact Nat.lt_succ_self _) rfl rfl (Heap.DictOf.new ..) (Nat.zero_le _) .nil) (new_loc S)
  | cons kc r =>
    cases r with
    | cons _ _ => exact absurd hl (Nat.not_succ_le_self 1 ∘ Nat.le_trans (Nat.le_add_left 2 _))
    | nil =>
      obtain ⟨k, c⟩ := kc
      refine lc_elim (R := fun ks => EvG b n sc T (.Dict ks vs p) ρ H (.loc H.length) (H ++ [.dict [(k, .d (.bool c))]])) h fun ke' ks h => ob1_elim h fun ke hke h => lc_elim (R := fun vs => EvG b n sc T (.Dict (ke' :: ks) vs p) ρ H (.loc H.length) (H ++ [.dict [(k, .d (.bool c))]])) h fun ve vs h => and_elim h fun h h3 => and_elim h fun h1 h2 => and_elim h3 fun h3 h4 => ?_
      subst hke
      refine l0_elim (R := fun ks => EvG b n sc T (.Dict (some ke :: ks) (ve :: vs) p) ρ H (.loc H.length) (H ++ [.dict [(k, .d (.bool c))]])) h3 (l0_elim (R := fun vs => EvG b n sc T (.Dict [some ke] (ve :: vs) p) ρ H (.loc H.length) (H ++ [.dict [(k, .d (.bool c))]])) h4 ?_)
      refine asConst_elim (R := fun ke => EvG b n sc T (.Dict [some ke] [ve] p) ρ H (.loc H.length) (H ++ [.dict [(k, .d (.bool c))]])) (dec_elim h1) fun k1 p1 => asConst_elim (R := fun ve => EvG b n sc T (.Dict [some (.Constant (.int k) k1 p1)] [ve] p) ρ H (.loc H.length) (H ++ [.dict [(k, .d (.bool c))]])) (dec_elim h2) fun k2 p2 => ?_
      clear h h1 h2 h3 h4 hl
      intro A s μ B₀ env hr S L Q E hQ
      refine wpAny_Dict_pairs (knd := intKind b.prog b.w) (pairs := [(eval (.Constant (.int k) k1 p1) env, do let x ← eval (.Constant (.bool c) k2 p2) env; standAt p; pure x)]) rfl (List.cons_ne_nil _ _) (show 1 ≤ 15 by decide) ?_
      refine evalPairs_cons (wpAny_Constant_int (wpAny_bind (wpAny_Constant_bool (wpAny_bind (wpAny_standAt (wpAny_pure (wpAny_pure ?_)))))))
      refine ⟨[(k, .bool c)], ⟨intKind_is _ _ _ _, rfl, trivial⟩, Heap.DictOf.new .., fun h' hd hs => ?_⟩
      have kk : ∀ a o, s.heap.get? a = some o → h'.get? a = some o := fun a o e => (hs.2 a (Nat.ne_of_lt (Heap.lt_size e))).trans (Heap.get?_push_of_some _ e)
      have hz : s.heap.objs.size < h'.objs.size := by obtain ⟨o, es, ep, ho, r⟩ := hd; exact Heap.lt_size ho
      exact hQ _ _ _ (new_dict (s' := ⟨h', s.gens, s.drawn, _, s.os⟩) (ps := [(k, .bool c)]) S kk hz rfl rfl hd (line_100 (k := 1) rfl) (.cons ⟨rfl, .bool _⟩ .nil)) (new_loc S)

/-! ## ghosts -/
/-- a tracked object let go: what it held is frozen now -/
theorem kill_ok {l : Nat} {o : O} {x : D} {p : Addr × Addr} (S : St b B₀ μ H s.heap) (hp : μ[l]? = some p) (ho : H[l]? = some o) (hl : o.live = true)
    (hx : killO o = some x) :
    Step b B₀ μ H s μ (H.set l .dead) s ∧ FR (Bad B₀ μ (H.set l .dead)) s.heap x (.ref p.1) := by
  have P : Step b B₀ μ H s μ (H.set l .dead) s := Step.upd S hp ho hl (fun a ob _ _ e => e) (Nat.le_refl _) rfl rfl trivial
  refine ⟨P, ?_⟩
  have nb : ∀ a, (a = p.1 ∨ a = p.2) → ¬ Bad B₀ μ (H.set l .dead) a := by
    rintro a ha (z | ⟨i, q, o', e1, e2, e3, e4⟩)
    · obtain ⟨_, _, n1, n2⟩ := S.mu l p hp
      rcases ha with rfl | rfl
      · exact n1 z
      · exact n2 z
    · rcases getElem?_set' e2 with ⟨rfl, rfl, _⟩ | ⟨hne, e2⟩
      · cases e3
      · obtain ⟨n1, n2, n3, n4⟩ := S.apart l i p q hne hp e1
        rcases ha with rfl | rfl <;> rcases e4 with h | h
        · exact n1 h
        · exact n2 h
        · exact n3 h
        · exact n4 h
  have up : ∀ {xs : List V} {vs : List Value} {ds : List D}, toDs xs = some ds → All2 (VR b.scr μ (Bad B₀ μ H) s.heap) xs vs → FRs (Bad B₀ μ (H.set l .dead)) s.heap ds vs := fun h f =>
    FRs.mono (fun a ob e n => ⟨e, fun z => n (z.imp id (live_set ho hl))⟩) (toDs_frs h f)
  have O := S.objs l p o hp ho
  cases o with
  | lst xs =>
    obtain ⟨_, vs, hl', z, f⟩ := O
    exact oh_elim hx fun ds h1 hx => so_1 (R := fun x => FR (Bad B₀ μ (H.set l .dead)) s.heap x (.ref p.1)) hx (.lst hl' z (nb _ (.inl rfl)) (up h1 f))
  | obj c fs =>
    obtain ⟨hc, es, m, g1, g2, g3, f⟩ := O
    exact oh_elim hx fun ds h1 hx => so_1 (R := fun x => FR (Bad B₀ μ (H.set l .dead)) s.heap x (.ref p.1)) hx (.obj g1 g2 g3 hc (nb _ (.inl rfl)) (nb _ (.inr rfl)) (up h1 f))
  | dict _ => exact no_some hx
  | dead => exact no_some hx
theorem killO_live {o : O} {x : D} (h : killO o = some x) : o.live = true := by
  cases o with
  | dead => exact no_some h
  | _ => rfl
theorem ev_kill {x : X} (hx : EvOK b ns C n x) : EvOK b ns C n (.kill x) := by
  intro sc T e hm ρ H v H' hv
  refine ph_elim (ev_kill_eq.symm.trans hv) fun l H1 e1 hv => oh_elim hv fun d e2 hv => sp_elim hv ?_
  intro A s μ B₀ env hr S L Q E hQ
  refine hx hm e1 hr S L fun rv s1 μ1 P1 V1 => ?_
  obtain ⟨p, hp, rfl⟩ := V1
  have q := kill_ok P1.st hp (getO_get rfl (killO_live e2)) (killO_live e2) e2
  exact hQ _ _ μ1 (P1.trans q.1) q.2
end Mine
end

/-! ### Sound5a -/
section
set_option tactic.hygienic false
set_option genSizeOf false
set_option bootstrap.genMatcherCode false
open PySem PySem.W PyProof.Rows PySem.Calls PySem.SeqAt
set_option linter.unusedVariables false
set_option linter.unusedSimpArgs false
set_option maxRecDepth 100000
namespace Mine
variable {b : Base} {ns : List Int} {K : Frag} {mg mb : Str → Option Value} {B₀ B₁ : Addr → Prop} {sc : Scope} {T : List Slot} {env : Env} {ρ : List V} {μ μ' μ'' : Mu} {H H' H'' : List O} {s s' s'' : Shared} {C : Calls'} {n : Nat} {W : Addr → Prop}

/-- a step that may have changed what is the frame's own -/
structure StepF (W : Addr → Prop) (b : Base) (B₀ : Addr → Prop) (μ : Mu) (H : List O) (s : Shared) (μ' : Mu) (H' : List O) (s' : Shared) : Prop where
  st : St b B₀ μ' H' s'.heap
  ext : ∃ ν, μ' = μ ++ ν
  keep : ∀ a o, s.heap.get? a = some o → ¬ Live μ H a → ¬ W a → s'.heap.get? a = some o
  fresh : ∀ a, Live μ' H' a → Live μ H a ∨ s.heap.objs.size ≤ a
  size : s.heap.objs.size ≤ s'.heap.objs.size
  gens : s'.gens = s.gens
  os : s'.os = s.os
theorem Step.f (P : Step b B₀ μ H s μ' H' s') : StepF W b B₀ μ H s μ' H' s' := ⟨P.st, P.ext, fun a o e n _ => P.keep a o e n, P.fresh, P.size, P.gens, P.os⟩
theorem StepF.trans (a : StepF W b B₀ μ H s μ' H' s') (c : StepF W b B₀ μ' H' s' μ'' H'' s'') : StepF W b B₀ μ H s μ'' H'' s'' where
  st := c.st
  ext := by obtain ⟨x, rfl⟩ := a.ext; obtain ⟨y, rfl⟩ := c.ext; exact ⟨x ++ y, by simp⟩
  keep := fun p o e n w => c.keep p o (a.keep p o e n w) (fun l => (a.fresh p l).elim n fun z => Nat.lt_irrefl _ (Nat.lt_of_lt_of_le (Heap.lt_size e) z)) w
  fresh := fun p l => (c.fresh p l).elim (a.fresh p) fun z => .inr (Nat.le_trans a.size z)
  size := Nat.le_trans a.size c.size
  gens := c.gens.trans a.gens
  os := c.os.trans a.os
theorem StepF.mono {W' : Addr → Prop} (a : StepF W b B₀ μ H s μ' H' s') (h : ∀ a, W a → W' a) : StepF W' b B₀ μ H s μ' H' s' := ⟨a.st, a.ext, fun p o e n w => a.keep p o e n fun z => w (h _ z), a.fresh, a.size, a.gens, a.os⟩
/-- what was changed is new: a step -/
theorem StepF.toStep (a : StepF W b B₀ μ H s μ' H' s') (h : ∀ a, W a → s.heap.objs.size ≤ a) : Step b B₀ μ H s μ' H' s' :=
  ⟨a.st, a.ext, fun p o e n => a.keep p o e n fun w => Nat.lt_irrefl _ (Nat.lt_of_lt_of_le (Heap.lt_size e) (h _ w)), a.fresh, a.size, a.gens, a.os⟩
theorem VR.stepF (P : StepF W b B₀ μ H s μ' H' s') (hW : ∀ a, W a → B₀ a) {v : V} {rv : Value} (h : VR b.scr μ (Bad B₀ μ H) s.heap v rv) : VR b.scr μ' (Bad B₀ μ' H') s'.heap v rv := by
  cases v with
  | d x => exact FR.mono (fun a o e n => ⟨P.keep a o e (fun l => n (.inr l)) fun w => n (.inl (hW _ w)), fun q => q.elim (fun z => n (.inl z)) fun l => (P.fresh a l).elim (fun z => n (.inr z)) fun z => Nat.lt_irrefl _ (Nat.lt_of_lt_of_le (Heap.lt_size e) z)⟩) h
  | loc l => obtain ⟨p, e, r⟩ := h; obtain ⟨ν, rfl⟩ := P.ext; exact ⟨p, get_append e, r⟩
  | scr => exact h
  | undef => exact h.elim

/-! ## another set of private places -/
theorem St.more {h' : Heap} (S : St b B₀ μ H s.heap) (k : ∀ a o, s.heap.get? a = some o → h'.get? a = some o) (hz : s.heap.objs.size ≤ h'.objs.size) (hB : ∀ a, B₁ a → B₀ a ∨ (s.heap.objs.size ≤ a ∧ a < h'.objs.size)) : St b B₁ μ H h' where
  base := fun a o e => k _ _ (S.base a o e)
  low := Nat.le_trans S.low hz
  bad0 := fun a z => (hB a z).elim (fun z => ⟨(S.bad0 a z).1, Nat.lt_of_lt_of_le (S.bad0 a z).2 hz⟩) fun z => ⟨Nat.le_trans S.low z.1, z.2⟩
  mu := fun l p e => by
    obtain ⟨⟨a, a'⟩, ⟨c, c'⟩, d, d'⟩ := S.mu l p e
    exact ⟨⟨a, Nat.lt_of_lt_of_le a' hz⟩, ⟨c, Nat.lt_of_lt_of_le c' hz⟩, fun z => (hB _ z).elim d fun z => Nat.lt_irrefl _ (Nat.lt_of_lt_of_le a' z.1), fun z => (hB _ z).elim d' fun z => Nat.lt_irrefl _ (Nat.lt_of_lt_of_le c' z.1)⟩
  len := S.len
  apart := S.apart
  objs := fun l p o e1 e2 => OR.lift (fun a ob e n => ⟨k _ _ e, fun z => z.elim (fun z => (hB a z).elim (fun z => n (.inl z)) fun z => Nat.lt_irrefl _ (Nat.lt_of_lt_of_le (Heap.lt_size e) z.1)) fun z => n (.inr z)⟩) (fun _ _ e => e) (fun _ e => k _ _ e) (fun _ e => k _ _ e) (S.objs l p o e1 e2)
theorem VR.more {h' : Heap} (k : ∀ a o, s.heap.get? a = some o → h'.get? a = some o) (hB : ∀ a, B₁ a → B₀ a ∨ (s.heap.objs.size ≤ a)) {v : V} {rv : Value} (h : VR b.scr μ (Bad B₀ μ H) s.heap v rv) : VR b.scr μ (Bad B₁ μ H) h' v rv :=
  VR.lift (fun a ob e n => ⟨k _ _ e, fun z => z.elim (fun z => (hB a z).elim (fun z => n (.inl z)) fun z => Nat.lt_irrefl _ (Nat.lt_of_lt_of_le (Heap.lt_size e) z)) fun z => n (.inr z)⟩) (fun _ _ e => e) h
theorem St.less {h : Heap} (S : St b B₁ μ H h) (hB : ∀ a, B₀ a → B₁ a) : St b B₀ μ H h where
  base := S.base
  low := S.low
  bad0 := fun a z => S.bad0 a (hB a z)
  mu := fun l p e => let ⟨a, c, d, d'⟩ := S.mu l p e; ⟨a, c, fun z => d (hB _ z), fun z => d' (hB _ z)⟩
  len := S.len
  apart := S.apart
  objs := fun l p o e1 e2 => OR.lift (fun a ob e n => ⟨e, fun z => n (z.imp (hB a) id)⟩) (fun _ _ e => e) (fun _ e => e) (fun _ e => e) (S.objs l p o e1 e2)
theorem VR.less {h : Heap} (hB : ∀ a, B₀ a → B₁ a) {v : V} {rv : Value} (x : VR b.scr μ (Bad B₁ μ H) h v rv) : VR b.scr μ (Bad B₀ μ H) h v rv :=
  VR.lift (fun a ob e n => ⟨e, fun z => n (z.imp (hB a) id)⟩) (fun _ _ e => e) x
theorem StepF.less (P : StepF W b B₁ μ H s μ' H' s') (hB : ∀ a, B₀ a → B₁ a) : StepF W b B₀ μ H s μ' H' s' := ⟨P.st.less hB, P.ext, P.keep, P.fresh, P.size, P.gens, P.os⟩
theorem Step.less (P : Step b B₁ μ H s μ' H' s') (hB : ∀ a, B₀ a → B₁ a) : Step b B₀ μ H s μ' H' s' := ⟨P.st.less hB, P.ext, P.keep, P.fresh, P.size, P.gens, P.os⟩

/-! ## a call on a heap of its own -/
theorem no_live {a : Addr} : ¬ Live [] [] a := by
  rintro ⟨l, p, o, e, _⟩
  exact no_some e
theorem St.fresh_ (S : St b B₀ μ H s.heap) : St b (Bad B₀ μ H) [] [] s.heap where
  base := S.base
  low := S.low
  bad0 := fun a z => Bad.lt S z
  mu := fun l p e => no_some e
  len := rfl
  apart := fun i j p q _ e => no_some e
  objs := fun l p o e => no_some e
theorem toDs_vr {B B' : Addr → Prop} {h : Heap} {μ₁ : Mu} {vs : List V} {rvs : List Value} {ds : List D} (e : toDs vs = some ds) (f : All2 (VR b.scr μ B h) vs rvs) (k : ∀ a, B' a → B a) : All2 (VR b.scr μ₁ B' h) (ds.map .d) rvs :=
  all2_d (FRs.mono (fun a o e n => ⟨e, fun z => n (k a z)⟩) (toDs_frs e f))

theorem mapO_frz {f : V → Option D} {R : D → Value → Prop} {R' : V → Value → Prop} (h : ∀ v rv d, f v = some d → R' v rv → R d rv) {vs : List V} : ∀ {rvs : List Value} {ds : List D}, mapO f vs = some ds → All2 R' vs rvs → All2 R ds rvs := by
  induction vs with
  | nil => exact fun e r => so_1 (R := fun ds => All2 R ds _) e (r.elim (P := fun rvs => All2 R [] rvs) .nil)
  | cons v vs ih => exact fun {rvs ds} e r => r.elim (P := fun rvs => All2 R ds rvs) fun rv rvs a r => oh_elim e fun d e1 e => oh_elim e fun ds' e2 e => so_1 (R := fun ds => All2 R ds (rv :: rvs)) e (.cons (h _ _ _ e1 a) (ih e2 r))
theorem frO_elim {R : O → D → Prop} {g : V → Option D} {o : O} {x : D} (h : frO g o = some x) (k1 : ∀ xs ds, mapO g xs = some ds → R (.lst xs) (.lst ds)) (k2 : ∀ c fs ds, mapO g fs = some ds → R (.obj c fs) (.obj c ds)) : R o x := by
  cases o with
  | lst xs => exact oh_elim h fun ds e h => so_1 (R := R _) h (k1 _ _ e)
  | obj c fs => exact oh_elim h fun ds e h => so_1 (R := R _) h (k2 _ _ _ e)
  | _ => exact no_some h
/-- what a call leaves, frozen -/
theorem frz_ok {h : Heap} (S : St b B₀ μ H h) (k : Nat) : ∀ {v : V} {rv : Value} {x : D}, frz k H v = some x → VR b.scr μ (Bad B₀ μ H) h v rv → FR B₀ h x rv := by
  have less : ∀ {x rv}, FR (Bad B₀ μ H) h x rv → FR B₀ h x rv := FR.mono (fun a o e n => ⟨e, fun z => n (.inl z)⟩)
  induction k with
  | zero => exact fun {v rv x} e r => dv_elim (R := fun v => VR b.scr μ (Bad B₀ μ H) h v rv → FR B₀ h x rv) e (fun d e r => so_1 (R := fun x => FR B₀ h x rv) e (less r)) r
  | succ k ih =>
    intro v rv x e r
    cases v with
    | d y => exact so_1 (R := fun x => FR B₀ h x rv) e (less r)
    | loc l =>
      obtain ⟨p, hp, rfl⟩ := r
      obtain ⟨_, _, n1, n2⟩ := S.mu l p hp
      refine frO_elim (R := fun o x => getO H l = o → FR B₀ h x (.ref p.1)) e (fun xs ds e3 e2 => ?_) (fun c fs ds e3 e2 => ?_) rfl
      · obtain ⟨_, vs, hl, z, f⟩ := S.objs l p _ hp (getO_get e2 rfl)
        exact .lst hl z n1 (all2_frs (mapO_frz (R := FR B₀ h) (fun v rv d h1 h2 => ih h1 h2) e3 f))
      · obtain ⟨hc, es, m, g1, g2, g3, f⟩ := S.objs l p _ hp (getO_get e2 rfl)
        exact .obj g1 g2 g3 hc n1 n2 (all2_frs (mapO_frz (R := FR B₀ h) (fun v rv d h1 h2 => ih h1 h2) e3 f))
    | scr => exact no_some e
    | undef => exact no_some e
/-- back from a call that had a heap of its own -/
theorem back {s s' : Shared} {μ₁ : Mu} {H₁ : List O} (S : St b B₀ μ H s.heap) (P : Step b (Bad B₀ μ H) [] [] s μ₁ H₁ s') : Step b B₀ μ H s μ H s' :=
  Step.loose S (fun a o e => P.keep a o e no_live) P.size P.gens P.os

theorem plain_any {es : List Expr} {pos : Pos} : ∀ {xs : Xs}, mXs sc T xs es = true → (backTo pos (starEach es env)).any (·.1) = false := by
  induction es with
  | nil => exact fun _ => rfl
  | cons e es ih =>
    intro xs h
    cases xs with
    | nil => exact ff_elim h
    | cons x xs =>
      refine and_elim h fun h h2 => and_elim h fun h1 _ => ?_
      rw [starEach_plain h1]
      exact (Bool.false_or _).trans (ih h2)
theorem args_ev {xs : Xs} {es : List Expr} {vs : List V} {f : Value} (hx : EvsOK b ns C n xs) (hm : mXs sc T xs es = true) (hv : evs ns C xs ρ H = some (vs, H')) {A : Around} (hr : Room A n) (S : St b B₀ μ H s.heap) (L : Slots b B₀ sc T env ρ μ H s.heap) {pos : Pos}
    {Q : Args → Shared → Prop} {E : Value → Shared → Prop} (hQ : ∀ rvs s' μ', Step b B₀ μ H s μ' H' s' → All2 (VR b.scr μ' (Bad B₀ μ' H') s'.heap) vs rvs → Q ⟨rvs, []⟩ s') : wpAny (model b.prog b.w) A (evalArgs f true (backTo pos (starEach es env)) []) Q E s := by
  have h := hx hm hv hr S L (pos := pos) (Q := fun rvs s' => Q ⟨rvs, []⟩ s') (E := E) hQ
  cases es with
  | nil =>
    cases xs with
    | cons => exact ff_elim hm
    | nil => obtain ⟨rfl, rfl⟩ := pair_inj (show some ([], H) = some (vs, H') from hv); exact PyProof.Rows.evalArgs_none (hQ [] s μ (Step.refl S) .nil)
  | cons e rest =>
    cases xs with
    | nil => exact ff_elim hm
    | cons =>
      refine and_elim hm fun hm _ => and_elim hm fun h1 _ => ?_
      rw [starEach_plain h1] at h ⊢
      exact evalArgs_plain h

/-- a call of what the frozen part keeps -/
theorem call_K (ok : Ok b ns K mg mb) {f : Value} {x : Str} {fe : Expr} (hG : isGlob sc x fe = true) (hx : mg x = some f) (hk : keepIn K f = true) {xs : Xs} {es : List Expr} {vs : List V} (hxs : EvsOK b ns C n xs) (hm : mXs sc T xs es = true) (hv : evs ns C xs ρ H = some (vs, H')) {A : Around} (hr : Room A n)
    (S : St b B₀ μ H s.heap) (L : Slots b B₀ sc T env ρ μ H s.heap) {pos : Pos} {Q : Value → Shared → Prop} {E : Value → Shared → Prop}
    (hQ : ∀ rvs s' μ', Step b B₀ μ H s μ' H' s' → All2 (VR b.scr μ' (Bad B₀ μ' H') s'.heap) vs rvs → codeAny (model b.prog b.w) A (.call f ⟨rvs, []⟩) (fun r s' => match r with | .ok (.ret v) => Q v s' | .ok _ => False | .error e => E e s') s') :
    wpAny (model b.prog b.w) A (eval (.Call fe es [] pos) env) Q E s := by
  refine call_name (v := .none) hG (glob_name hG S L.eok ok hx ?_)
  refine callWith_of (P := fun h => K.In h) (by rw [plain_any hm]; rfl) (keeps_K hk) (args_ev hxs hm hv hr S L fun rvs s1 μ1 P1 V1 => ⟨ok.X.keeps P1.st.base, ?_⟩)
  exact wpAny_call (hQ rvs s1 μ1 P1 V1)

theorem ev_call (ok : Ok b ns K mg mb) (hC : CallsOk b C n) {f : Nat} {xs : Xs} (hxs : EvsOK b ns C n xs) : EvOK b ns C n (.call f xs) := by
  intro sc T e hm ρ H v H' hv
  refine ob2_elim (mX_call_eq.symm.trans hm) fun fe es he hm => and_elim hm fun w30 h1 => and_elim w30 fun w31 hlen => and_elim w31 fun w32 hf => and_elim w32 fun h0 hne => asCall_elim (R := fun e => EvG b n sc T e ρ H v H') he fun p => ?_
  replace hlen := dec_elim hlen
  replace hf := dec_elim hf
  replace hne := dec_elim hne
  refine vh_elim (ev_call_eq.symm.trans hv) fun vs H1 e1 hv => oh_elim hv fun ds e2 hv => vh_elim hv fun v' H2 e3 hv => oh_elim hv fun x e4 hv => sp_elim hv ?_
  intro A s μ B₀ env hr S L Q E hQ
  refine call_K ok h0 (ok.fn f hf hne) (ok.kf.keepF f hf) hxs h1 e1 hr S L fun rvs s1 μ1 P1 V1 => ?_
  refine hC f _ _ _ _ e3 hf A s1 [] (Bad B₀ μ1 H1) rvs _ hr.call P1.st.fresh_ (toDs_vr e2 V1 fun a z => z.elim id fun z => (no_live z).elim) fun rv s2 μ2 P2 V2 => ?_
  exact hQ rv s2 μ1 (P1.trans (back P1.st P2)) (frz_ok P2.st 3 e4 V2)

theorem ev_callI (ok : Ok b ns K mg mb) (hC : CallsOk b C n) {f : Nat} {xs : Xs} (hxs : EvsOK b ns C n xs) : EvOK b ns C n (.callI f xs) := by
  intro sc T e hm ρ H v H' hv
  refine ob2_elim (mX_callI_eq.symm.trans hm) fun fe es he hm => and_elim hm fun w33 h1 => and_elim w33 fun w34 hlen => and_elim w34 fun w35 hf => and_elim w35 fun h0 hne => asCall_elim (R := fun e => EvG b n sc T e ρ H v H') he fun p => ?_
  replace hlen := dec_elim hlen
  replace hf := dec_elim hf
  replace hne := dec_elim hne
  refine vh_elim (ev_callI_eq.symm.trans hv) fun vs H1 e1 hv => ?_
  intro A s μ B₀ env hr S L Q E hQ
  refine call_K ok h0 (ok.fn f hf hne) (ok.kf.keepF f hf) hxs h1 e1 hr S L fun rvs s1 μ1 P1 V1 => ?_
  exact hC f _ _ _ _ hv hf A s1 μ1 B₀ rvs _ hr.call P1.st V1 fun rv s2 μ2 P2 V2 => hQ rv s2 μ2 (P1.trans P2) V2

/-! ## new objects -/
theorem new_obj {c : Nat} (hc : c < 3) (S : St b B₀ μ H s.heap) : Step b B₀ μ H s (μ ++ [(s.heap.objs.size + 1, s.heap.objs.size)]) (H ++ [.obj c []]) { s with heap := (s.heap.push emptyDict).push (instObj (clsAddr c) s.heap.objs.size) } := by
  have k : ∀ a o, s.heap.get? a = some o → ((s.heap.push emptyDict).push (instObj (clsAddr c) s.heap.objs.size)).get? a = some o := fun a o e => Heap.get?_push_of_some _ (Heap.get?_push_of_some _ e)
  have e1 : (s.heap.push emptyDict).objs.size = s.heap.objs.size + 1 := Heap.size_push ..
  have e2 : ((s.heap.push emptyDict).push (instObj (clsAddr c) s.heap.objs.size)).objs.size = s.heap.objs.size + 2 := by rw [Heap.size_push, e1]
  refine Step.new S k (by show _ ∧ _ < (Heap.push _ _).objs.size; rw [e2]; exact ⟨Nat.le_succ _, Nat.lt_succ_self _⟩) (by show _ ∧ _ < (Heap.push _ _).objs.size; rw [e2]; exact ⟨Nat.le_refl _, by omega⟩) rfl rfl ⟨hc, [], 0, ?_, ?_, .nil, .nil⟩
  · show (Heap.push _ _).get? (s.heap.objs.size + 1) = _
    rw [← e1]; exact Heap.get?_push_size _ rfl
  · exact Heap.get?_push_of_some _ (Heap.get?_push_size _ rfl)
theorem make_ok (ok : Ok b ns K mg mb) {c : Nat} (hc : c < 3) (X : K.In s.heap) {rvs : List Value} {A : Around} {R : Result → Shared → Prop}
    (h : codeAny (model b.prog b.w) (A.under (.builtin "type.__call__" ⟨.ref (clsAddr c) :: rvs, []⟩)) (.call (.ref (fnAddrs.getD (initOf c) 0)) ⟨.ref (s.heap.objs.size + 1) :: rvs, []⟩) (InitBack (s.heap.objs.size + 1) R) { s with heap := (s.heap.push emptyDict).push (instObj (clsAddr c) s.heap.objs.size) }) :
    codeAny (model b.prog b.w) A (.call (.ref (clsAddr c)) ⟨rvs, []⟩) R s := by
  obtain ⟨hh, g, d, t, os⟩ := s
  exact make_core (makes_of X (ok.kf.make c hc)) (looks_findIn X (ok.kf.ini c hc)) (fun self => bind_fn X self (ok.kf.iniT c hc)) (.inl rfl) h
theorem Room.make {A : Around} (r : Room A n) {c : Nat} {rvs : List Value} : RoomC (A.under (.builtin "type.__call__" ⟨.ref (clsAddr c) :: rvs, []⟩)) n where
  handled := r.handled
  depth := by
    have := r.depth
    show A.depth + Code.weight _ + 2 * n + 7 < _
    have e : Code.weight (.builtin "type.__call__" ⟨.ref (clsAddr c) :: rvs, []⟩) = 1 := rfl
    rw [e]; omega
  units := by
    have := r.units
    show A.units + Code.cUnits _ + 20 * n + 190 < _
    have e : Code.cUnits (.builtin "type.__call__" ⟨.ref (clsAddr c) :: rvs, []⟩) = 1 := rfl
    rw [e]; omega
theorem initOf_lt : ∀ c < 3, initOf c < 39 := by decide

theorem ev_newM (ok : Ok b ns K mg mb) (hC : CallsOk b C n) {c : Nat} {xs : Xs} (hxs : EvsOK b ns C n xs) : EvOK b ns C n (.newM c xs) := by
  intro sc T e hm ρ H v H' hv
  refine ob2_elim (mX_newM_eq.symm.trans hm) fun fe es he hm => and_elim hm fun w36 h1 => and_elim w36 fun w37 hlen => and_elim w37 fun h0 hc => asCall_elim (R := fun e => EvG b n sc T e ρ H v H') he fun p => ?_
  replace hlen := dec_elim hlen
  replace hc := dec_elim hc
  refine vh_elim (ev_newM_eq.symm.trans hv) fun vs H1 e1 hv => nh_elim hv fun H2 e2 hv => sp_elim hv ?_
  intro A s μ B₀ env hr S L Q E hQ
  refine call_K ok h0 (ok.cls c hc) (ok.kf.keepC c hc) hxs h1 e1 hr S L fun rvs s1 μ1 P1 V1 => ?_
  refine make_ok ok hc (ok.X.keeps P1.st.base) ?_
  have P2 := new_obj hc P1.st
  have V2 := V1.imp fun v rv x => VR.step P2 x
  refine hC (initOf c) _ _ _ _ e2 (initOf_lt c hc) _ _ _ B₀ _ _ hr.make P2.st (.cons (new_loc P1.st) V2) fun rv s3 μ3 P3 V3 => ?_
  refine fr_none V3 ?_
  refine ⟨rfl, hQ _ s3 μ3 ((P1.trans P2).trans P3) ?_⟩
  exact VR.step P3 (v := .loc H1.length) (new_loc P1.st)

theorem ev_new (ok : Ok b ns K mg mb) (hC : CallsOk b C n) {c : Nat} {xs : Xs} (hxs : EvsOK b ns C n xs) : EvOK b ns C n (.new c xs) := by
  intro sc T e hm ρ H v H' hv
  refine ob2_elim (mX_new_eq.symm.trans hm) fun fe es he hm => and_elim hm fun w38 h1 => and_elim w38 fun w39 hlen => and_elim w39 fun h0 hc => asCall_elim (R := fun e => EvG b n sc T e ρ H v H') he fun p => ?_
  replace hlen := dec_elim hlen
  replace hc := dec_elim hc
  refine vh_elim (ev_new_eq.symm.trans hv) fun vs H1 e1 hv => oh_elim hv fun ds e2 hv => nh_elim hv fun H2 e3 hv => oh_elim hv fun x e4 hv => sp_elim hv ?_
  intro A s μ B₀ env hr S L Q E hQ
  refine call_K ok h0 (ok.cls c hc) (ok.kf.keepC c hc) hxs h1 e1 hr S L fun rvs s1 μ1 P1 V1 => ?_
  refine make_ok ok hc (ok.X.keeps P1.st.base) ?_
  have P2 := new_obj hc P1.st.fresh_
  have V2 := (toDs_vr (μ₁ := []) e2 V1 (B' := Bad (Bad B₀ μ1 H1) [] []) fun a z => z.elim id fun z => (no_live z).elim).imp fun v rv x => VR.step P2 x
  refine hC (initOf c) _ _ _ _ e3 (initOf_lt c hc) _ _ _ (Bad B₀ μ1 H1) _ _ hr.make P2.st (.cons (new_loc (H := []) P1.st.fresh_) V2) fun rv s3 μ3 P3 V3 => ?_
  refine fr_none V3 ?_
  refine ⟨rfl, hQ _ s3 μ1 (P1.trans (back P1.st (P2.trans P3))) (frz_ok P3.st 3 e4 ?_)⟩
  exact VR.step P3 (v := .loc 0) (new_loc (H := []) P1.st.fresh_)
end Mine
end

/-! ### SizeMono -/
section
set_option tactic.hygienic false
set_option genSizeOf false
set_option bootstrap.genMatcherCode false
open PySem PySem.W
set_option linter.unusedVariables false
namespace Mine
/-- no run makes the heap shorter -/
theorem runs_size {M : Model} {Γ : Ctx} {p : Pos} {t : Sem Fin} {fs : List Frame} {s s' : Shared} {e : End} (h : Runs M Γ p t fs s e s') : s.heap.objs.size ≤ s'.heap.objs.size := by
  induction h <;> (try simp only [Shared.setGen, Heap.size_update, Heap.size_push] at *) <;> first | omega | (simp only [Heap.size_push] at *; omega)
theorem returns_size {M : Model} {Γ : Ctx} {p : Pos} {s s' : Shared} {r : Result} (h : Returns M Γ p s r s') : s.heap.objs.size ≤ s'.heap.objs.size := runs_size h
theorem wakes_size {M : Model} {Γ : Ctx} {p : Pos} {g : Nat} {r : Resume} {s s' : Shared} {res : GenResult} (h : Wakes M Γ p g r s res s') : s.heap.objs.size ≤ s'.heap.objs.size := by
  unfold Wakes at h
  split at h
  · exact h.elim
  · split at h
    · obtain ⟨e₁, s₁, hr, _, _, rfl⟩ := h; exact (runs_size hr : (s.setGen g .running).heap.objs.size ≤ s₁.heap.objs.size)
    · rw [h.2]; exact Nat.le_refl _
    · rw [h.2]; exact Nat.le_refl _
  · obtain ⟨e₁, s₁, hr, _, _, rfl⟩ := h; exact (runs_size hr : (s.setGen g .running).heap.objs.size ≤ s₁.heap.objs.size)
  · rw [h.2]; exact Nat.le_refl _
  · rw [h.2]; exact Nat.le_refl _
theorem wp_size {α : Type} (M : Model) (Γ : Ctx) (n : Nat) (t : Sem α) : ∀ (Q : α → Pos → Shared → Prop) (E : Value → Pos → Shared → Prop) (p : Pos) (s : Shared), n ≤ s.heap.objs.size → Sem.wp M Γ t Q E p s →
    Sem.wp M Γ t (fun a p' s' => n ≤ s'.heap.objs.size ∧ Q a p' s') (fun e p' s' => n ≤ s'.heap.objs.size ∧ E e p' s') p s := by
  induction t with
  | pure a => intro Q E p s hn h; exact ⟨hn, h⟩
  | raise e => intro Q E p s hn h; exact ⟨hn, h⟩
  | unsupported _ => intro Q E p s _ h; exact h
  | finish _ => intro Q E p s _ h; exact h
  | rule _ k ih => intro Q E p s hn h; exact ih () Q E p s hn h
  | «at» p' k ih => intro Q E p s hn h; exact ih () Q E p' s hn h
  | load a _ k ih => intro Q E p s hn h; obtain ⟨o, ho, h⟩ := h; exact ⟨o, ho, ih o Q E p s hn h⟩
  | update a _ f k ih => intro Q E p s hn h; exact ⟨h.1, ih () Q E p _ (by show n ≤ (s.heap.update a f).objs.size; rw [Heap.size_update]; exact hn) h.2⟩
  | loadIfAlive a k ih => intro Q E p s hn h; exact ih _ Q E p s hn h
  | point _ k ih => intro Q E p s hn h; exact ih () Q E p s hn h
  | register _ _ => intro Q E p s _ h; exact h
  | alloc o k ih => intro Q E p s hn h; exact ih _ Q E p _ (by show n ≤ (s.heap.push o).objs.size; rw [Heap.size_push]; exact Nat.le_succ_of_le hn) h
  | fresh k ih => intro Q E p s hn h; exact ih _ Q E p _ hn h
  | ask k ih => intro Q E p s hn h; exact ih _ Q E p s hn h
  | choose src m k ih => intro Q E p s hn h; exact ⟨h.1, ih _ Q E p _ hn h.2⟩
  | os q _ k ih => intro Q E p s hn h; exact ih _ Q E p _ hn h
  | call c hd _ _ k ih => intro Q E p s hn h; obtain ⟨r, s', hr, h⟩ := h; exact ⟨r, s', hr, ih r Q E p s' (Nat.le_trans hn (returns_size hr)) h⟩
  | handled own k ih => intro Q E p s hn h; exact ih _ Q E p s hn h
  | genState g k ih => intro Q E p s hn h; obtain ⟨st, hs, h⟩ := h; exact ⟨st, hs, ih _ Q E p s hn h⟩
  | newGen c k ih => intro Q E p s hn h; exact ih _ Q E p _ hn h
  | resume g r _ k ih => intro Q E p s hn h; obtain ⟨res, s', hw, h⟩ := h; exact ⟨res, s', hw, ih res Q E p s' (Nat.le_trans hn (wakes_size hw)) h⟩
  | yield _ _ _ _ => intro Q E p s _ h; exact h
  | stack k ih => intro Q E p s hn h; exact ih _ Q E p s hn h
  | fork _ _ => intro Q E p s _ h; exact h
  | thread k ih => intro Q E p s hn h; exact ih _ Q E p s hn h
  | await _ _ _ _ _ => intro Q E p s _ h; exact h
theorem with_size {α : Type} {M : Model} {A : Around} {s : Shared} {t : Sem α} {Q : α → Shared → Prop} {E : Value → Shared → Prop} (h : wpAny M A t (fun a s' => s.heap.objs.size ≤ s'.heap.objs.size → Q a s') E s) : wpAny M A t Q E s :=
  fun Γ p hΓ => Sem.wp_mono M Γ _ (fun _ _ _ x => x.2 x.1) (fun _ _ _ x => x.2) _ _ (wp_size M Γ _ t _ _ p s (Nat.le_refl _) (h Γ p hΓ))
end Mine
end

/-! ### Sound5b -/
section
set_option tactic.hygienic false
set_option genSizeOf false
set_option bootstrap.genMatcherCode false
open PySem PySem.W PyProof.Rows PySem.Calls PySem.SeqAt
set_option linter.unusedVariables false
set_option linter.unusedSimpArgs false
set_option maxRecDepth 100000
namespace Mine
variable {b : Base} {ns : List Int} {K : Frag} {mg mb : Str → Option Value} {B₀ B₁ : Addr → Prop} {sc sc' : Scope} {T : List Slot} {env : Env} {ρ : List V} {μ μ' μ'' : Mu} {H H' H'' : List O} {s s' s'' : Shared} {C : Calls'} {n : Nat} {W : Addr → Prop}

/-- only what is own was changed -/
theorem StepF.priv (S : St b B₀ μ H s.heap) (hW : ∀ a, W a → B₀ a) (k : ∀ a o, ¬ W a → s.heap.get? a = some o → s'.heap.get? a = some o) (hz : s.heap.objs.size ≤ s'.heap.objs.size) (hg : s'.gens = s.gens) (ho : s'.os = s.os) : StepF W b B₀ μ H s μ H s' where
  st := {
    base := fun a o e => k a o (fun w => Nat.lt_irrefl _ (Nat.lt_of_lt_of_le (Heap.lt_size e) (S.bad0 a (hW a w)).1)) (S.base a o e)
    low := Nat.le_trans S.low hz
    bad0 := fun a z => ⟨(S.bad0 a z).1, Nat.lt_of_lt_of_le (S.bad0 a z).2 hz⟩
    mu := fun l p e => let ⟨⟨a, a'⟩, ⟨c, c'⟩, d⟩ := S.mu l p e; ⟨⟨a, Nat.lt_of_lt_of_le a' hz⟩, ⟨c, Nat.lt_of_lt_of_le c' hz⟩, d⟩
    len := S.len
    apart := S.apart
    objs := fun l p o e1 e2 => by
      obtain ⟨_, _, n1, n2⟩ := S.mu l p e1
      exact OR.lift (fun a ob e n => ⟨k a ob (fun w => n (.inl (hW _ w))) e, n⟩) (fun _ _ e => e) (fun ob e => k _ _ (fun w => n1 (hW _ w)) e) (fun ob e => k _ _ (fun w => n2 (hW _ w)) e) (S.objs l p o e1 e2) }
  ext := ⟨[], by simp⟩
  keep := fun a o e _ w => k a o w e
  fresh := fun a l => .inl l
  size := hz
  gens := hg
  os := ho

theorem Slots.more {h' : Heap} (L : Slots b B₀ sc T env ρ μ H s.heap) (k : ∀ a o, s.heap.get? a = some o → h'.get? a = some o) (h1 : ∀ a, B₀ a → B₁ a) (hB : ∀ a, B₁ a → B₀ a ∨ (s.heap.objs.size ≤ a)) : Slots b B₁ sc T env ρ μ H h' where
  eok := L.eok
  own := h1 _ L.own
  ownC := fun x c e => h1 _ (L.ownC x c e)
  len := L.len
  ns := by
    obtain ⟨m, hn, hm⟩ := L.ns
    refine ⟨m, hn.keeps k, fun i x v h1 h2 h3 => ?_⟩
    obtain ⟨rv, e, r⟩ := hm i x v h1 h2 h3
    exact ⟨rv, e, VR.more k hB r⟩
  cs := fun i x h1 => by
    obtain ⟨c, v₀, e, hc, hv⟩ := L.cs i x h1
    refine ⟨c, v₀, e, hc.keeps k, fun v h2 h3 => ?_⟩
    obtain ⟨rv, e', r⟩ := hv v h2 h3
    exact ⟨rv, e', VR.more k hB r⟩
theorem Slots.stepF (L : Slots b B₀ sc T env ρ μ H s.heap) (S : St b B₀ μ H s.heap) (P : StepF W b B₀ μ H s μ' H' s') (hW : ∀ a, W a → B₀ a) (hn : ¬ W env.locals) (hc : ∀ x c, env.cells.lookup x = some c → ¬ W c) : Slots b B₀ sc T env ρ μ' H' s'.heap where
  eok := L.eok
  own := L.own
  ownC := L.ownC
  len := L.len
  ns := by
    obtain ⟨m, hns, hm⟩ := L.ns
    refine ⟨m, hns.at' fun o e => P.keep _ o e (fun l => (l.lt S).2.2 L.own) hn, fun i x v h1 h2 h3 => ?_⟩
    obtain ⟨rv, e, r⟩ := hm i x v h1 h2 h3
    exact ⟨rv, e, VR.stepF P hW r⟩
  cs := fun i x h1 => by
    obtain ⟨c, v₀, e, ⟨o, ho, hd⟩, hv⟩ := L.cs i x h1
    refine ⟨c, v₀, e, ⟨o, P.keep _ o ho (fun l => (l.lt S).2.2 (L.ownC _ _ e)) (hc _ _ e), hd⟩, fun v h2 h3 => ?_⟩
    obtain ⟨rv, e', r⟩ := hv v h2 h3
    exact ⟨rv, e', VR.stepF P hW r⟩

/-! ## what is walked over -/
inductive Src (b : Base) (A : Around) (B₀ : Addr → Prop) (μ₁ : Mu) (H₁ : List O) (vs : List V) (s₁ : Shared) (it : Value) (s₂ : Shared) : Prop
  | mk (I : Addr) (fp wr : List Addr) (n : Nat) (P : Nat → Value → Prop) (St : Nat → Heap → Prop) (h1 : it = .ref I) (h2 : Walks b.prog b.w A I fp wr n P St) (h3 : n ≤ sizeLine) (h4 : St 0 s₂.heap) (h5 : ∀ a ∈ fp, a < s₂.heap.objs.size ∧ ¬ Live μ₁ H₁ a ∧ ¬ B₀ a) (h6 : ∀ a ∈ wr, s₁.heap.objs.size ≤ a)
    (h7 : ∀ a o, s₁.heap.get? a = some o → s₂.heap.get? a = some o) (h8 : s₁.heap.objs.size ≤ s₂.heap.objs.size) (h9 : s₂.gens = s₁.gens) (h10 : s₂.os = s₁.os) (h11 : n = vs.length) (h12 : ∀ i rv, P i rv → ∃ v, vs[i]? = some v ∧ VR b.scr μ₁ (Bad B₀ μ₁ H₁) s₁.heap v rv)
theorem all_1 {P : Addr → Prop} {x : Addr} (h : P x) : ∀ a ∈ [x], P a := List.forall_mem_singleton.mpr h
theorem all_2 {P : Addr → Prop} {x y : Addr} (h : P x) (k : P y) : ∀ a ∈ [x, y], P a := List.forall_mem_cons.mpr ⟨h, all_1 k⟩
theorem push_lt {h : Heap} (o : Obj) : h.objs.size < (h.push o).objs.size := by rw [Heap.size_push]; exact Nat.lt_succ_self _

theorem new_free (S : St b B₀ μ H s.heap) {a : Addr} (h : s.heap.objs.size ≤ a) : ¬ Live μ H a ∧ ¬ B₀ a := ⟨fun l => Nat.lt_irrefl _ (Nat.lt_of_lt_of_le (l.lt S).2.1 h), fun z => Nat.lt_irrefl _ (Nat.lt_of_lt_of_le (S.bad0 _ z).2 h)⟩
theorem src_list {A : Around} {xs : List D} {rv : Value} (hh : A.handled = none) (S : St b B₀ μ H s.heap) (f : FR (Bad B₀ μ H) s.heap (.lst xs) rv) {Q : Value → Shared → Prop} {E : Value → Shared → Prop} (hQ : ∀ it s₂, Src b A B₀ μ H (xs.map .d) s it s₂ → Q it s₂) :
    wpAny (model b.prog b.w) A (pyIter rv) Q E s := by
  refine fr_lst f fun a vs hl z nb f => ?_
  have hlt : a < s.heap.objs.size := hl.elim fun o h => Heap.lt_size h.1
  refine wpAny_pyIter_list hl (hQ _ _ ⟨s.heap.objs.size, [s.heap.objs.size, a], [s.heap.objs.size], vs.toArray.size, _, _, rfl, Walks.list hh _ a (Nat.ne_of_lt hlt) vs.toArray, z,
    ⟨⟨_, Heap.get?_push_size _ rfl, rfl, rfl⟩, hl.push _⟩, all_2 ⟨push_lt _, new_free S (Nat.le_refl _)⟩ ⟨Nat.lt_trans hlt (push_lt _), fun l => nb (.inr l), fun z => nb (.inl z)⟩, all_1 (Nat.le_refl _), fun a o e => Heap.get?_push_of_some _ e, Nat.le_of_lt (push_lt _), rfl, rfl, ?_, fun i rv h => ?_⟩)
  · exact (frs_length f).symm.trans (List.length_map ..).symm
  · have h' : vs[i]? = some rv := List.getElem?_toArray.symm.trans h
    have hi : i < xs.length := frs_length f ▸ (List.getElem?_eq_some_iff.mp h').1
    obtain ⟨rv', e1, r⟩ := (frs_all2 f).get (List.getElem?_eq_getElem hi)
    exact ⟨.d xs[i], by rw [List.getElem?_map, List.getElem?_eq_getElem hi]; rfl, Option.some.inj (e1.symm.trans h') ▸ r⟩
theorem rangeV_length (n : Int) : (rangeV n).length = n.toNat := by simp [rangeV]
theorem src_range {A : Around} {m : Int} {t : Tok} (hh : A.handled = none) (S : St b B₀ μ H s.heap) (h0 : 0 ≤ m) (hm : m ≤ big) {Q : Value → Shared → Prop} {E : Value → Shared → Prop} (hQ : ∀ it s₂, Src b A B₀ μ H (rangeV m) s it s₂ → Q it s₂) :
    wpAny (model b.prog b.w) A (call (.type "range") [.int m t]) (fun r s1 => wpAny (model b.prog b.w) A (pyIter r) Q E s1) E s := by
  have hb : (big : Int) = 1000000 := rfl
  refine call_range_1 (wpAny_pyIter_range (IsRange.new ..) (small_one (by omega) (by omega) (by omega) (by omega)) (hQ _ _ ?_))
  refine ⟨_, [_], [_], m.toNat, _, _, rfl, (Walks.range hh _ 0 1 m.toNat).bound, le_line (by omega), ?_, all_1 ⟨push_lt _, new_free S (Nat.le_of_lt (push_lt _))⟩, all_1 (Nat.le_of_lt (push_lt _)), fun a o e => Heap.get?_push_of_some _ (Heap.get?_push_of_some _ e), Nat.le_of_lt (Nat.lt_trans (push_lt _) (push_lt _)), rfl, rfl, (rangeV_length m).symm, ?_⟩
  · show IsRangeIter _ _ (0 + ((0 : Nat) : Int) * 1) ((m.toNat : Int) - ((0 : Nat) : Int)) 1
    have e3 : (0 + ((0 : Nat) : Int) * 1) = 0 := rfl
    have e4 : ((m.toNat : Int) - ((0 : Nat) : Int)) = Builtin.Range.rangeSize 0 m 1 := by rw [rangeSize_one]; split <;> omega
    rw [e3, e4]
    exact Heap.get?_push_size _ rfl
  · rintro i rv ⟨hi, t', rfl⟩
    refine ⟨.d (.int i), ?_, ?_⟩
    · unfold rangeV
      rw [List.getElem?_map, List.getElem?_range hi]; rfl
    · have e : (0 + (i : Int) * 1) = i := (Int.zero_add _).trans (Int.mul_one _)
      rw [e]; exact .int _ _

/-! ## a comprehension's frame -/
noncomputable def cells (env : Env) : List (Str × NameKind) → List (Str × Addr) → List (Str × Addr)
  | [], acc => acc
  | (n, k) :: r, acc => cells env r (if (k == .free) = true then (n, (env.cells.lookup n).getD 0) :: acc else acc)
theorem closure_cells : ∀ (names : List (Str × NameKind)) (acc : List (Str × Addr)), (∀ p ∈ names, p.2 = .free → ∃ c, env.cells.lookup p.1 = some c) →
    (forIn names acc fun (p : Str × NameKind) (cs : List (Str × Addr)) => (if (p.2 == .free) = true then do let c ← cellOf env p.1; pure (ForInStep.yield ((p.1, c) :: cs)) else pure (ForInStep.yield cs) : Sem (ForInStep (List (Str × Addr))))) = pure (cells env names acc)
  | [], acc, _ => rfl
  | (n, k) :: r, acc, h => by
    have ih := fun acc => closure_cells r acc fun p hp => h p (List.mem_cons_of_mem _ hp)
    rw [List.forIn_cons]
    by_cases hk : (k == .free) = true
    · obtain ⟨c, hc⟩ := h (n, k) List.mem_cons_self (beq_iff_eq.mp hk)
      simp only [hk, if_true, cells, cellOf, hc, pure_bind, Option.getD_some]
      exact ih _
    · simp only [hk, if_false, cells, pure_bind]
      exact ih _
theorem closure_ok (h : ∀ p ∈ sc'.names, p.2 = .free → ∃ c, env.cells.lookup p.1 = some c) : closureFor sc' env = pure (cells env sc'.names []) := by
  unfold closureFor
  have := closure_cells sc'.names [] h
  refine Eq.trans ?_ this
  exact bind_pure _
set_option tactic.hygienic true in
theorem cells_mem : ∀ (names : List (Str × NameKind)) (acc : List (Str × Addr)), (∀ p ∈ names, p.2 = .free → ∃ c, env.cells.lookup p.1 = some c) → (∀ p ∈ acc, env.cells.lookup p.1 = some p.2) → ∀ p ∈ cells env names acc, env.cells.lookup p.1 = some p.2
  | [], acc, _, ha, p, hp => ha p hp
  | (n, k) :: r, acc, h, ha, p, hp => by
    refine cells_mem r _ (fun p hp => h p (List.mem_cons_of_mem _ hp)) ?_ p hp
    split
    · rename_i hk
      obtain ⟨c, hc⟩ := h (n, k) List.mem_cons_self (beq_iff_eq.mp hk)
      intro q hq
      rcases List.mem_cons.mp hq with rfl | hq
      · simp only at hc ⊢; rw [hc]; rfl
      · exact ha q hq
    · exact ha
theorem cells_acc : ∀ (names : List (Str × NameKind)) (acc : List (Str × Addr)) (p : Str × Addr), p ∈ acc → p ∈ cells env names acc
  | [], acc, p, h => h
  | (n, k) :: r, acc, p, h => cells_acc r _ p (by split; exact List.mem_cons_of_mem _ h; exact h)
theorem cells_has : ∀ (names : List (Str × NameKind)) (acc : List (Str × Addr)) (x : Str), (x, NameKind.free) ∈ names → ∃ c, (x, c) ∈ cells env names acc
  | [], _, _, h => by cases h
  | (n, k) :: r, acc, x, h => by
    rcases List.mem_cons.mp h with e | h
    · injection e with e1 e2
      subst e1 e2
      exact ⟨_, cells_acc r _ (x, (env.cells.lookup x).getD 0) (by rw [if_pos (show (NameKind.free == NameKind.free) = true from rfl)]; exact List.mem_cons_self)⟩
    · exact cells_has r _ x h
set_option tactic.hygienic true in
theorem lookup_some {α β : Type} [BEq α] [LawfulBEq α] {l : List (α × β)} {x : α} {c : β} (h : (x, c) ∈ l) : ∃ c', l.lookup x = some c' := by
  induction l with
  | nil => cases h
  | cons p r ih =>
    obtain ⟨y, d⟩ := p
    simp only [List.lookup]
    split
    · exact ⟨_, rfl⟩
    · rename_i hne
      rcases List.mem_cons.mp h with e | h
      · cases e; simp at hne
      · exact ih h
set_option tactic.hygienic true in
theorem mem_lookup {α β : Type} [BEq α] [LawfulBEq α] {l : List (α × β)} {x : α} {c : β} (h : l.lookup x = some c) : (x, c) ∈ l := by
  induction l with
  | nil => cases h
  | cons p r ih =>
    obtain ⟨y, d⟩ := p
    simp only [List.lookup] at h
    split at h
    · rename_i e; cases h; rw [eq_of_beq e]; exact List.mem_cons_self
    · exact List.mem_cons_of_mem _ (ih h)
end Mine
end

/-! ### Sound5c -/
section
set_option tactic.hygienic false
set_option genSizeOf false
set_option bootstrap.genMatcherCode false
open PySem PySem.W PyProof.Rows PySem.Calls PySem.SeqAt
set_option linter.unusedVariables false
set_option linter.unusedSimpArgs false
set_option maxRecDepth 100000
namespace Mine
variable {b : Base} {ns : List Int} {K : Frag} {mg mb : Str → Option Value} {B₀ B₁ : Addr → Prop} {sc sc' : Scope} {T : List Slot} {env : Env} {ρ : List V} {μ μ' μ'' : Mu} {H H' H'' : List O} {s s' s'' : Shared} {C : Calls'} {n : Nat} {W : Addr → Prop}

theorem keys_elim {P : Prop} {o : O} {ks : List V} (h : keysO o = some ks) (k : ∀ kvs, o = .dict kvs → ks = kvs.map (fun p => V.d (.int p.1)) → P) : P := by
  cases o with
  | dict kvs => exact k kvs rfl (Option.some.inj h).symm
  | _ => exact no_some h
/-- a dict walked over: let go, and its place stays as it was -/
theorem src_dict (ok : Ok b ns K mg mb) {A : Around} {l : Nat} {kvs : List (Int × V)} {p : Addr × Addr} (hh : A.handled = none) (S : St b B₀ μ H s.heap) (hp : μ[l]? = some p) (ho : H[l]? = some (.dict kvs))
    {Q : Value → Shared → Prop} {E : Value → Shared → Prop} (hQ : ∀ it s₂, Step b B₀ μ H s μ (H.set l .dead) s → Src b A B₀ μ (H.set l .dead) (kvs.map fun p => V.d (.int p.1)) s it s₂ → Q it s₂) :
    wpAny (model b.prog b.w) A (pyIter (.ref p.1)) Q E s := by
  obtain ⟨_, ps, hd, z, f⟩ := S.objs l p _ hp ho
  obtain ⟨ep, hd⟩ := hd.dictAt
  have P : Step b B₀ μ H s μ (H.set l .dead) s := Step.upd S hp ho rfl (fun a ob _ _ e => e) (Nat.le_refl _) rfl rfl trivial
  have hlt : p.1 < s.heap.objs.size := hd.lt_size
  have nl : ¬ Live μ (H.set l .dead) p.1 := by
    rintro ⟨i, q, o', e1, e2, e3, e4⟩
    rcases getElem?_set' e2 with ⟨rfl, rfl, _⟩ | ⟨hne, e2⟩
    · cases e3
    · obtain ⟨n1, n2, n3, n4⟩ := S.apart l i p q hne hp e1
      exact e4.elim n1 n2
  refine wpAny_pyIter_dict (not_modules ok S hp) hd (hQ _ _ P ?_)
  refine ⟨_, _, _, _, _, _, rfl, Walks.dictKeys (knd := intKind b.prog b.w) hh s.heap.objs.size p.1 (Nat.ne_of_lt hlt) ps ep, z, ⟨⟨_, Heap.get?_push_size _ rfl, rfl, rfl⟩, hd.push _⟩, all_2 ⟨push_lt _, new_free P.st (Nat.le_refl _)⟩ ⟨Nat.lt_trans hlt (push_lt _), nl, (S.mu l p hp).2.2.1⟩, all_1 (Nat.le_refl _), fun a o e => Heap.get?_push_of_some _ e, Nat.le_of_lt (push_lt _), rfl, rfl, ?_, ?_⟩
  · exact f.length.symm.trans (List.length_map ..).symm
  · rintro i rv ⟨k, x, h1, h2⟩
    have hi : i < kvs.length := f.length ▸ (List.getElem?_eq_some_iff.mp h1).1
    obtain ⟨c, e1, r⟩ := f.get (List.getElem?_eq_getElem hi)
    obtain rfl := Option.some.inj (e1.symm.trans h1)
    obtain ⟨t, rfl⟩ := Value.isInt_shape h2
    refine ⟨.d (.int k), ?_, .int _ _⟩
    rw [List.getElem?_map, List.getElem?_eq_getElem hi]
    exact congrArg (fun k => some (V.d (.int k))) r.1

/-- what a loop or a comprehension walks over -/
theorem iter_ok (ok : Ok b ns K mg mb) {k : Nat} {it : X} {ie : Expr} (hx : EvOK b ns C n it) (hm : mIt sc k (mX sc T it) ie = true) {u : V} {vs : List V} (hv : ev ns C it ρ H = some (u, H')) (hi : iterV H' k u = some (vs, H''))
    {A : Around} (hr : Room A n) (S : St b B₀ μ H s.heap) (L : Slots b B₀ sc T env ρ μ H s.heap) {Q : Value → Shared → Prop} {E : Value → Shared → Prop}
    (hQ : ∀ s₁ μ' i s₂, Step b B₀ μ H s μ' H'' s₁ → Src b A B₀ μ' H'' vs s₁ i s₂ → Q i s₂) :
    wpAny (model b.prog b.w) A (eval ie env) (fun x s₁ => wpAny (model b.prog b.w) A (pyIter x) Q E s₁) E s := by
  match k, hm, hi with
  | 0, hm, hi =>
    refine and_elim hm fun _ hm => hx hm hv hr S L fun rv s1 μ1 P1 V1 => dv_elim (R := fun u => VR b.scr μ1 (Bad B₀ μ1 H') s1.heap u rv → _) hi (fun d hi V1 => ld_elim (R := fun d => FR (Bad B₀ μ1 H') s1.heap d rv → _) hi (fun xs hi V1 => ?_) V1) V1
    obtain ⟨rfl, rfl⟩ := pair_inj hi
    exact src_list hr.handled P1.st V1 fun i s₂ h => hQ s1 μ1 i s₂ P1 h
  | 1, hm, hi =>
    refine oc1_elim hm fun fe x he hm => and_elim hm fun hm h2 => and_elim hm fun h0 h1 => asCall_elim (R := fun ie => wpAny (model b.prog b.w) A (eval ie env) (fun x s₁ => wpAny (model b.prog b.w) A (pyIter x) Q E s₁) E s) he fun p => ?_
    refine call_t ok (id := "range") bu_range h0 S L.eok h1 rfl (one_arg hx h1 h2 hv hr S L fun rv s1 μ1 P1 V1 => iv_elim (R := fun u => VR b.scr μ1 (Bad B₀ μ1 H') s1.heap u rv → _) hi (fun m hi V1 => if_elim hi fun hn hi => ?_) V1)
    obtain ⟨rfl, rfl⟩ := pair_inj hi
    exact fr_int V1 fun t => src_range hr.handled P1.st hn.1 hn.2 fun i s₂ h => hQ s1 μ1 i s₂ P1 h
  | 2, hm, hi =>
    refine and_elim hm fun _ hm => hx hm hv hr S L fun rv s1 μ1 P1 V1 => lv_elim (R := fun u => VR b.scr μ1 (Bad B₀ μ1 H') s1.heap u rv → _) hi (fun l hi V1 => oh_elim hi fun ks e hi => ?_) V1
    obtain ⟨rfl, rfl⟩ := pair_inj hi
    obtain ⟨p, hp, rfl⟩ := V1
    refine keys_elim e fun kvs e2 e => ?_
    subst e
    exact src_dict ok hr.handled P1.st hp (getO_get e2 rfl) fun i s₂ P2 h => hQ s1 μ1 i s₂ (P1.trans P2) h
  | k + 3, _, hi => exact no_some hi
end Mine
end

/-! ### Sound5d -/
section
set_option tactic.hygienic false
set_option genSizeOf false
set_option bootstrap.genMatcherCode false
open PySem PySem.W PyProof.Rows PySem.Calls PySem.SeqAt
set_option linter.unusedVariables false
set_option linter.unusedSimpArgs false
set_option maxRecDepth 100000
namespace Mine
variable {b : Base} {ns : List Int} {K : Frag} {mg mb : Str → Option Value} {B₀ B₁ : Addr → Prop} {sc sc' : Scope} {T : List Slot} {env : Env} {ρ : List V} {μ μ' μ'' : Mu} {H H' H'' : List O} {s s' s'' : Shared} {C : Calls'} {n : Nat} {W : Addr → Prop}

theorem relabel_eq (L : EnvOk sc env) : relabel sc' env = relabelS sc sc' := by
  obtain ⟨rfl, _, _, _⟩ := L; rfl
structure ScOk (sc : Scope) (T : List Slot) (t : Str) (sc' : Scope) : Prop where
  kind' : sc'.kind = .function
  kind : sc.kind = .function
  nocell : ∀ p ∈ sc'.names, p.2 ≠ .cell
  loc : ∀ p ∈ sc'.names, p.2 = .local → sc'.names.lookup p.1 = some .local
  tgt : sc'.names.lookup t = some .local
  free : ∀ p ∈ sc'.names, p.2 = .free → ∃ i : Nat, T[i]? = some (some (p.1, NameKind.cell))
theorem scopeOk_parts {t : Str} (h : scopeOk sc T t sc' = true) : ScOk sc T t sc' := by
  unfold scopeOk at h
  simp only [Bool.and_eq_true, decide_eq_true_eq, List.all_eq_true] at h
  obtain ⟨⟨⟨⟨⟨⟨⟨⟨h1, h2⟩, h3⟩, h4⟩, h5⟩, h6⟩, h7⟩, h8⟩, h9⟩ := h
  refine ⟨h1, h2, h3, h4, h5, fun p hp e => ?_⟩
  have := h8 p hp
  simp only [Bool.or_eq_true, decide_eq_true_eq, List.any_eq_true] at this
  rcases this with q | ⟨sl, hs, q⟩
  · exact absurd e q
  · subst q; exact List.mem_iff_getElem?.mp hs

set_option tactic.hygienic true in
theorem slotIn_local {o : Slot} {x : Str} (h : slotIn sc' o = some (x, .local)) : False := by
  unfold slotIn at h
  split at h
  · split at h
    · exact (nomatch (congrArg Prod.snd (Option.some.inj h) : NameKind.cell = NameKind.local))
    · exact no_some h
  · exact no_some h
set_option tactic.hygienic true in
theorem slotIn_cell {o : Slot} {x : Str} (h : slotIn sc' o = some (x, .cell)) : sc'.names.lookup x = some .free ∧ o = some (x, .cell) := by
  unfold slotIn at h
  split at h
  · split at h
    · rename_i y hf
      obtain rfl := congrArg Prod.fst (Option.some.inj h)
      exact ⟨hf, rfl⟩
    · exact no_some h
  · exact no_some h
theorem snoc_get {α : Type} {l : List α} {a c : α} {i : Nat} (h : (l ++ [a])[i]? = some c) : (i < l.length ∧ l[i]? = some c) ∨ (i = l.length ∧ c = a) := by
  by_cases hi : i < l.length
  · exact .inl ⟨hi, (List.getElem?_append_left hi).symm.trans h⟩
  · have hl : i < (l ++ [a]).length := (List.getElem?_eq_some_iff.mp h).1
    rw [List.length_append] at hl
    obtain rfl : i = l.length := Nat.le_antisymm (Nat.le_of_lt_succ hl) (Nat.not_lt.mp hi)
    exact .inr ⟨rfl, Option.some.inj ((List.getElem?_concat_length ..).symm.trans h).symm⟩
theorem slots_comp {t : Str} {Cc : Addr} {m : Str → Option Value} {v : V} {rv : Value} {h : Heap} (L : Slots b B₀ sc T env ρ μ H h) (hs : ScOk sc T t sc') (hC : B₀ Cc) (hn : h.Ns Cc m) (hm : m t = some rv) (hv : VR b.scr μ (Bad B₀ μ H) h v rv) :
    Slots b B₀ (relabelS sc sc') (T.map (slotIn sc') ++ [some (t, .local)]) (compEnvC sc' (cells env sc'.names []) Cc env) (ρ ++ [v]) μ H h := by
  have hfree : ∀ p ∈ sc'.names, p.2 = .free → ∃ c, env.cells.lookup p.1 = some c := fun p hp e =>
    (hs.free p hp e).elim fun i hi => (L.cs i p.1 hi).elim fun c h => h.elim fun _ h => ⟨c, h.1⟩
  have hcl : ∀ x c, (cells env sc'.names []).lookup x = some c → env.cells.lookup x = some c := fun x c e =>
    cells_mem sc'.names [] hfree (fun p hp => nomatch hp) (x, c) (mem_lookup e)
  have hlen : (T.map (slotIn sc')).length = ρ.length := (List.length_map ..).trans L.len.symm
  refine ⟨⟨relabel_eq L.eok, hs.kind', L.eok.globals, L.eok.builtins⟩, hC, fun x c e => L.ownC x c (hcl x c e), ?_, ⟨m, hn, fun i x u h1 h2 h3 => ?_⟩, fun i x h1 => ?_⟩
  · rw [List.length_append, List.length_append, hlen]; rfl
  · rcases snoc_get h1 with ⟨_, h1⟩ | ⟨hi, h1⟩
    · rw [List.getElem?_map] at h1
      exact (Option.map_eq_some_iff.mp h1).elim fun o q => (slotIn_local q.2).elim
    · obtain rfl := congrArg Prod.fst (Option.some.inj h1)
      rcases snoc_get h2 with ⟨hj, _⟩ | ⟨_, h2⟩
      · exact absurd (hi.trans hlen) (Nat.ne_of_lt hj)
      · exact ⟨rv, hm, h2 ▸ hv⟩
  · rcases snoc_get h1 with ⟨hi, h1⟩ | ⟨_, h1⟩
    · rw [List.getElem?_map] at h1
      obtain ⟨o, hT, q⟩ := Option.map_eq_some_iff.mp h1
      have q := slotIn_cell q
      obtain ⟨c, v₀, e1, e2, e3⟩ := L.cs i x (q.2 ▸ hT)
      obtain ⟨c₂, hc₂⟩ := cells_has (env := env) sc'.names [] x (mem_lookup q.1)
      obtain ⟨c₃, hc₃⟩ := lookup_some hc₂
      obtain rfl := Option.some.inj (e1.symm.trans (hcl x c₃ hc₃))
      exact ⟨c, v₀, hc₃, e2, fun u h2 h3 => e3 u ((List.getElem?_append_left (hlen ▸ hi)).symm.trans h2) h3⟩
    · exact (nomatch (congrArg Prod.snd (Option.some.inj h1) : NameKind.cell = NameKind.local))

/-- behind a comprehension's loop -/
structure CompDone (b : Base) (B₀ : Addr → Prop) (μ : Mu) (H : List O) (s : Shared) (μ' : Mu) (H' : List O) (xs : List D) (D C : Addr) (s' : Shared) : Prop where
  step : Step b (fun a => B₀ a ∨ a = C) μ H s μ' H' s'
  le : s.heap.objs.size ≤ C
  ns : ∃ m, s'.heap.Ns C m
  fr : FR (Bad (fun a => B₀ a ∨ a = C) μ' H') s'.heap (.lst xs) (.ref D)

inductive CompInv (b : Base) (ns : List Int) (C : Calls') (cond : Xs) (elt : X) (ρ : List V) (vs : List V) (xs : List D) (H'' : List O) (Wp Bp : Addr → Prop) (μ : Mu) (H : List O) (sA : Shared) (St' : Nat → Heap → Prop) (Dd Cc : Addr) (k : Nat) (q : Shared) : Prop
  | mk (i : Nat) (H' : List O) (μ' : Mu) (xs₀ xs₁ : List D) (ys : List Value) (c : Nat) (m' : Str → Option Value) (h1 : i ≤ vs.length) (h2 : k = vs.length + 1 - i) (h3 : ys.length ≤ i)
    (h4 : compLoop (fun v H => evB ns C true cond (ρ ++ [v]) H) (fun v H => ev ns C elt (ρ ++ [v]) H) (vs.drop i) H' = some (xs₁, H'')) (h5 : xs = xs₀ ++ xs₁)
    (h6 : StepF Wp b Bp μ H sA μ' H' q) (h7 : St' i q.heap) (h8 : q.heap.get? Dd = some { cls := .type "list", data := .seq (List.toArray ys) c }) (h9 : q.heap.Ns Cc m') (h10 : FRs (Bad Bp μ' H') q.heap xs₀ ys)

theorem less_turn {j k : Nat} (h : j < k) : k + 1 - (j + 1) < k + 1 - j := Nat.sub_lt_sub_left (Nat.lt_succ_of_lt h) (Nat.lt_succ_self j)
theorem le_of_turn' {j k n : Nat} (h : j < k) (e : n = k) : j < n := e ▸ h
theorem hsz_of {ys : List Value} {i k : Nat} (h : ys.length ≤ i) (hi : i ≤ k) (hk : k ≤ sizeLine) : ys.toArray.size ≤ sizeLine := Nat.le_trans h (Nat.le_trans hi hk)
theorem kind_ns {g : Bool} {k : ScopeKind} (h : k = .function) : (k == .class || (k == .module && g)) = false := by subst h; rfl
/-- a comprehension's test -/
theorem tests_any {cond : Xs} {ifs : List Expr} (hc : ∀ x, cond = .cons x .nil → TrOK b ns C n x) (hl : ifs.length ≤ 1) (hm : mXs sc T cond ifs = true) {r : Bool} (e : evB ns C true cond ρ H = some (.d (.bool r), H')) {A : Around} (hr : Room A n) (S : St b B₀ μ H s.heap) (L : Slots b B₀ sc T env ρ μ H s.heap)
    {Q : Bool → Shared → Prop} {E : Value → Shared → Prop} (hQ : ∀ s' μ', Step b B₀ μ H s μ' H' s' → Q r s') :
    wpAny (model b.prog b.w) A (forIn ifs true fun c r => if r = true then do let ok ← isTrue c env (eval c env); pure (ForInStep.yield ok) else pure (ForInStep.yield r)) Q E s := by
  cases cond with
  | nil =>
    refine l0_elim (R := fun ifs => wpAny (model b.prog b.w) A (forIn ifs true fun c r => if r = true then do let ok ← isTrue c env (eval c env); pure (ForInStep.yield ok) else pure (ForInStep.yield r)) Q E s) hm (wpAny_tests_nil ?_)
    obtain ⟨rfl, rfl⟩ := bool_inj (show some (V.d (.bool true), H) = some (V.d (.bool r), H') from e)
    exact hQ s μ (Step.refl S)
  | cons cx c2 =>
    cases ifs with
    | nil => exact ff_elim hm
    | cons ce i2 =>
      cases i2 with
      | cons _ _ => exact absurd hl (Nat.not_succ_le_self 1 ∘ Nat.le_trans (Nat.le_add_left 2 _))
      | nil =>
        cases c2 with
        | cons _ _ => exact and_elim hm fun _ h => ff_elim h
        | nil =>
          refine and_elim hm fun hm _ => and_elim hm fun _ h1 => wpAny_tests_one ?_
          refine bh_elim e fun t H1 e1 e2 => ?_
          have e2 : some (V.d (.bool t), H1) = some (V.d (.bool r), H') := by
            cases t with
            | true => exact e2
            | false => exact e2
          obtain ⟨rfl, rfl⟩ := bool_inj e2
          exact hc cx rfl h1 e1 hr S L hQ

set_option maxHeartbeats 4000000 in
set_option tactic.hygienic true in
theorem comp_core (ok : Ok b ns K mg mb) {t : Str} {px pos : Pos} {cond : Xs} {elt : X} {ifs : List Expr} {ee ie : Expr} (hE : EvOK b ns C n elt) (hc : ∀ x, cond = .cons x .nil → TrOK b ns C n x) (hsc : ScOk sc T t sc') (hl : ifs.length ≤ 1)
    (hm1 : mXs (relabelS sc sc') (T.map (slotIn sc') ++ [some (t, .local)]) cond ifs = true) (hm2 : mX (relabelS sc sc') (T.map (slotIn sc') ++ [some (t, .local)]) elt ee = true) {vs : List V} {xs : List D} {it : Value}
    (hrun : compLoop (fun v H => evB ns C true cond (ρ ++ [v]) H) (fun v H => ev ns C elt (ρ ++ [v]) H) vs H = some (xs, H'')) {A : Around} (hr : Room A n) (S : St b B₀ μ H s.heap) (L : Slots b B₀ sc T env ρ μ H s.heap)
    (hsrc : Src b A B₀ μ H vs s it s') {RR : Value → Addr → Result → Shared → Prop} {E : Value → Shared → Prop}
    (hRR : ∀ D Cc μ' s₂, CompDone b B₀ μ H s μ' H'' xs D Cc s₂ → RR (.ref D) Cc (.ok .next) s₂) :
    wpAny (model b.prog b.w) A (newList []) (fun acc s₃ => wpAny (model b.prog b.w) A (newFunctionEnv sc' env.globals (cells env sc'.names []) [] env.qual none .none (some env)) (fun cenv s₄ =>
      codeAny (model b.prog b.w) A (.compStart (.ListComp ee [⟨.Name t px, ie, ifs, 0⟩] sc' pos) 0 it acc { cenv with scope := relabel sc' env }) (RR acc cenv.locals) s₄) E s₃) E s' := by
  obtain ⟨I, fp, wr, N, P, St', rfl, Wk, hN, hst, hfp, hwr, hk0, hz0, hg0, ho0, hlen, hP⟩ := hsrc
  refine wpAny_newObj_type (wpAny_newFunctionEnv hsc.nocell (fun y hy => nomatch hy) (fun h₁ hns₁ hsb₁ => ?_) hsc.kind')
  dsimp only at hns₁ hsb₁ ⊢
  generalize hH2 : s'.heap.push { cls := .type "list", dict := none, data := .seq ([] : List Value).toArray } = H2 at hns₁ hsb₁ ⊢
  have hC : H2.objs.size = s'.heap.objs.size + 1 := by rw [← hH2, Heap.size_push]
  have hz1 : h₁.objs.size = s'.heap.objs.size + 2 := by
    have := hsb₁.1
    rw [this, Heap.size_push, hC]
  have hDC : s'.heap.objs.size ≠ H2.objs.size := by rw [hC]; exact Nat.ne_of_lt (Nat.lt_succ_self _)
  have below : ∀ b, b < s'.heap.objs.size → b ≠ H2.objs.size ∧ b ≠ s'.heap.objs.size := fun b hb => ⟨by rw [hC]; exact Nat.ne_of_lt (Nat.lt_succ_of_lt hb), Nat.ne_of_lt hb⟩
  have old : ∀ b o, s'.heap.get? b = some o → h₁.get? b = some o := fun b o e => hsb₁.extBut b o (below b (Heap.lt_size e)).1 (Heap.get?_push_of_some _ (hH2 ▸ Heap.get?_push_of_some _ e))
  have old0 : ∀ b o, s.heap.get? b = some o → h₁.get? b = some o := fun b o e => old b o (hk0 b o e)
  have hacc : h₁.get? s'.heap.objs.size = some { cls := .type "list", data := .seq #[] 0 } := hsb₁.extBut _ _ hDC (Heap.get?_push_of_some _ (hH2 ▸ Heap.get?_push_size _ rfl))
  have hst₁ : St' 0 h₁ := Wk.frame _ _ _ hst fun b _ o e => old b o e
  -- the own places
  let Wp : Addr → Prop := fun a => s.heap.objs.size ≤ a ∧ a < h₁.objs.size
  let Bp : Addr → Prop := fun a => B₀ a ∨ Wp a
  have hWB : ∀ a, Wp a → Bp a := fun a w => .inr w
  have hDlt : s'.heap.objs.size < h₁.objs.size := by rw [hz1]; omega
  have hClt : H2.objs.size < h₁.objs.size := by rw [hz1, hC]; omega
  have hWD : Wp s'.heap.objs.size := ⟨hz0, hDlt⟩
  have hWC : Wp H2.objs.size := ⟨by rw [hC]; omega, hClt⟩
  have hWw : ∀ a ∈ wr, Wp a := fun a ha => ⟨hwr a ha, Nat.lt_of_lt_of_le (hfp a (Wk.sub a ha)).1 (by rw [hz1]; omega)⟩
  have SA : St b Bp μ H h₁ := S.more old0 (Nat.le_trans hz0 (by rw [hz1]; omega)) fun a z => z
  have LA : Slots b Bp sc T env ρ μ H h₁ := L.more old0 (fun a z => .inl z) fun a z => z.imp id fun z => z.1
  have hEl : ¬ Wp env.locals := fun w => Nat.lt_irrefl _ (Nat.lt_of_lt_of_le (S.bad0 _ L.own).2 w.1)
  have hEc : ∀ x c, env.cells.lookup x = some c → ¬ Wp c := fun x c e w => Nat.lt_irrefl _ (Nat.lt_of_lt_of_le (S.bad0 _ (L.ownC x c e)).2 w.1)
  have hEV := relabel_eq (sc' := sc') L.eok
  have loop : ∀ s₃ : Shared, s₃ = { s' with heap := h₁, toks := s'.toks + ([] : List (Str × Value)).length } →
      codeAny (model b.prog b.w) A (.compLoop (.ListComp ee [⟨.Name t px, ie, ifs, 0⟩] sc' pos) 0 (.ref I) (.ref s'.heap.objs.size) (compEnvC sc' (cells env sc'.names []) H2.objs.size env))
        (RR (.ref s'.heap.objs.size) H2.objs.size) s₃ := by
    rintro s₃ rfl
    generalize hsA : ({ s' with heap := h₁, toks := s'.toks + ([] : List (Str × Value)).length } : Shared) = sA
    have hA : sA.heap = h₁ := by rw [← hsA]
    have hAg : sA.gens = s.gens := by rw [← hsA]; exact hg0
    have hAo : sA.os = s.os := by rw [← hsA]; exact ho0
    have SA' : St b Bp μ H sA.heap := hA ▸ SA
    have LA' : Slots b Bp sc T env ρ μ H sA.heap := hA ▸ LA
    refine codeAny_compLoop_tests
      (CompInv b ns C cond elt ρ vs xs H'' Wp Bp μ H sA St' s'.heap.objs.size H2.objs.size) ?_ (vs.length + 1)
      ⟨0, H, μ, [], xs, [], 0, _, Nat.zero_le _, rfl, Nat.le_refl _, hrun, rfl, (Step.refl SA').f, hA ▸ hst₁, hA ▸ hacc, hA ▸ hns₁, .nil⟩
    rintro k q ⟨i, H1, μ1, xs₀, xs₁, ys, c, m', hi, rfl, hyl, hrun, hxs, F1, hst1, hD1, hn1, hf1⟩
    by_cases hlt : i < vs.length
    · refine with_size ?_
      refine Wk.item i _ _ _ (le_of_turn' hlt hlen) hst1 fun v' h2 tk2 hPv hst2 hk2 hsz2 => ?_
      obtain ⟨v, hv1, hv2⟩ := hP i v' hPv
      rw [List.drop_eq_getElem_cons hlt, (List.getElem?_eq_some_iff.mp hv1).2] at hrun
      have P2 : StepF Wp b Bp μ1 H1 q μ1 H1 { q with heap := h2, toks := tk2 } := StepF.priv F1.st hWB (fun a o w e => hk2 a o (fun hw => w (hWw a hw)) e) hsz2 rfl rfl
      have F2 := F1.trans P2
      have hn2 : h2.Ns H2.objs.size m' := hn1.at' fun o e => hk2 _ o (fun hw => by have := (hfp _ (Wk.sub _ hw)).1; rw [hC] at this; exact Nat.lt_irrefl _ (Nat.lt_of_succ_lt this)) e
      have hD2 : h2.get? s'.heap.objs.size = some { cls := .type "list", data := .seq (List.toArray ys) c } := hk2 _ _ (fun hw => Nat.lt_irrefl _ (hfp _ (Wk.sub _ hw)).1) hD1
      refine wpAny_assign_Name (wpAny_storeName_local (lookup_relabel_local hsc.tgt) hn2 (fun h3 hn3 hs3 => ?_) (kind_ns hsc.kind'))
      have P3 : StepF Wp b Bp μ1 H1 { q with heap := h2, toks := tk2 } μ1 H1 { q with heap := h3, toks := tk2 + 1 } := StepF.priv F2.st hWB (fun a o w e => hs3.extBut a o (fun z => by have z' : a = H2.objs.size := z; exact w (z' ▸ hWC)) e) (Nat.le_of_eq hs3.1.symm) rfl rfl
      have F3 := F2.trans P3
      have hst3 : St' (i + 1) h3 := Wk.frame _ _ _ hst2 fun b hb o e => hs3.extBut b o (fun z => by have z' : b = H2.objs.size := z; have := (hfp _ hb).1; rw [z', hC] at this; exact Nat.lt_irrefl _ (Nat.lt_of_succ_lt this)) e
      have hD3 : h3.get? s'.heap.objs.size = some { cls := .type "list", data := .seq (List.toArray ys) c } := hs3.extBut _ _ hDC hD2
      have V3 : VR b.scr μ1 (Bad Bp μ1 H1) h3 v v' := by
        have a1 : VR b.scr μ (Bad Bp μ H) sA.heap v v' := VR.more (h' := sA.heap) (fun a o e => hA ▸ old0 a o e) (fun a z => z.imp id fun z => z.1) hv2
        exact VR.stepF F3 hWB a1
      have hf3 : FRs (Bad Bp μ1 H1) h3 xs₀ ys := by
        refine all2_frs ((frs_all2 hf1).imp fun d rv x => ?_)
        exact VR.stepF (P2.trans P3) hWB (v := .d d) x
      have LO3 := LA'.stepF SA' F3 hWB hEl hEc
      have LC3 := slots_comp (Cc := H2.objs.size) LO3 hsc (.inr hWC) hn3 (if_pos rfl) V3
      obtain ⟨m3, hn3⟩ : ∃ m3, h3.Ns H2.objs.size m3 := ⟨_, hn3⟩
      have fpk : ∀ {μ5 : Mu} {H5 : List O} {s5 : Shared}, StepF Wp b Bp μ H sA μ5 H5 s5 → ∀ a ∈ fp, ¬ Live μ5 H5 a := fun F5 a ha l => by
        rcases F5.fresh a l with z | z
        · exact (hfp a ha).2.1 z
        · rw [hA, hz1] at z; exact Nat.lt_irrefl _ (Nat.lt_of_lt_of_le (hfp a ha).1 (Nat.le_trans (Nat.le_add_right _ 2) z))
      have privD : ∀ {μ5 : Mu} {H5 : List O} {s5 : Shared}, St b Bp μ5 H5 s5.heap → ∀ a, Wp a → ¬ Live μ5 H5 a := fun S5 a w l => (l.lt S5).2.2 (hWB a w)
      refine bh_elim hrun fun r H4 e4 hrun => tests_any hc hl hm1 e4 hr F3.st LC3 fun s4 μ4 P4 => ?_
      cases r with
      | true =>
        rw [if_pos rfl]
        refine dh_elim hrun fun x H5 e5 hrun => vh_elim hrun fun xs2 H6 e6 hrun => hE hm2 e5 hr P4.st (LC3.step F3.st P4) fun rv s5 μ5 P5 V5 => ?_
        have P35 := P4.trans P5
        have hD5 := P35.keep _ _ hD3 (privD F3.st _ hWD)
        refine append_at (hsz := hsz_of hyl hi (hlen ▸ hN)) hD5 fun h6 hs6 hD6 => ?_
        have P6 : StepF Wp b Bp μ5 H5 s5 μ5 H5 { s5 with heap := h6 } := StepF.priv P5.st hWB (fun a o w e => hs6.extBut a o (fun z => w (z ▸ hWD)) e) (Nat.le_of_eq hs6.1.symm) rfl rfl
        obtain ⟨rfl, rfl⟩ := pair_inj hrun
        exact ⟨vs.length + 1 - (i + 1), less_turn hlt, i + 1, H5, μ5, xs₀ ++ [x], xs2, ys ++ [rv], c + 1, m3, hlt, rfl, Nat.le_trans (Nat.le_of_eq List.length_append) (Nat.succ_le_succ hyl), e6, hxs.trans (List.append_cons ..), (F3.trans P35.f).trans P6,
          Wk.frame _ _ _ hst3 fun a ha o e => hs6.extBut a o (fun z => Nat.lt_irrefl _ (z ▸ (hfp a ha).1)) (P35.keep a o e (fpk F3 a ha)), hD6.trans (by rw [List.push_toArray]),
          (hn3.at' fun o e => P35.keep _ o e (privD F3.st _ hWC)).sameBut hs6 (Ne.symm hDC), frs_append (all2_frs ((frs_all2 hf3).imp fun d rv y => VR.stepF (P35.f.trans P6) hWB (v := .d d) y)) (.cons (VR.stepF P6 hWB (v := .d x) V5) .nil)⟩
      | false =>
        rw [if_neg Bool.false_ne_true]
        exact ⟨vs.length + 1 - (i + 1), less_turn hlt, i + 1, H4, μ4, xs₀, xs₁, ys, c, m3, hlt, rfl, Nat.le_succ_of_le hyl, hrun, hxs, F3.trans P4.f, Wk.frame _ _ _ hst3 fun a ha o e => P4.keep a o e (fpk F3 a ha),
          P4.keep _ _ hD3 (privD F3.st _ hWD), hn3.at' fun o e => P4.keep _ o e (privD F3.st _ hWC), all2_frs ((frs_all2 hf3).imp fun d rv y => VR.step P4 (v := .d d) y)⟩
    · obtain rfl : i = vs.length := Nat.le_antisymm hi (Nat.not_lt.mp hlt)
      rw [List.drop_length] at hrun
      obtain ⟨rfl, rfl⟩ := pair_inj (show some ([], H1) = some (xs₁, H'') from hrun)
      rw [List.append_nil] at hxs
      rw [hxs] at hRR
      refine with_size ?_
      refine Wk.done _ _ _ (hlen ▸ hst1) fun h2 tk2 hk2 hsz2 => ?_
      have P2 : StepF Wp b Bp μ1 H1 q μ1 H1 { q with heap := h2, toks := tk2 } := StepF.priv F1.st hWB (fun a o w e => hk2 a o (fun hw => w (hWw a hw)) e) hsz2 rfl rfl
      have F2 := F1.trans P2
      have hn2 : h2.Ns H2.objs.size m' := hn1.at' fun o e => hk2 _ o (fun hw => by have := (hfp _ (Wk.sub _ hw)).1; rw [hC] at this; exact Nat.lt_irrefl _ (Nat.lt_of_succ_lt this)) e
      have hD2 : h2.get? s'.heap.objs.size = some { cls := .type "list", data := .seq (List.toArray ys) c } := hk2 _ _ (fun hw => Nat.lt_irrefl _ (hfp _ (Wk.sub _ hw)).1) hD1
      have hf2 : FRs (Bad Bp μ1 H1) h2 xs₀ ys := all2_frs ((frs_all2 hf1).imp fun d rv x => VR.stepF P2 hWB (v := .d d) x)
      have less : ∀ a, (B₀ a ∨ a = H2.objs.size) → Bp a := fun a z => z.elim .inl fun z => by subst z; exact hWB _ hWC
      have F2' : StepF Wp b (fun a => B₀ a ∨ a = H2.objs.size) μ H sA μ1 H1 { q with heap := h2, toks := tk2 } := F2.less less
      have S0 : Step b (fun a => B₀ a ∨ a = H2.objs.size) μ H s μ1 H1 { q with heap := h2, toks := tk2 } := by
        refine ⟨F2'.st, F2'.ext, fun a o e nl => F2'.keep a o (hA ▸ old0 a o e) nl fun w => Nat.lt_irrefl _ (Nat.lt_of_lt_of_le (Heap.lt_size e) w.1), fun a l => (F2'.fresh a l).imp id fun z => ?_, ?_, F2'.gens.trans hAg, F2'.os.trans hAo⟩
        · rw [hA, hz1] at z; exact Nat.le_trans hz0 (Nat.le_trans (Nat.le_add_right _ 2) z)
        · have := F2'.size; rw [hA, hz1] at this; omega
      refine hRR _ _ μ1 _ ⟨S0, hWC.1, ⟨_, hn2⟩, .lst (vs := ys) ⟨_, hD2⟩ ?_ ?_ (FRs.mono (fun a o e nb => ⟨e, fun z => nb (z.imp (less a) id)⟩) hf2)⟩
      · omega
      · rintro ((z | z) | z)
        · exact Nat.lt_irrefl _ (Nat.lt_of_lt_of_le (S.bad0 _ z).2 hz0)
        · exact hDC z
        · exact (z.lt F2.st).2.2 (hWB _ hWD)
  exact codeAny_compStart_list (loop _ rfl) (Wk.self 0 _ _ _ hst₁ (loop _ rfl))
end Mine
end

/-! ### Sound5e -/
section
set_option tactic.hygienic false
set_option genSizeOf false
set_option bootstrap.genMatcherCode false
open PySem PySem.W PyProof.Rows PySem.Calls PySem.SeqAt
set_option linter.unusedVariables false
set_option linter.unusedSimpArgs false
set_option maxRecDepth 100000
namespace Mine
variable {b : Base} {ns : List Int} {K : Frag} {mg mb : Str → Option Value} {B₀ B₁ : Addr → Prop} {sc sc' : Scope} {T : List Slot} {env : Env} {ρ : List V} {μ μ' μ'' : Mu} {H H' H'' : List O} {s s' s'' : Shared} {C : Calls'} {n : Nat} {W : Addr → Prop}

theorem CompDone.go {xs : List D} {Dd Cc : Addr} (Z : CompDone b B₀ μ H s μ' H' xs Dd Cc s') {h' : Heap} (hs : Heap.SameBut Cc s'.heap h') : Step b B₀ μ H s μ' H' { s' with heap := h' } ∧ FR (Bad B₀ μ' H') h' (.lst xs) (.ref Dd) := by
  have P : StepF (fun a => a = Cc) b (fun a => B₀ a ∨ a = Cc) μ' H' s' μ' H' { s' with heap := h' } := StepF.priv Z.step.st (fun a w => .inr w) (fun a o w e => hs.extBut a o w e) (Nat.le_of_eq hs.1.symm) rfl rfl
  exact ⟨((Z.step.f.trans P).less fun a z => .inl z).toStep fun a w => by subst w; exact Z.le, VR.less (v := .d (.lst xs)) (fun a z => .inl z) (VR.stepF P (fun a w => .inr w) (v := .d (.lst xs)) Z.fr)⟩

theorem notSet_folded {e : Expr} {env : Env} (h : notSet e = true) (x : Value) : foldedSetIterable e env x = pure x := by
  revert h
  cases e <;> first | exact fun _ => rfl | exact fun h => ff_elim h
theorem mIt_set {k : Nat} {m : Expr → Bool} {ie : Expr} (h : mIt sc k m ie = true) : notSet ie = true := match k, h with
  | 0, h => and_elim h fun h _ => h
  | 1, h => oc1_elim h fun fe x he _ => asCall_elim (R := fun ie => notSet ie = true) he fun _ => rfl
  | k + 2, h => and_elim h fun h _ => h

set_option tactic.hygienic true in
theorem step_before {B₂ : Addr → Prop} (P1 : Step b B₀ μ H s μ' H' s') (P2 : Step b B₂ μ' H' s' μ'' H'' s'') : Step b B₂ μ H s μ'' H'' s'' where
  st := P2.st
  ext := by obtain ⟨x, rfl⟩ := P1.ext; obtain ⟨y, rfl⟩ := P2.ext; exact ⟨x ++ y, List.append_assoc ..⟩
  keep := fun p o e n => P2.keep p o (P1.keep p o e n) fun l => (P1.fresh p l).elim n fun z => Nat.lt_irrefl _ (Nat.lt_of_lt_of_le (Heap.lt_size e) z)
  fresh := fun p l => (P2.fresh p l).elim (P1.fresh p) fun z => .inr (Nat.le_trans P1.size z)
  size := Nat.le_trans P1.size P2.size
  gens := P2.gens.trans P1.gens
  os := P2.os.trans P1.os
theorem comp_any (ok : Ok b ns K mg mb) {k : Nat} {t : Str} {px pos pos' : Pos} {cond : Xs} {it elt : X} {ifs : List Expr} {ee ie : Expr} (hI : EvOK b ns C n it) (hE : EvOK b ns C n elt) (hc : ∀ x, cond = .cons x .nil → TrOK b ns C n x) (hsc : scopeOk sc T t sc' = true) (hl : ifs.length ≤ 1)
    (hm : mIt sc k (mX sc T it) ie = true)
    (hm1 : mXs (relabelS sc sc') (T.map (slotIn sc') ++ [some (t, .local)]) cond ifs = true) (hm2 : mX (relabelS sc sc') (T.map (slotIn sc') ++ [some (t, .local)]) elt ee = true) {v : V}
    (hv : ev ns C (.comp k it cond elt) ρ H = some (v, H')) {A : Around} (hr : Room A n) (S : St b B₀ μ H s.heap) (L : Slots b B₀ sc T env ρ μ H s.heap) {use : Option (Value → Sem Unit)} {Q : Value → Shared → Prop} {E : Value → Shared → Prop}
    (hQ : ∀ xs D Cc μ' s₂, v = .d (.lst xs) → CompDone b B₀ μ H s μ' H' xs D Cc s₂ → compPost (model b.prog b.w) A E use Q (.ref D) Cc (.ok .next) s₂) :
    wpAny (model b.prog b.w) A (comprehension (.ListComp ee [⟨.Name t px, ie, ifs, 0⟩] sc' pos) sc' env pos' (newList []) false (eval ie env) use) Q E s := by
  have hs := scopeOk_parts hsc
  refine vh_elim (ev_comp_eq.symm.trans hv) fun u H1 e1 hv => vh_elim hv fun vs H2 e2 hv => vh_elim hv fun xs H3 e3 hv => ?_
  obtain ⟨rfl, rfl⟩ := pair_inj hv
  refine wpAny_comprehension_free rfl (notSet_folded (mIt_set hm)) (closure_ok (fun p hp e => (hs.free p hp e).elim fun i hi => (L.cs i p.1 hi).elim fun c h => h.elim fun _ h => ⟨c, h.1⟩)) hs.kind' hs.loc (iter_ok ok hI hm e1 e2 hr S L fun s1 μ1 i s2 P1 hsrc => ?_)
  refine comp_core ok hE hc hs hl hm1 hm2 e3 hr P1.st (L.step S P1) hsrc (RR := fun acc Cc => compPost (model b.prog b.w) A E use Q acc Cc) fun D Cc μ2 s₂ Z => hQ xs D Cc μ2 s₂ rfl ⟨?_, Nat.le_trans P1.size Z.le, Z.ns, Z.fr⟩
  exact step_before P1 Z.step

theorem ev_comp (ok : Ok b ns K mg mb) {k : Nat} {cond : Xs} {it elt : X} (hI : EvOK b ns C n it) (hE : EvOK b ns C n elt) (hc : ∀ x, cond = .cons x .nil → TrOK b ns C n x) : EvOK b ns C n (.comp k it cond elt) := by
  intro sc T e hm ρ H v H' hv
  refine ob5_elim (mX_comp_eq.symm.trans hm) fun ee te ie ifs sc' he hm => ob1_elim hm fun t ht hm => and_elim hm fun hm h5 => and_elim hm fun hm h4 => and_elim hm fun hm h3 => and_elim hm fun h1 h2 => asComp_elim (R := fun e => EvG b n sc T e ρ H v H') he fun p => ?_
  refine asName_elim (R := fun te => EvG b n sc T (.ListComp ee [⟨te, ie, ifs, 0⟩] sc' p) ρ H v H') ht fun p' => ?_
  intro A s μ B₀ env hr S L Q E hQ
  rw [eval_ListComp]
  refine comp_any ok hI hE hc h1 (dec_elim h2) h3 h4 h5 hv hr S L fun xs D Cc μ2 s₂ e Z => ?_
  subst e
  obtain ⟨m, hn⟩ := Z.ns
  refine ⟨m, hn, fun h' hs => ?_⟩
  obtain ⟨P, F⟩ := Z.go hs
  exact hQ _ _ μ2 P F
end Mine
end

/-! ### Sound5f -/
section
set_option tactic.hygienic false
set_option genSizeOf false
set_option bootstrap.genMatcherCode false
open PySem PySem.W PyProof.Rows PySem.Calls PySem.SeqAt
set_option linter.unusedVariables false
set_option linter.unusedSimpArgs false
set_option maxRecDepth 100000
namespace Mine
variable {b : Base} {ns : List Int} {K : Frag} {mg mb : Str → Option Value} {C : Calls'} {n : Nat}

section
variable {e : Expr}
theorem pl_name {r} (h : asName e = some r) : plainTest e = true := asName_elim (R := fun e => plainTest e = true) h fun _ => rfl
theorem pl_const {r} (h : asConst e = some r) : plainTest e = true := asConst_elim (R := fun e => plainTest e = true) h fun _ _ => rfl
theorem pl_bin {l o r} (h : asBin e = some (l, o, r)) : plainTest e = true := asBin_elim (R := fun e => plainTest e = true) h fun _ => rfl
theorem pl_call {l r} (h : asCall e = some (l, r)) : plainTest e = true := asCall_elim (R := fun e => plainTest e = true) h fun _ => rfl
theorem pl_attr {l r} (h : asAttr e = some (l, r)) : plainTest e = true := asAttr_elim (R := fun e => plainTest e = true) h fun _ => rfl
theorem pl_sub {l r} (h : asSub e = some (l, r)) : plainTest e = true := asSub_elim (R := fun e => plainTest e = true) h fun _ => rfl
theorem pl_list {r} (h : asList e = some r) : plainTest e = true := asList_elim (R := fun e => plainTest e = true) h fun _ => rfl
theorem pl_tup {r} (h : asTup e = some r) : plainTest e = true := asTup_elim (R := fun e => plainTest e = true) h fun _ _ => rfl
theorem pl_dict {l r} (h : asDict e = some (l, r)) : plainTest e = true := asDict_elim (R := fun e => plainTest e = true) h fun _ => rfl
theorem pl_comp {a c d f g} (h : asComp e = some (a, c, d, f, g)) : plainTest e = true := asComp_elim (R := fun e => plainTest e = true) h fun _ => rfl
theorem pl_un {o x} (h : asUn e = some (o, x)) (ho : ∀ p, plainTest (.UnaryOp o x p) = true) : plainTest e = true := asUn_elim (R := fun e => plainTest e = true) h ho
theorem pl_cst {d : D} (h : mConst d e = true) : plainTest e = true := by
  cases d with
  | int i => exact bor_elim h (fun h => pl_const (dec_elim h)) fun h => ob2_elim h fun o x e h => and_elim h fun q _ => pl_un e fun _ => dec_elim q ▸ rfl
  | none => exact pl_const (dec_elim h)
  | bool _ => exact pl_const (dec_elim h)
  | str _ => exact pl_const (dec_elim h)
  | bytes _ => exact pl_const (dec_elim h)
  | _ => exact ff_elim h
end
theorem no_killB {d : D} {o : O} {k : Bool} (h : killO o = some d) (q : d = .bool k) : False := by
  cases o with
  | lst xs => exact oh_elim h fun ds _ h => nomatch (Option.some.inj h).trans q
  | obj c fs => exact oh_elim h fun ds _ h => nomatch (Option.some.inj h).trans q
  | _ => exact no_some h
theorem tr_kill {x : X} : TrOK b ns C n (.kill x) := by
  intro sc T e hm ρ H k H' hv
  exact ph_elim (ev_kill_eq.symm.trans hv) fun l H1 _ hv => oh_elim hv fun d e1 hv => (no_killB e1 (V.d.inj (pair_inj hv).1)).elim

noncomputable def XOk (b : Base) (ns : List Int) (C : Calls') (n : Nat) (x : X) : Prop := EvOK b ns C n x ∧ TrOK b ns C n x
noncomputable def XsOk (b : Base) (ns : List Int) (C : Calls') (n : Nat) (xs : Xs) : Prop := EvsOK b ns C n xs ∧ EvBOK b ns C n xs ∧ AllOK b ns C n xs ∧ ∀ x, xs = .cons x .nil → TrOK b ns C n x
theorem pair {x : X} (A : EvOK b ns C n x) (hp : ∀ {sc T e}, mX sc T x e = true → plainTest e = true) : XOk b ns C n x := ⟨A, tr_of_ev A hp⟩
theorem XsOk.nil : XsOk b ns C n .nil := ⟨evs_nil, evB_nil, all_nil, fun x e => nomatch e⟩
theorem XsOk.cons {x : X} {xs : Xs} (h : XOk b ns C n x) (k : XsOk b ns C n xs) : XsOk b ns C n (.cons x xs) := ⟨evs_cons h.1 k.1, evB_cons h.1 k.2.1, all_cons h.2 k.2.2.1, fun y e => (Xs.cons.inj e).1 ▸ h.2⟩
theorem x_ok (ok : Ok b ns K mg mb) (hC : CallsOk b C n) (x : X) : EvOK b ns C n x ∧ TrOK b ns C n x :=
  X.rec (motive_1 := XOk b ns C n) (motive_2 := XsOk b ns C n)
    (fun d => pair ev_cst fun h => pl_cst h)
    (fun i => pair (ev_var ok) fun h => ob1_elim (mX_var_eq.symm.trans h) fun _ e _ => pl_name e)
    (fun g => pair (ev_glob ok) fun h => and_elim (mX_glob_eq.symm.trans h) fun h _ => glob_elim (R := fun e => plainTest e = true) h fun _ _ _ => rfl)
    (fun op a c A Cc => pair (ev_bin A.1 Cc.1) fun h => ob3_elim (mX_bin_eq.symm.trans h) fun _ _ _ e _ => pl_bin e)
    (fun a c A Cc => pair (ev_cat A.1 Cc.1) fun h => ob3_elim (mX_cat_eq.symm.trans h) fun _ _ _ e _ => pl_bin e)
    (fun a c A Cc => pair (ev_catM A.1 Cc.1) fun h => ob3_elim (mX_catM_eq.symm.trans h) fun _ _ _ e _ => pl_bin e)
    (fun a A => pair (ev_inv A.1) fun h => ob2_elim (mX_inv_eq.symm.trans h) fun _ _ e h => and_elim h fun q _ => pl_un e fun _ => dec_elim q ▸ rfl)
    (fun a A => ⟨ev_not A.1, tr_not A.2⟩)
    (fun op a c A Cc => ev_cmp ok A.1 Cc.1)
    (fun o1 o2 a c d A Cc Dd => ⟨ev_cmp2 ok A.1 Cc.1 Dd.1, tr_cmp2 ok A.1 Cc.1 Dd.1⟩)
    (fun k xs L => ⟨ev_bop L.2.1, tr_bop L.2.2.1⟩)
    (fun c a d Cc A Dd => ⟨ev_ite Cc.2 A.1 Dd.1, tr_ite Cc.2 A.2 Dd.2⟩)
    (fun f xs L => pair (ev_call ok hC L.1) fun h => ob2_elim (mX_call_eq.symm.trans h) fun _ _ e _ => pl_call e)
    (fun f xs L => pair (ev_callI ok hC L.1) fun h => ob2_elim (mX_callI_eq.symm.trans h) fun _ _ e _ => pl_call e)
    (fun f xs L => pair (ev_new ok hC L.1) fun h => ob2_elim (mX_new_eq.symm.trans h) fun _ _ e _ => pl_call e)
    (fun f xs L => pair (ev_newM ok hC L.1) fun h => ob2_elim (mX_newM_eq.symm.trans h) fun _ _ e _ => pl_call e)
    (fun a f A => pair (ev_attr ok A.1) fun h => ob2_elim (mX_attr_eq.symm.trans h) fun _ _ e _ => pl_attr e)
    (fun a i A I => pair (ev_idx ok A.1 I.1) fun h => ob2_elim (mX_idx_eq.symm.trans h) fun _ _ e _ => pl_sub e)
    (fun a i A I => pair (ev_sl0 ok A.1 I.1) fun h => ob2_elim (mX_sl0_eq.symm.trans h) fun _ _ e _ => pl_sub e)
    (fun a i j A I J => pair (ev_sl A.1 I.1 J.1) fun h => ob2_elim (mX_sl_eq.symm.trans h) fun _ _ e _ => pl_sub e)
    (fun xs L => pair (ev_list L.1) fun h => ob1_elim (mX_list_eq.symm.trans h) fun _ e _ => pl_list e)
    (fun xs L => pair (ev_listM L.1) fun h => ob1_elim (mX_listM_eq.symm.trans h) fun _ e _ => pl_list e)
    (fun xs L => pair (ev_tup L.1) fun h => ob1_elim (mX_tup_eq.symm.trans h) fun _ e _ => pl_tup e)
    (fun kvs => pair ev_dictM fun h => ob2_elim (mX_dictM_eq.symm.trans h) fun _ _ e _ => pl_dict e)
    (fun a A => pair (ev_len ok A.1) fun h => oc1_elim (mX_len_eq.symm.trans h) fun _ _ e _ => pl_call e)
    (fun a A => pair (ev_copy ok A.1) fun h => oc1_elim (mX_copy_eq.symm.trans h) fun _ _ e _ => pl_call e)
    (fun a A => pair (ev_copyM ok A.1) fun h => oc1_elim (mX_copyM_eq.symm.trans h) fun _ _ e _ => pl_call e)
    (fun a A => pair (ev_sorted ok A.1) fun h => oc1_elim (mX_sorted_eq.symm.trans h) fun _ _ e _ => pl_call e)
    (fun a A => pair (ev_toInt ok A.1) fun h => oc1_elim (mX_toInt_eq.symm.trans h) fun _ _ e _ => pl_call e)
    (fun a A => pair (ev_isTup ok A.1) fun h => oc2_elim (mX_isTup_eq.symm.trans h) fun _ _ _ e _ => pl_call e)
    (fun a A => pair (ev_isBool ok A.1) fun h => oc2_elim (mX_isBool_eq.symm.trans h) fun _ _ _ e _ => pl_call e)
    (fun a A => pair (ev_repr ok A.1) fun h => oc1_elim (mX_repr_eq.symm.trans h) fun _ _ e _ => pl_call e)
    (fun k it cond elt I L E => pair (ev_comp (k := k) ok I.1 E.1 L.2.2.2) fun h => ob5_elim (mX_comp_eq.symm.trans h) fun _ _ _ _ _ e _ => pl_comp e)
    (fun a A => ⟨ev_kill A.1, tr_kill⟩)
    .nil (fun x xs A L => .cons A L) x
theorem xs_ok (ok : Ok b ns K mg mb) (hC : CallsOk b C n) : ∀ xs : Xs, XsOk b ns C n xs
  | .nil => .nil
  | .cons x xs => .cons (x_ok ok hC x) (xs_ok ok hC xs)
end Mine
end

/-! ### Sound6a -/
section
set_option tactic.hygienic false
set_option genSizeOf false
set_option bootstrap.genMatcherCode false
open PySem PySem.W PyProof.Rows PySem.Calls PySem.SeqAt
set_option linter.unusedVariables false
set_option linter.unusedSimpArgs false
set_option maxRecDepth 100000
namespace Mine
variable {b : Base} {ns : List Int} {K : Frag} {mg mb : Str → Option Value} {B₀ B₁ : Addr → Prop} {sc sc' : Scope} {T : List Slot} {env : Env} {ρ ρ' : List V} {μ μ' μ'' : Mu} {H H' H'' : List O} {s s' s'' : Shared} {C : Calls'} {n : Nat} {W : Addr → Prop}

noncomputable def Own (env : Env) (a : Addr) : Prop := a = env.locals ∨ ∃ x, env.cells.lookup x = some a
structure Fix (T : List Slot) (env : Env) : Prop where
  dist : ∀ (i j : Nat) (x : Str) (k k' : NameKind), T[i]? = some (some (x, k)) → T[j]? = some (some (x, k')) → i = j
  cinj : ∀ x y c, env.cells.lookup x = some c → env.cells.lookup y = some c → x = y
  cloc : ∀ x c, env.cells.lookup x = some c → c ≠ env.locals
theorem own_priv (L : Slots b B₀ sc T env ρ μ H s.heap) : ∀ a, Own env a → B₀ a := fun a w => w.elim (fun e => e ▸ L.own) fun ⟨x, e⟩ => L.ownC x a e

theorem slot_inj {y x : Str} {k k' : NameKind} (h : some (some (y, k)) = some (some (x, k'))) : y = x ∧ k = k' := pair_inj (Option.some.inj h)
theorem slot_apart {i j : Nat} {y x : Str} (h : T[i]? = some (some (y, .local))) (h' : T[j]? = some (some (x, .cell))) : i ≠ j := by rintro rfl; exact (nomatch (slot_inj (h.symm.trans h')).2)
/-- a name of the frame is stored -/
theorem store_slot {i : Nat} {y : Str} {k : NameKind} (hT : T[i]? = some (some (y, k))) (hk : sc.names.lookup y = some k) (hkk : k = .local ∨ k = .cell) (S : St b B₀ μ H s.heap) (L : Slots b B₀ sc T env ρ μ H s.heap) (X : Fix T env) {v : V} {rv : Value} (hv : VR b.scr μ (Bad B₀ μ H) s.heap v rv)
    {A : Around} {M : Model} {Q : Unit → Shared → Prop} {E : Value → Shared → Prop} (hQ : ∀ s', StepF (Own env) b B₀ μ H s μ H s' → Slots b B₀ sc T env (ρ.set i v) μ H s'.heap → Q () s') :
    wpAny M A (storeName env y rv) Q E s := by
  have hkind : env.scope.kind = .function := L.eok.scope ▸ L.eok.kind
  have hkof : env.kindOf y = some k := show env.scope.names.lookup y = _ from L.eok.scope ▸ hk
  have hW := own_priv L
  have hlen : (ρ.set i v).length = T.length := List.length_set.trans L.len
  rcases hkk with rfl | rfl
  · obtain ⟨m, hn, hm⟩ := L.ns
    refine wpAny_storeName_local hkof hn (fun h' hn' hs' => ?_) (kind_ns hkind)
    have P : StepF (Own env) b B₀ μ H s μ H { s with heap := h', toks := s.toks + 1 } := StepF.priv S hW (fun a o w e => hs'.extBut a o (fun z => w (.inl z)) e) (Nat.le_of_eq hs'.1.symm) rfl rfl
    refine hQ _ P ⟨L.eok, L.own, L.ownC, hlen, ⟨_, hn', fun j x u h1 h2 h3 => ?_⟩, fun j x h1 => ?_⟩
    · rcases getElem?_set' h2 with ⟨hij, hu, _⟩ | ⟨hij, h2⟩
      · exact ⟨rv, if_pos (slot_inj (hT.symm.trans (hij ▸ h1))).1.symm, hu ▸ VR.stepF P hW hv⟩
      · obtain ⟨ru, e1, e2⟩ := hm j x u h1 h2 h3
        exact ⟨ru, (if_neg fun z => hij (X.dist i j y _ _ hT (z ▸ h1))).trans e1, VR.stepF P hW e2⟩
    · obtain ⟨c, v₀, e1, e2, e3⟩ := L.cs j x h1
      refine ⟨c, v₀, e1, e2.elim fun o q => ⟨o, hs'.extBut c o (X.cloc x c e1) q.1, q.2⟩, fun u h2 h3 => ?_⟩
      obtain ⟨ru, e4, e5⟩ := e3 u ((List.getElem?_set_ne (slot_apart hT h1)).symm.trans h2) h3
      exact ⟨ru, e4, VR.stepF P hW e5⟩
  · obtain ⟨c, v₀, e1, e2, e3⟩ := L.cs i y hT
    refine wpAny_storeName_cell hkind hkof e1 e2 (fun h' hc' hs' => ?_)
    have P : StepF (Own env) b B₀ μ H s μ H { s with heap := h' } := StepF.priv S hW (fun a o w e => hs'.extBut a o (fun z => w (.inr ⟨y, z ▸ e1⟩)) e) (Nat.le_of_eq hs'.1.symm) rfl rfl
    refine hQ _ P ⟨L.eok, L.own, L.ownC, hlen, ?_, fun j x h1 => ?_⟩
    · obtain ⟨m, hn, hm⟩ := L.ns
      refine ⟨m, hn.at' fun o e => hs'.extBut _ o (Ne.symm (X.cloc y c e1)) e, fun j x u h1 h2 h3 => ?_⟩
      obtain ⟨ru, e4, e5⟩ := hm j x u h1 ((List.getElem?_set_ne (Ne.symm (slot_apart h1 hT))).symm.trans h2) h3
      exact ⟨ru, e4, VR.stepF P hW e5⟩
    · by_cases hij : i = j
      · subst hij
        obtain ⟨rfl, _⟩ := slot_inj (hT.symm.trans h1)
        refine ⟨c, _, e1, hc', fun u h2 h3 => ⟨rv, rfl, ?_⟩⟩
        rw [List.getElem?_set_self (L.len ▸ (List.getElem?_eq_some_iff.mp hT).1)] at h2
        exact Option.some.inj h2 ▸ VR.stepF P hW hv
      · obtain ⟨c', v', f1, e2, f3⟩ := L.cs j x h1
        refine ⟨c', v', f1, e2.elim fun o q => ⟨o, hs'.extBut c' o (fun z => hij (X.dist i j y _ _ hT (X.cinj x y c (z ▸ f1) e1 ▸ h1))) q.1, q.2⟩, fun u h2 h3 => ?_⟩
        obtain ⟨ru, e4, e5⟩ := f3 u ((List.getElem?_set_ne hij).symm.trans h2) h3
        exact ⟨ru, e4, VR.stepF P hW e5⟩

theorem isSlot_elim {i : Nat} {e : Expr} {R : Expr → Prop} (h : isSlot sc T i e = true) (f : ∀ y k p, T[i]? = some (some (y, k)) → sc.names.lookup y = some k → (k = .local ∨ k = .cell) → R (.Name y p)) : R e :=
  ob1_elim h fun y hy h => ob1_elim h fun t hT h => ob2_elim h fun x k ht h => and_elim h fun h hkk => and_elim h fun q hk => asName_elim hy fun p => f y k p (by rw [hT, ht, dec_elim q]) (dec_elim hk) (bor_elim hkk (fun q => .inl (eq_of_beq q)) fun q => .inr (eq_of_beq q))

/-! ## stores into objects -/
theorem ents_str {ns : List Nat} {es : List DictEntry} (h : Ents ns es) : es.any (·.refKey) = false := by
  induction h with
  | nil => rfl
  | cons hk r ih => rw [List.any_cons, ih, DictEntry.refKey, hk]; rfl
theorem putL_cons {f : Nat} {hsh : Int} {key v : Value} {x : DictEntry} {es : List DictEntry} {m : Nat} {t : Tok} (hk : x.key = .str (fname m) t) : putL (fname f) hsh key v (x :: es) = if (fname m == fname f) = true then { x with val := v } :: es else x :: putL (fname f) hsh key v es := by
  show (if x.key.isStr (fname f) = true then _ else _) = _
  rw [hk, isStr_str]
theorem ents_put {f : Nat} (hf : f < 22) {hsh : Int} {key v : Value} {t : Tok} (hkey : key = .str (fname f) t) {ns : List Nat} {es : List DictEntry} (h : Ents ns es) : ∀ {k : Nat}, (∀ m ∈ ns, m < 22) → posOf f ns = some k → k ≤ es.length →
    Ents ns (putL (fname f) hsh key v es) ∧ (putL (fname f) hsh key v es).map (·.val) = (if k < es.length then (es.map (·.val)).set k v else es.map (·.val) ++ [v]) ∧ (putL (fname f) hsh key v es).length ≤ es.length + 1 := by
  induction h with
  | @nil ns =>
    intro k hm e hle
    obtain rfl := Nat.le_zero.mp hle
    cases ns with
    | nil => exact no_some e
    | cons m ns =>
      by_cases h : f = m
      · exact ⟨.cons (h ▸ hkey) .nil, rfl, Nat.le_refl _⟩
      · exact oh_elim ((if_neg h).symm.trans e) fun k' _ e => absurd (Option.some.inj e) (Nat.succ_ne_zero _)
  | @cons m ns x es t' hk r ih =>
    intro k hm e hle
    rw [putL_cons hk]
    by_cases h : f = m
    · have e : some 0 = some k := (if_pos h).symm.trans e
      obtain rfl := Option.some.inj e
      rw [if_pos (h ▸ beq_self_eq_true _)]
      exact ⟨.cons hk r, rfl, Nat.le_succ _⟩
    · rw [if_neg fun q => h (fname_inj _ (hm m List.mem_cons_self) _ hf (eq_of_beq q)).symm]
      refine oh_elim ((if_neg h).symm.trans e) fun k' e' e => ?_
      obtain rfl := Option.some.inj e
      obtain ⟨i1, i2, i3⟩ := ih (fun m hm' => hm m (List.mem_cons_of_mem _ hm')) e' (Nat.le_of_succ_le_succ hle)
      refine ⟨.cons hk i1, ?_, Nat.succ_le_succ i3⟩
      rw [List.map_cons, i2]
      by_cases hlt : k' < es.length
      · rw [if_pos hlt, if_pos (show k' + 1 < (x :: es).length from Nat.succ_lt_succ hlt)]; rfl
      · rw [if_neg hlt, if_neg (show ¬ k' + 1 < (x :: es).length from fun q => hlt (Nat.lt_of_succ_lt_succ q))]; rfl
theorem ents_len {ns : List Nat} {es : List DictEntry} (h : Ents ns es) : es.length ≤ ns.length := by
  induction h with
  | nil => exact Nat.zero_le _
  | cons _ _ ih => exact Nat.succ_le_succ ih

theorem line_1000 {k : Nat} (h : k ≤ 1000) : k ≤ sizeLine := le_line (Nat.le_trans h (by decide))
theorem osa_here {prog : Program} {w : World} {A : Around} {x dx Cc : Addr} {ox : Obj} {name : Str} {tk : Tok} {v : Value} {es : List DictEntry} {m : Nat} {R : Result → Shared → Prop} (Xk : K.In s.heap) (I : InstAt s.heap x ox Cc (some (dictOf es m))) (hd : ox.dict = some dx) (hD : s.heap.get? dx = some (dictOf es m))
    (hp : plainOver K Cc = true) (ht : takerIn K Cc name = some none) (hh : hasDictIn K Cc = true) (hl : es.any (·.refKey) = false) (hz : (putL name (PyData.keyHash w.params name) (.str name s.toks) v es).length ≤ 1000)
    (h : ∀ h', Heap.SameBut dx s.heap h' → h'.get? dx = some (dictOf (putL name (PyData.keyHash w.params name) (.str name s.toks) v es) (putN name es m)) → R (.ok (.ret .none)) { s with heap := h', toks := s.toks + 1 }) :
    codeAny (model prog w) A (.call (.builtin "object.__setattr__") ⟨[.ref x, .str name tk, v], []⟩) R s := by
  refine osa_open Xk I hp ht fun bb => ?_
  obtain ⟨cd, hc, hd'⟩ := any_some hh
  obtain ⟨hx, hcl, hn, -⟩ := I
  obtain ⟨oc, odi, oda, osl⟩ := ox
  dsimp only at hcl hd
  subst hcl hd
  refine wpAny_bind (wpAny_pure (wpAny_bind (wpAny_bind (wpAny_loadPart hx (wpAny_bind ((looks_clsIn Xk hc).here ?_))))))
  rw [hd']
  refine wpAny_pure (a := some dx) (wpAny_bind (wpAny_pure (wpAny_bind ?_)))
  have D' : (s.heap.update dx (Obj.putName name (PyData.keyHash w.params name) (.str name s.toks) v)).get? dx = some (dictOf (putL name (PyData.keyHash w.params name) (.str name s.toks) v es) (putN name es m)) := by
    rw [Heap.get?_update_self _ hD (by rw [putName_dict]; rfl), putName_dict]
  unfold nsSet
  refine wpAny_bind (wpAny_bind (wpAny_askSetting (wpAny_pure (wpAny_bind (wpAny_mkText (wpAny_bind (wpAny_loadPart hD ?_)))))))
  dsimp only [dictOf]
  have c : (!es.toArray.any (·.key.isStr name) && es.toArray.any (·.refKey)) = false := by
    simp only [List.any_toArray, hl, Bool.and_false]
  rw [aRefKeyMayBeTheName_at, c]
  refine wpAny_updatePart hD ?_
  refine wpAny_bind (wpAny_lookBehind D' (pastItsLine_dict (Nat.le_succ_of_le (line_1000 hz))) ?_)
  exact wpAny_pure (h _ (Heap.SameBut.update ..) D')
end Mine
end

/-! ### Sound6b -/
section
set_option tactic.hygienic false
set_option genSizeOf false
set_option bootstrap.genMatcherCode false
open PySem PySem.W PyProof.Rows PySem.Calls PySem.SeqAt
set_option linter.unusedVariables false
set_option linter.unusedSimpArgs false
set_option maxRecDepth 100000
namespace Mine
variable {b : Base} {ns : List Int} {K : Frag} {mg mb : Str → Option Value} {B₀ B₁ : Addr → Prop} {sc sc' : Scope} {T : List Slot} {env : Env} {ρ ρ' : List V} {μ μ' μ'' : Mu} {H H' H'' : List O} {s s' s'' : Shared} {C : Calls'} {n : Nat} {W : Addr → Prop}

/-- values of a place that is turned: they live on -/
theorem vr_upd {l : Nat} {p : Addr × Addr} {o o' : O} {h' : Heap} (hp : μ[l]? = some p) (ho : H[l]? = some o) (hl : o.live = true) (k : ∀ a ob, a ≠ p.1 → a ≠ p.2 → s.heap.get? a = some ob → h'.get? a = some ob) {v : V} {rv : Value} (h : VR b.scr μ (Bad B₀ μ H) s.heap v rv) :
    VR b.scr μ (Bad B₀ μ (H.set l o')) h' v rv := by
  refine VR.lift (fun a ob e nb => ⟨k a ob (fun z => nb (.inr ⟨l, p, o, hp, ho, hl, .inl z⟩)) (fun z => nb (.inr ⟨l, p, o, hp, ho, hl, .inr z⟩)) e, fun z => nb (z.imp id (live_set ho hl))⟩) (fun _ _ e => e) h

theorem taker_none (ok : Ok b ns K mg mb) {c f : Nat} (hc : c < 3) (hf : f ∈ fieldsOf c) : takerIn K (clsAddr c) (fname f) = some none := by
  unfold takerIn
  rw [ok.kf.fl c hc f hf]; rfl

theorem fields_len : ∀ c < 3, (fieldsOf c).length ≤ 1000 := by decide
theorem setAO_elim {P : Prop} {f : Nat} {v : V} {o o' : O} (h : setAO f v o = some o') (k : ∀ c fs j, o = .obj c fs → fpos c f = some j → j ≤ fs.length → o' = .obj c (if j < fs.length then fs.set j v else fs ++ [v]) → P) : P := by
  cases o with
  | obj c fs =>
    refine oh_elim h fun j e h => ?_
    by_cases hj : j < fs.length
    · exact k c fs j rfl e (Nat.le_of_lt hj) ((Option.some.inj ((if_pos hj).symm.trans h)).symm.trans (by rw [if_pos hj]))
    · exact if_elim ((if_neg hj).symm.trans h) fun q h => k c fs j rfl e (Nat.le_of_eq q) ((Option.some.inj h).symm.trans (by rw [if_neg hj]))
  | _ => exact no_some h
theorem setA_ok (ok : Ok b ns K mg mb) {f : Nat} {v u : V} {rv ru : Value} (h : setAV H f v u = some H') (S : St b B₀ μ H s.heap) (hv : VR b.scr μ (Bad B₀ μ H) s.heap v rv) (hu : VR b.scr μ (Bad B₀ μ H) s.heap u ru) {A : Around} {Q : Unit → Shared → Prop} {E : Value → Shared → Prop}
    (hQ : ∀ s', Step b B₀ μ H s μ H' s' → Q () s') : wpAny (model b.prog b.w) A (setAttr ru (fname f) rv) Q E s := by
  refine lv_elim (R := fun u => VR b.scr μ (Bad B₀ μ H) s.heap u ru → wpAny (model b.prog b.w) A (setAttr ru (fname f) rv) Q E s) h (fun l h hu => oh_elim h fun o' eo h => setAO_elim eo fun c fs k e ek hk' eo' => ?_) hu
  clear eo
  obtain ⟨p, hp, rfl⟩ := hu
  have hH := getO_get e rfl
  obtain ⟨hc, es, m, g1, g2, g3, g4⟩ := S.objs l p _ hp hH
  have hf := posOf_mem ek
  have hlen : fs.length = es.length := g4.length.trans (List.length_map ..)
  have I : InstAt s.heap p.1 (instObj (clsAddr c) p.2) (clsAddr c) (some (dictOf es m)) := ⟨g1, rfl, rfl, g2⟩
  refine set_plain (ok.X.keeps S.base) I (ok.kf.sa c hc) ?_
  have i := ents_put (v := rv) (fields_lt c hc f hf) (hsh := PyData.keyHash b.w.params (fname f)) (key := .str (fname f) (s.toks + 1)) rfl g3 (fields_lt c hc) ek (hlen ▸ hk')
  refine osa_here (s := { s with toks := s.toks + 1 }) (ok.X.keeps S.base) I rfl g2 (ok.kf.po c hc) (taker_none ok hc hf) (ok.kf.hd c hc) (ents_str g3) (Nat.le_trans (ents_len i.1) (fields_len c hc)) fun h' hs hd => hQ _ ?_
  have kk : ∀ a ob, a ≠ p.1 → a ≠ p.2 → s.heap.get? a = some ob → h'.get? a = some ob := fun a ob n1 n2 e => hs.extBut a ob n2 e
  have hne : p.1 ≠ p.2 := fun z => by rw [z] at g1; exact no_some (show none = some p.2 from (congrArg Obj.dict (get_inj g2 g1)))
  obtain rfl := eo'
  obtain rfl := Option.some.inj h
  refine Step.upd S hp hH rfl kk (Nat.le_of_eq hs.1.symm) rfl rfl ⟨hc, _, _, hs.extBut _ _ hne g1, hd, i.1, ?_⟩
  refine All2.imp (fun v rv x => vr_upd hp hH rfl kk x) ?_
  rw [i.2.1, hlen]
  by_cases hlt : k < es.length
  · rw [if_pos hlt, if_pos hlt]; exact g4.set hv
  · rw [if_neg hlt, if_neg hlt]; exact g4.append (.cons hv .nil)

theorem setItem_plain {l : Addr} {items : List Value} {k : Int} {t : Tok} {v : Value} {A : Around} {Q : Unit → Shared → Prop} {E : Value → Shared → Prop} (hl : s.heap.PlainList l items.toArray) (h0 : 0 ≤ k) (hfit : k < 2 ^ 63) (hn : k < items.length)
    (hQ : ∀ h', h'.PlainList l (items.set k.toNat v).toArray → Heap.SameBut l s.heap h' → Q () { s with heap := h' }) : wpAny (model b.prog b.w) A (setItem (.ref l) (.int k t) v) Q E s := by
  obtain ⟨c, ho⟩ := id hl
  have hT := hl.isList.typeIs
  unfold setItem
  try with_reducible refine wpAny_holding ?_
  first | refine wpAny_bind (wpAny_pure ?_) | skip
  refine wpAny_bind (wpAny_sequenceKey hT (by decide) ?_)
  refine wpAny_bind (wpAny_callSpecial?_slot (name := Str.ofString "__setitem__") hT slot_list_setitem (wpAny_call_entry slot_list_setitem hT entry_list_setitem ?_ (args_list_setitem _ _ _)))
  show wpAny _ _ (Builtin.List.listSubscript? (.int k t) >>= _) _ _ s
  refine wpAny_bind (wpAny_listSubscript_int (fitsIndex_of h0 hfit) ?_)
  clear hfit
  obtain ⟨j, rfl⟩ := Int.eq_ofNat_of_zero_le h0
  have hj : j < items.length := by omega
  have hx' : items.toArray[j]? = some items[j] := by simp [hj]
  show wpAny _ _ ((seqItemAt l j >>= fun r => pure (r.map (j, ·))) >>= _) _ _ s
  refine wpAny_bind (wpAny_bind (wpAny_seqItemAt ho rfl (wpAny_pure ?_)))
  rw [hx']
  show wpAny _ _ (setSeqItemAt l j v >>= _) _ _ s
  have e : Obj.mapSeq (·.setIfInBounds j v) { cls := .type "list", data := .seq items.toArray c } = { cls := .type "list", data := .seq (items.set j v).toArray c } := by simp [Obj.mapSeq]
  have hfin : (s.heap.update l (Obj.mapSeq (·.setIfInBounds j v))).PlainList l (items.set j v).toArray := ⟨c, by rw [Heap.get?_update_self _ ho (by rw [e]; rfl), e]⟩
  refine wpAny_bind (wpAny_setSeqItemAt ho rfl ?_)
  first
    | exact wpAny_bind (wpAny_pure (wpAny_pure ⟨.none, rfl, wpAny_pure (hQ _ hfin (Heap.SameBut.update ..))⟩))
    | exact wpAny_pure ⟨.none, rfl, wpAny_pure (hQ _ hfin (Heap.SameBut.update ..))⟩

set_option tactic.hygienic true in
theorem all2_stored {R : V → Value → Prop} {k : Int} {v : V} {rv : Value} (hv : R v rv) {kvs : List (Int × V)} {ps : List (Int × Value)} (f : All2 (fun a c => a.1 = c.1 ∧ R a.2 c.2) kvs ps) : All2 (fun a c => a.1 = c.1 ∧ R a.2 c.2) (putI k v kvs) (stored ps k rv) := by
  have hany : kvs.any (fun p => decide (p.1 = k)) = ps.any (fun p => decide (p.1 = k)) := by
    induction f with
    | nil => rfl
    | cons r f ih => rw [List.any_cons, List.any_cons, ih, r.1]
  unfold putI stored
  rw [hany]
  split
  · rename_i hx; clear hx hany
    induction f with
    | nil => exact .nil
    | cons r f ih =>
      rename_i a c as cs
      simp only [List.map_cons]
      refine .cons ?_ ih
      by_cases hk : a.1 = k
      · rw [if_pos hk, if_pos (r.1 ▸ hk)]; exact ⟨r.1, hv⟩
      · rw [if_neg hk, if_neg (r.1 ▸ hk)]; exact r
  · exact f.append (.cons ⟨rfl, hv⟩ .nil)
theorem stored_len {ps : List (Int × Value)} {k : Int} {rv : Value} : (stored ps k rv).length ≤ ps.length + 1 := by
  unfold stored
  split <;> simp

theorem setIO_elim {P : Prop} {i : Int} {v : V} {o o' : O} (h : setIO i v o = some o') (k1 : ∀ xs, o = .lst xs → 0 ≤ i ∧ i < xs.length → o' = .lst (xs.set i.toNat v) → P) (k2 : ∀ kvs, o = .dict kvs → kvs.length < big → o' = .dict (putI i v kvs) → P) : P := by
  cases o with
  | lst xs => exact if_elim h fun q h => k1 xs rfl q (Option.some.inj h).symm
  | dict kvs => exact if_elim h fun q h => k2 kvs rfl q (Option.some.inj h).symm
  | _ => exact no_some h
theorem setI_ok (ok : Ok b ns K mg mb) {v u j : V} {rv ru rj : Value} (h : setIV H v u j = some H') (S : St b B₀ μ H s.heap) (hv : VR b.scr μ (Bad B₀ μ H) s.heap v rv) (hu : VR b.scr μ (Bad B₀ μ H) s.heap u ru) (hj : VR b.scr μ (Bad B₀ μ H) s.heap j rj) {A : Around} {Q : Unit → Shared → Prop} {E : Value → Shared → Prop}
    (hQ : ∀ s', Step b B₀ μ H s μ H' s' → Q () s') : wpAny (model b.prog b.w) A (setItem ru rj rv) Q E s := by
  refine lv_elim (R := fun u => VR b.scr μ (Bad B₀ μ H) s.heap u ru → wpAny (model b.prog b.w) A (setItem ru rj rv) Q E s) h (fun l h hu => iv_elim (R := fun j => VR b.scr μ (Bad B₀ μ H) s.heap j rj → wpAny (model b.prog b.w) A (setItem ru rj rv) Q E s) h (fun i h hj => oh_elim h fun o' eo h => fr_int hj fun t => ?_) hj) hu
  clear hj
  obtain ⟨p, hp, rfl⟩ := hu
  obtain rfl := Option.some.inj h
  refine setIO_elim eo (fun xs e h0 eo' => ?_) fun kvs e hb eo' => ?_
  · have hH := getO_get e rfl
    obtain ⟨e2, vs, hl, z, f⟩ := S.objs l p _ hp hH
    have hi : i < vs.length := f.length ▸ h0.2
    refine setItem_plain hl h0.1 (Int.lt_trans hi (line_lt z)) hi fun h' hp' hs => hQ _ ?_
    have kk : ∀ a ob, a ≠ p.1 → a ≠ p.2 → s.heap.get? a = some ob → h'.get? a = some ob := fun a ob n1 n2 e => hs.extBut a ob n1 e
    exact eo' ▸ Step.upd S hp hH rfl kk (Nat.le_of_eq hs.1.symm) rfl rfl ⟨e2, _, hp', List.length_set.symm ▸ z, (f.set hv).imp fun v rv x => vr_upd hp hH rfl kk x⟩
  · have hH := getO_get e rfl
    obtain ⟨e2, ps, hd, z, f⟩ := S.objs l p _ hp hH
    refine wpAny_setItem_pairs (intKind_is _ _ _ _) hd (fun h' hd' hs => hQ _ ?_) z
    have kk : ∀ a ob, a ≠ p.1 → a ≠ p.2 → s.heap.get? a = some ob → h'.get? a = some ob := fun a ob n1 n2 e => hs.extBut a ob n1 e
    exact eo' ▸ Step.upd S hp hH rfl kk (Nat.le_of_eq hs.1.symm) rfl rfl ⟨e2, _, hd', le_line (Nat.le_trans stored_len (Nat.succ_le_of_lt (f.length ▸ hb))), (all2_stored hv f).imp fun v rv x => ⟨x.1, vr_upd hp hH rfl kk x.2⟩⟩

/-- append -/
theorem app_ok {l : Nat} {p : Addr × Addr} {xs : List V} {v : V} {rv : Value} (S : St b B₀ μ H s.heap) (hp : μ[l]? = some p) (e : getO H l = .lst xs) (hb : xs.length < big) (hv : VR b.scr μ (Bad B₀ μ H) s.heap v rv) {A : Around} {Q : Value → Shared → Prop} {E : Value → Shared → Prop}
    (hQ : ∀ s', Step b B₀ μ H s μ (H.set l (.lst (xs ++ [v]))) s' → Q .none s') : wpAny (model b.prog b.w) A (call (.builtin "list.append") [.ref p.1, rv]) Q E s := by
  have hH := getO_get e rfl
  obtain ⟨e2, vs, hl, z, f⟩ := S.objs l p _ hp hH
  refine wpAny_list_append_plain hl (fun h' hp' hs => hQ _ ?_) z
  have kk : ∀ a ob, a ≠ p.1 → a ≠ p.2 → s.heap.get? a = some ob → h'.get? a = some ob := fun a ob n1 n2 e => hs.extBut a ob n1 e
  exact Step.upd S hp hH rfl kk (Nat.le_of_eq hs.1.symm) rfl rfl ⟨e2, vs ++ [rv], List.push_toArray .. ▸ hp', le_line (Nat.le_trans (Nat.le_of_eq List.length_append) (Nat.succ_le_of_lt (f.length ▸ hb))), (f.append (.cons hv .nil)).imp fun v rv x => vr_upd hp hH rfl kk x⟩
end Mine
end

/-! ### Sound6c -/
section
set_option tactic.hygienic false
set_option genSizeOf false
set_option bootstrap.genMatcherCode false
open PySem PySem.W PyProof.Rows PySem.Calls PySem.SeqAt
set_option linter.unusedVariables false
set_option linter.unusedSimpArgs false
set_option maxRecDepth 100000
namespace Mine
variable {b : Base} {ns : List Int} {K : Frag} {mg mb : Str → Option Value} {B₀ B₁ : Addr → Prop} {sc sc' : Scope} {T : List Slot} {env : Env} {ρ ρ' : List V} {μ μ' μ'' : Mu} {H H' H'' : List O} {s s' s'' : Shared} {C : Calls'} {n : Nat} {W : Addr → Prop}

/-! ## what is said of statements -/
noncomputable def FlR (scr : Addr) (μ : Mu) (B : Addr → Prop) (h : Heap) : Fl → Flow → Prop
  | .next, f => f = .next
  | .ret v, f => ∃ rv, f = .ret rv ∧ VR scr μ B h v rv
noncomputable def ExG (b : Base) (n : Nat) (sc : Scope) (T : List Slot) (ss : List Stmt) (ρ : List V) (H : List O) (fl : Fl) (ρ' : List V) (H' : List O) : Prop :=
  ∀ ⦃A : Around⦄ {s : Shared} {μ : Mu} {B₀ : Addr → Prop} {env : Env}, Room A n → St b B₀ μ H s.heap → Slots b B₀ sc T env ρ μ H s.heap → Fix T env →
  ∀ {Q : Flow → Shared → Prop} {E : Value → Shared → Prop}, (∀ f s' μ', StepF (Own env) b B₀ μ H s μ' H' s' → Slots b B₀ sc T env ρ' μ' H' s'.heap → FlR b.scr μ' (Bad B₀ μ' H') s'.heap fl f → Q f s') → wpAny (model b.prog b.w) A (execs ss env) Q E s
noncomputable def ExOK (b : Base) (ns : List Int) (C : Calls') (n : Nat) (st : S) : Prop := ∀ {sc : Scope} {T : List Slot} {ss : List Stmt}, mSs sc T st ss = true → ∀ {ρ : List V} {H : List O} {fl : Fl} {ρ' : List V} {H' : List O}, exec ns C st ρ H = some (fl, ρ', H') → ExG b n sc T ss ρ H fl ρ' H'
noncomputable def StG (b : Base) (n : Nat) (sc : Scope) (T : List Slot) (ss : Stmt) (ρ : List V) (H : List O) (fl : Fl) (ρ' : List V) (H' : List O) : Prop :=
  ∀ ⦃A : Around⦄ {s : Shared} {μ : Mu} {B₀ : Addr → Prop} {env : Env}, Room A n → St b B₀ μ H s.heap → Slots b B₀ sc T env ρ μ H s.heap → Fix T env →
  ∀ {Q : Flow → Shared → Prop} {E : Value → Shared → Prop}, (∀ f s' μ', StepF (Own env) b B₀ μ H s μ' H' s' → Slots b B₀ sc T env ρ' μ' H' s'.heap → FlR b.scr μ' (Bad B₀ μ' H') s'.heap fl f → Q f s') → wpAny (model b.prog b.w) A (PySem.exec ss env) Q E s
noncomputable def StOK (b : Base) (ns : List Int) (C : Calls') (n : Nat) (st : S) : Prop := ∀ {sc : Scope} {T : List Slot} {ss : Stmt}, mS sc T st ss = true → ∀ {ρ : List V} {H : List O} {fl : Fl} {ρ' : List V} {H' : List O}, exec ns C st ρ H = some (fl, ρ', H') → StG b n sc T ss ρ H fl ρ' H'

theorem Slots.stepL (L : Slots b B₀ sc T env ρ μ H s.heap) (hl : ∀ a, Own env a → ¬ Live μ H a) (P : Step b B₀ μ H s μ' H' s') : Slots b B₀ sc T env ρ μ' H' s'.heap where
  eok := L.eok
  own := L.own
  ownC := L.ownC
  len := L.len
  ns := by
    obtain ⟨m, hn, hm⟩ := L.ns
    refine ⟨m, hn.at' fun o e => P.keep _ o e (hl _ (.inl rfl)), fun i x v h1 h2 h3 => ?_⟩
    obtain ⟨rv, e, r⟩ := hm i x v h1 h2 h3
    exact ⟨rv, e, VR.step P r⟩
  cs := fun i x h1 => by
    obtain ⟨c, v₀, e, ⟨o, ho, hd⟩, hv⟩ := L.cs i x h1
    refine ⟨c, v₀, e, ⟨o, P.keep _ o ho (hl _ (.inr ⟨x, e⟩)), hd⟩, fun v h2 h3 => ?_⟩
    obtain ⟨rv, e', r⟩ := hv v h2 h3
    exact ⟨rv, e', VR.step P r⟩
theorem Slots.less {h : Heap} (L : Slots b B₁ sc T env ρ μ H h) (hB : ∀ a, B₀ a → B₁ a) (ho : ∀ a, Own env a → B₀ a) : Slots b B₀ sc T env ρ μ H h where
  eok := L.eok
  own := ho _ (.inl rfl)
  ownC := fun x c e => ho _ (.inr ⟨x, e⟩)
  len := L.len
  ns := by
    obtain ⟨m, hn, hm⟩ := L.ns
    refine ⟨m, hn, fun i x v h1 h2 h3 => ?_⟩
    obtain ⟨rv, e, r⟩ := hm i x v h1 h2 h3
    exact ⟨rv, e, VR.less hB r⟩
  cs := fun i x h1 => by
    obtain ⟨c, v₀, e, hc, hv⟩ := L.cs i x h1
    refine ⟨c, v₀, e, hc, fun v h2 h3 => ?_⟩
    obtain ⟨rv, e', r⟩ := hv v h2 h3
    exact ⟨rv, e', VR.less hB r⟩
/-- the frame's own slots through a step of statements of its own -/
theorem Slots.move (L : Slots b B₀ sc T env ρ μ H s.heap) (S : St b B₀ μ H s.heap) (P : Step b B₀ μ H s μ' H' s') : Slots b B₀ sc T env ρ μ' H' s'.heap := L.step S P

/-! ## one name -/
theorem swaps_plain' {v : Expr} {t : Option Expr} {l : Nat} {env : Env} : notComp v = true → swapsWith v t l env = pure false := by
  cases v <;> first | exact fun _ => rfl | exact fun h => ff_elim h
theorem swaps_plain {v : Expr} (h : notComp v = true) (t : Option Expr) (l : Nat) (env : Env) : swapsWith v t l env = pure false := swaps_plain' h
theorem swaps_name {v : Expr} {y : Str} {p : Pos} {l : Nat} {env : Env} : ∃ c, swapsWith v (some (.Name y p)) l env = pure c := by
  cases v <;> exact ⟨_, rfl⟩
theorem swaps_attr {v o : Expr} {y : Str} {p : Pos} {l : Nat} {env : Env} : swapsWith v (some (.Attribute o y p)) l env = pure false := by
  cases v <;> rfl
theorem swaps_sub {v o i : Expr} {p : Pos} {l : Nat} {env : Env} : swapsWith v (some (.Subscript o i p)) l env = pure false := by
  cases v <;> rfl

theorem asg_comp (ok : Ok b ns K mg mb) (hC : CallsOk b C n) {i : Nat} {x : X} {v : Expr} {y : Str} {k : NameKind} {py p : Pos} {u : V} {H1 : List O} (hcx : isCompX x = true) (h3 : mX sc T x v = true) (hT : T[i]? = some (some (y, k))) (hk : sc.names.lookup y = some k) (hkk : k = .local ∨ k = .cell)
    (hc : swapsWith v ([Expr.Name y py].head?) p.line env = pure true) (e1 : ev ns C x ρ H = some (u, H1)) {A : Around} (hr : Room A n) (S : St b B₀ μ H s.heap) (L : Slots b B₀ sc T env ρ μ H s.heap) (X : Fix T env) {Q : Flow → Shared → Prop} {E : Value → Shared → Prop}
    (hQ : ∀ f s' μ', StepF (Own env) b B₀ μ H s μ' H1 s' → Slots b B₀ sc T env (ρ.set i u) μ' H1 s'.heap → FlR b.scr μ' (Bad B₀ μ' H1) s'.heap .next f → Q f s') : wpAny (model b.prog b.w) A (PySem.exec (.Assign [.Name y py] v p) env) Q E s := by
  refine isCompX_elim (R := fun x => mX sc T x v = true → ev ns C x ρ H = some (u, H1) → wpAny (model b.prog b.w) A (PySem.exec (.Assign [.Name y py] v p) env) Q E s) hcx (fun kk it cond elt n3 ne => ?_) h3 e1
  clear hcx h3 e1
  refine ob5_elim (mX_comp_eq.symm.trans n3) fun ee te ie ifs sc' he hm => ob1_elim hm fun t ht hm => and_elim hm fun hm g5 => and_elim hm fun hm g4 => and_elim hm fun hm g3 => and_elim hm fun g1 g2 => ?_
  refine asComp_elim (R := fun v => swapsWith v (some (.Name y py)) p.line env = pure true → wpAny (model b.prog b.w) A (PySem.exec (.Assign [.Name y py] v p) env) Q E s) he (fun p' => asName_elim (R := fun te => swapsWith (.ListComp ee [⟨te, ie, ifs, 0⟩] sc' p') (some (.Name y py)) p.line env = pure true → wpAny (model b.prog b.w) A (PySem.exec (.Assign [.Name y py] (.ListComp ee [⟨te, ie, ifs, 0⟩] sc' p') p) env) Q E s) ht fun px hc' => ?_) hc
  clear he ht hm hc
  rw [exec_Assign_Name_used _ _ _ _ hc']
  refine wpAny_bind (wpAny_standAt (wpAny_bind ?_))
  show wpAny _ A (do let _ ← comprehension (.ListComp ee [⟨.Name t px, ie, ifs, 0⟩] sc' p') sc' env _ (newList []) false (eval ie env) (some (assign (.Name y py) env))) _ _ s
  refine wpAny_bind (wpAny_mono (comp_any (Q := fun _ s' => Q .next s') ok (x_ok ok hC it).1 (x_ok ok hC elt).1 (xs_ok ok hC cond).2.2.2 g1 (dec_elim g2) g3 g4 g5 ne hr S L (use := some (assign (.Name y py) env)) fun xs Dd Cc μ2 s2 e Z => ?_) (fun _ s' hq => wpAny_pure (wpAny_pure hq)) fun _ _ e => e)
  subst e
  have hW := own_priv L
  have nl : ∀ a, Own env a → ¬ Live μ H a := fun a w l => (l.lt S).2.2 (hW a w)
  have nC : ∀ a, Own env a → a ≠ Cc := fun a w z => by subst z; exact Nat.lt_irrefl _ (Nat.lt_of_lt_of_le (S.bad0 _ (hW _ w)).2 Z.le)
  have L0 : Slots b (fun a => B₀ a ∨ a = Cc) sc T env ρ μ H s.heap := L.more (fun _ _ e => e) (fun a z => .inl z) fun a (z : B₀ a ∨ a = Cc) => z.imp id fun (z : a = Cc) => (by rw [z]; exact Z.le)
  have L2 := L0.stepL nl Z.step
  show wpAny _ A (assign (.Name y py) env (.ref Dd)) _ _ _
  refine wpAny_assign_Name (store_slot hT hk hkk Z.step.st L2 X (v := .d (.lst xs)) Z.fr fun s3 P3 L3 => ?_)
  obtain ⟨m, hn⟩ := Z.ns
  have hCl : ¬ Live μ2 H1 Cc := fun l => (l.lt Z.step.st).2.2 (.inr rfl)
  refine ⟨m, hn.at' fun o e => P3.keep _ o e hCl fun w => nC _ w rfl, fun h4 hs4 => ?_⟩
  have P4 : StepF (fun a => a = Cc) b (fun a => B₀ a ∨ a = Cc) μ2 H1 s3 μ2 H1 { s3 with heap := h4 } := StepF.priv P3.st (fun a w => .inr w) (fun a o w e => hs4.extBut a o w e) (Nat.le_of_eq hs4.1.symm) rfl rfl
  have L4 := L3.stepF P3.st P4 (fun a w => .inr w) (fun w => nC _ (.inl rfl) w) fun x c e w => nC _ (.inr ⟨x, e⟩) w
  have P5 : StepF (fun a => Own env a ∨ a = Cc) b (fun a => B₀ a ∨ a = Cc) μ H s μ2 H1 { s3 with heap := h4 } := (Z.step.f.trans (P3.mono fun a w => .inl w)).trans (P4.mono fun a w => .inr w)
  have P6 := P5.less (B₀ := B₀) fun a z => .inl z
  refine hQ _ _ μ2 ⟨P6.st, P6.ext, fun a o e l w => P6.keep a o e l fun z => z.elim w fun z => ?_, P6.fresh, P6.size, P6.gens, P6.os⟩ (L4.less (fun a z => .inl z) hW) rfl
  subst z
  exact Nat.lt_irrefl _ (Nat.lt_of_lt_of_le (Heap.lt_size e) Z.le)
theorem pure_ft : (pure false : Sem Bool) ≠ pure true := fun h => nomatch (Sem.pure.inj h)
theorem st_asg (ok : Ok b ns K mg mb) (hC : CallsOk b C n) {i : Nat} {x : X} : StOK b ns C n (.asg i x) := by
  intro sc T ss hm ρ H fl ρ' H' hv
  refine ob3_elim (mS_asg_eq.symm.trans hm) fun t v p hs hm => and_elim hm fun hm h3 => and_elim hm fun h1 h2 => sAssign_elim (R := fun ss => StG b n sc T ss ρ H fl ρ' H') hs ?_
  refine isSlot_elim (R := fun t => StG b n sc T (.Assign [t] v p) ρ H fl ρ' H') h1 fun y k py hT hk hkk => ?_
  refine vh_elim (ex_asg_eq.symm.trans hv) fun u H1 e1 hv => if_elim hv fun hi hv => st_elim hv ?_
  intro A s μ B₀ env hr S L X Q E hQ
  obtain ⟨c, hc⟩ := swaps_name (v := v) (y := y) (p := py) (l := p.line) (env := env)
  cases c with
  | false =>
    refine wpAny_Assign_Name (x_ok ok hC x |>.1 h3 e1 hr S L fun rv s1 μ1 P1 V1 => ?_) hc
    exact store_slot hT hk hkk P1.st (L.step S P1) X V1 fun s2 P2 L2 => hQ _ s2 μ1 (P1.f.trans P2) L2 rfl
  | true =>
    have hcx : isCompX x = true := by
      exact bor_elim h2 (fun h2 => absurd ((swaps_plain' h2).symm.trans hc) pure_ft) id
    exact asg_comp ok hC hcx h3 hT hk hkk hc e1 hr S L X hQ

theorem st_setA (ok : Ok b ns K mg mb) (hC : CallsOk b C n) {o : X} {f : Nat} {x : X} : StOK b ns C n (.setA o f x) := by
  intro sc T ss hm ρ H fl ρ' H' hv
  refine ob3_elim (mS_setA_eq.symm.trans hm) fun t v p hs hm => ob2_elim hm fun oe a ha hm => and_elim hm fun hm h2 => and_elim hm fun hm h1 => and_elim hm fun q hf => sAssign_elim (R := fun ss => StG b n sc T ss ρ H fl ρ' H') hs ?_
  refine asAttr_elim (R := fun t => StG b n sc T (.Assign [t] v p) ρ H fl ρ' H') ha fun p' => ?_
  obtain rfl := dec_elim q
  refine vh_elim (ex_setA_eq.symm.trans hv) fun v' H1 e1 hv => vh_elim hv fun u H2 e2 hv => oh_elim hv fun H3 e3 hv => st_elim hv ?_
  intro A s μ B₀ env hr S L X Q E hQ
  refine plainObj_wpAny_Assign_Attribute ((x_ok ok hC x).1 h2 e1 hr S L fun rv s1 μ1 P1 V1 => (x_ok ok hC o).1 h1 e2 hr P1.st (L.step S P1) fun ru s2 μ2 P2 V2 => ?_) swaps_attr
  exact setA_ok ok e3 P2.st (VR.step P2 V1) V2 fun s3 P3 => hQ _ s3 μ2 ((P1.trans P2).trans P3).f (((L.step S P1).step P1.st P2).step P2.st P3) rfl
theorem st_setI (ok : Ok b ns K mg mb) (hC : CallsOk b C n) {o i x : X} : StOK b ns C n (.setI o i x) := by
  intro sc T ss hm ρ H fl ρ' H' hv
  refine ob3_elim (mS_setI_eq.symm.trans hm) fun t v p hs hm => ob2_elim hm fun oe ie ha hm => and_elim hm fun hm h3 => and_elim hm fun hm h2 => and_elim hm fun h0 h1 => sAssign_elim (R := fun ss => StG b n sc T ss ρ H fl ρ' H') hs ?_
  refine asSub_elim (R := fun t => StG b n sc T (.Assign [t] v p) ρ H fl ρ' H') ha fun p' => ?_
  refine vh_elim (ex_setI_eq.symm.trans hv) fun v' H1 e1 hv => vh_elim hv fun u H2 e2 hv => vh_elim hv fun j H3 e3 hv => oh_elim hv fun H4 e4 hv => st_elim hv ?_
  intro A s μ B₀ env hr S L X Q E hQ
  refine wpAny_Assign_Subscript ((x_ok ok hC x).1 h3 e1 hr S L fun rv s1 μ1 P1 V1 => (x_ok ok hC o).1 h1 e2 hr P1.st (L.step S P1) fun ru s2 μ2 P2 V2 => (x_ok ok hC i).1 h2 e3 hr P2.st ((L.step S P1).step P1.st P2) fun rj s3 μ3 P3 V3 => ?_) swaps_sub
  exact setI_ok ok e4 P3.st (VR.step (P2.trans P3) V1) (VR.step P3 V2) V3 fun s4 P4 => hQ _ s4 μ3 (((P1.trans P2).trans P3).trans P4).f ((((L.step S P1).step P1.st P2).step P2.st P3).step P3.st P4) rfl
theorem inter_false (L : EnvOk sc env) : interactive env = false := by
  unfold interactive
  rw [L.scope, L.kind]; rfl
theorem st_app (ok : Ok b ns K mg mb) (hC : CallsOk b C n) {o x : X} : StOK b ns C n (.app o x) := by
  intro sc T ss hm ρ H fl ρ' H' hv
  refine ob1_elim (mS_app_eq.symm.trans hm) fun e hs hm => om1_elim hm fun oe nm a c he hm => and_elim hm fun hm h3 => and_elim hm fun hm h2 => and_elim hm fun hm h1 => and_elim hm fun hm hn => and_elim hm fun q hc => sExpr_elim (R := fun ss => StG b n sc T ss ρ H fl ρ' H') hs fun p => ?_
  obtain rfl := dec_elim q
  refine asMeth_elim (R := fun e => StG b n sc T (.Expr e p) ρ H fl ρ' H') he fun ap p' hcc => ?_
  obtain rfl := hcc
  refine ph_elim (ex_app_eq.symm.trans hv) fun l H1 e1 hv => gl_elim hv fun xs0 e0 hv => vh_elim hv fun v H2 e2 hv => gl_elim hv fun xs e3 hv => if_elim hv fun hb hv => st_elim hv ?_
  have hnc : notCall0 oe = true := (Option.isSome_iff_exists.mp hn).elim fun y hy => asName_elim (R := fun oe => notCall0 oe = true) hy fun _ => rfl
  intro A s μ B₀ env hr S L X Q E hQ
  have htr : backTo p' (starEach [a] env) = [(false, eval a env)] := by rw [starEach_plain h1]; rfl
  refine wpAny_Expr_any (hs := swaps_plain (by rfl) _ _ _) (wpAny_Call_append (attr_base hnc) (by rw [htr]; rfl) hc htr ((x_ok ok hC o).1 h2 e1 hr S L fun ru s1 μ1 P1 V1 => ?_)) (inter_false L.eok)
  obtain ⟨q, hq, rfl⟩ := V1
  obtain ⟨_, vs0, ⟨c0, hl0⟩, _⟩ := P1.st.objs l q _ hq (getO_get e0 rfl)
  refine ⟨_, _, rfl, ⟨_, _, hl0, rfl, rfl, rfl⟩, (x_ok ok hC x).1 h3 e2 hr P1.st (L.step S P1) fun rv s2 μ2 P2 V2 => ?_⟩
  have hq2 : μ2[l]? = some q := by obtain ⟨ν, rfl⟩ := P2.ext; exact get_append hq
  exact app_ok P2.st hq2 e3 hb V2 fun s3 P3 => hQ _ s3 μ2 ((P1.trans P2).trans P3).f (((L.step S P1).step P1.st P2).step P2.st P3) rfl

theorem st_ret (ok : Ok b ns K mg mb) (hC : CallsOk b C n) {x : X} : StOK b ns C n (.ret x) := by
  intro sc T ss hm ρ H fl ρ' H' hv
  refine ob1_elim (mS_ret_eq.symm.trans hm) fun e hs hm => sRet_elim (R := fun ss => StG b n sc T ss ρ H fl ρ' H') hs fun p => ?_
  refine vh_elim (ex_ret_eq.symm.trans hv) fun v H1 e1 hv => st_elim hv ?_
  intro A s μ B₀ env hr S L X Q E hQ
  exact wpAny_Return_some ((x_ok ok hC x).1 hm e1 hr S L fun rv s1 μ1 P1 V1 => hQ _ s1 μ1 P1.f (L.step S P1) ⟨rv, rfl, V1⟩)

theorem form_ok {as : List Expr} {l : List (Bool × Sem Value)} {kw : List (Option Str × Sem Value)} (h2 : as.length ≤ 20) (h : l.any (·.1) = false) : methodCallForm (as.length + ([] : List Keyword).length) l [] = true := by
  have ha : l.all (fun x => !x.1) = true := by
    rw [List.all_eq_not_any_not]
    simpa using h
  unfold methodCallForm
  rw [ha]
  show (true && true && decide (as.length < 30)) = true
  rw [decide_eq_true (Nat.lt_of_le_of_lt h2 (by decide))]; rfl
theorem st_ini (ok : Ok b ns K mg mb) (hC : CallsOk b C n) {f : Nat} {xs : Xs} : StOK b ns C n (.ini f xs) := by
  intro sc T ss hm ρ H fl ρ' H' hv
  refine ob1_elim (mS_ini_eq.symm.trans hm) fun e hs hm => ob4_elim hm fun ce nm as c he hm => and_elim hm fun hm h3 => and_elim hm fun hm h2 => and_elim hm fun hm h1 => and_elim hm fun hm q2 => and_elim hm fun q1 hc => sExpr_elim (R := fun ss => StG b n sc T ss ρ H fl ρ' H') hs fun p => ?_
  replace h2 := dec_elim h2
  obtain rfl := dec_elim q1
  obtain rfl := dec_elim q2
  refine asMeth_elim (R := fun e => StG b n sc T (.Expr e p) ρ H fl ρ' H') he fun ap p' hcc => ?_
  obtain rfl := hcc
  refine vh_elim (ex_ini_eq.symm.trans hv) fun vs H1 e1 hv => nh_elim hv fun H2 e2 hv => st_elim hv ?_
  intro A s μ B₀ env hr S L X Q E hQ
  refine wpAny_Expr_any ?_ (inter_false L.eok) (swaps_plain (by rfl) _ _ _)
  obtain ⟨q, rfl⟩ := glob_shape h1
  rw [arm_eval_Call, attr_base (by rfl)]
  refine wpAny_bind (glob_name h1 S L.eok ok ok.hobj ?_)
  refine wpAny_bind (wpAny_standAt ?_)
  have hform : methodCallForm (as.length + ([] : List Keyword).length) (backTo p' (starEach as env)) (backToKw p' (keywordEach [] env)) = true := form_ok (kw := []) h2 (plain_any h3)
  have hpos : methodCallPos true (.Name heapObjectS q) env ap p' = pure p' := by unfold methodCallPos; simp [hc]
  unfold methodCall calleeOf
  rw [hform, if_pos rfl]
  have XK := ok.X.keeps S.base
  refine wpAny_bind (wpAny_holding (method_cls XK ok.kf.hga (cls_value XK ok.kf.hrd ok.kf.hini rfl ?_)))
  refine wpAny_bind (wpAny_of_eq hpos ?_)
  have P0 : Step b B₀ μ H s μ H { s with toks := s.toks + 1 } := Step.tok S
  refine callWith_of (P := fun h => K.In h) (by rw [plain_any h3]; rfl) (keeps_K (ok.kf.keepF 13 (by decide))) (args_ev (xs_ok ok hC xs).1 h3 e1 hr P0.st (L.step S P0) fun rvs s1 μ1 P1 V1 => ⟨ok.X.keeps P1.st.base, ?_⟩)
  refine wpAny_call (hC 13 _ _ _ _ e2 (by decide) A s1 μ1 B₀ rvs _ hr.call P1.st V1 fun rv s2 μ2 P2 V2 => ?_)
  exact hQ _ s2 μ2 ((P0.trans P1).trans P2).f (((L.step S P0).step P0.st P1).step P1.st P2) rfl
end Mine
end

/-! ### Sound6d -/
section
set_option tactic.hygienic false
set_option genSizeOf false
set_option bootstrap.genMatcherCode false
open PySem PySem.W PyProof.Rows PySem.Calls PySem.SeqAt
set_option linter.unusedVariables false
set_option linter.unusedSimpArgs false
set_option maxRecDepth 100000
namespace Mine
variable {b : Base} {ns : List Int} {K : Frag} {mg mb : Str → Option Value} {B₀ B₁ : Addr → Prop} {sc sc' : Scope} {T : List Slot} {env : Env} {ρ ρ' : List V} {μ μ' μ'' : Mu} {H H' H'' : List O} {s s' s'' : Shared} {C : Calls'} {n : Nat} {W : Addr → Prop}

theorem assignEach_cons {t : Expr} {ts : List Expr} {env : Env} : notStar t = true → assignEach (t :: ts) env = (false, assign t env) :: assignEach ts env := by
  cases t <;> first | exact fun _ => rfl | exact fun h => ff_elim h
theorem assignEach_plain {ts : List Expr} {env : Env} (h : ∀ t ∈ ts, notStar t = true) : assignEach ts env = ts.map fun t => (false, assign t env) := by
  induction ts with
  | nil => rfl
  | cons t ts ih => rw [assignEach_cons (h t List.mem_cons_self), ih fun t' ht => h t' (List.mem_cons_of_mem _ ht)]; rfl
theorem each_star {ts : List Expr} {env : Env} (h : ∀ t ∈ ts, notStar t = true) : (assignEach ts env).length = ts.length ∧ (assignEach ts env).findIdx? (·.1) = none := by
  rw [assignEach_plain h]
  refine ⟨List.length_map .., ?_⟩
  rw [List.findIdx?_eq_none_iff]
  intro x hx
  obtain ⟨t, _, rfl⟩ := List.mem_map.mp hx
  rfl

/-- a tuple's display -/
theorem tuple_val {xs : Xs} (hxs : EvsOK b ns C n xs) {es : List Expr} (hm : mXs sc T xs es = true) (hl : es.length ≤ 100) {vs : List V} (hv : evs ns C xs ρ H = some (vs, H')) {A : Around} (hr : Room A n) (S : St b B₀ μ H s.heap) (L : Slots b B₀ sc T env ρ μ H s.heap) {k : Nat} {p : Pos}
    {Q : Value → Shared → Prop} {E : Value → Shared → Prop} (hQ : ∀ rvs t s' μ', Step b B₀ μ H s μ' H' s' → s'.heap.IsTuple t (List.toArray rvs) → rvs.length = es.length → All2 (VR b.scr μ' (Bad B₀ μ' H') s'.heap) vs rvs → Q (.ref t) s') :
    wpAny (model b.prog b.w) A (eval (.Tuple es k p) env) Q E s := by
  refine wpAny_Tuple (hxs hm hv hr S L fun rvs s1 μ1 P1 V1 => ?_)
  have z : rvs.length = es.length := V1.length.symm.trans (mXs_length hm hv)
  have P2 := push_step (o := { cls := .type "tuple", data := .seq rvs.toArray }) (tk := s1.toks) P1.st
  refine ⟨le_line (z ▸ Nat.le_trans hl (by decide)), hQ rvs _ _ μ1 (P1.trans P2) ⟨_, Heap.get?_push_size _ rfl, rfl, _, rfl⟩ z (V1.imp fun v rv x => VR.step P2 x)⟩
theorem extBut_step {h' : Heap} (S : St b B₀ μ H s.heap) (hx : Heap.ExtBut s.heap.objs.size s.heap h') (hz : s.heap.objs.size ≤ h'.objs.size) : Step b B₀ μ H s μ H { s with heap := h' } :=
  Step.loose S (fun a o e => hx a o (Nat.ne_of_lt (Heap.lt_size e)) e) hz rfl rfl
/-- a tuple taken apart -/
theorem unpack_val {ts : List Expr} (hs : ∀ t ∈ ts, notStar t = true) {t : Addr} {rvs : List Value} (ht : s.heap.IsTuple t rvs.toArray) (hl : rvs.length = ts.length) {A : Around} (hr : Room A n) (S : St b B₀ μ H s.heap) {k : Nat} {p : Pos} {Q : Unit → Shared → Prop} {E : Value → Shared → Prop}
    (h : ∀ s', Step b B₀ μ H s μ H s' → wpAny (model b.prog b.w) A (assignInOrder ((assignEach ts env).map (·.2)) rvs) (fun u s2 => Q u s2) E s') :
    wpAny (model b.prog b.w) A (assign (.Tuple ts k p) env (.ref t)) Q E s := by
  obtain ⟨h1, h2⟩ := each_star (env := env) hs
  rw [arm_assign_Tuple]
  refine wpAny_bind (wpAny_standAt ?_)
  unfold unpack
  rw [h2, h1, ← hl, show rvs.length = rvs.toArray.size from rfl]
  refine wpAny_bind (wpAny_holding (with_size (wpAny_unpackItems_tuple hr.handled ht fun h' hx hz => ?_)))
  exact h _ (extBut_step S hx hz)
theorem unpack_items {t : Addr} {rvs : List Value} {m : Nat} (ht : s.heap.IsTuple t rvs.toArray) (hl : rvs.length = m) {A : Around} (hr : Room A n) (S : St b B₀ μ H s.heap) {Q : List Value → Shared → Prop} {E : Value → Shared → Prop}
    (h : ∀ s', Step b B₀ μ H s μ H s' → Q rvs s') : wpAny (model b.prog b.w) A (unpackItems (.ref t) m none) Q E s := by
  rw [← hl, show rvs.length = rvs.toArray.size from rfl]
  refine with_size (wpAny_unpackItems_tuple hr.handled ht fun h' hx hz => ?_)
  exact h _ (extBut_step S hx hz)

theorem areSlots_star {ts : List Expr} : ∀ {is : List Nat}, areSlots sc T is ts = true → ∀ t ∈ ts, notStar t = true := by
  induction ts with
  | nil => exact fun _ t h => (nomatch h)
  | cons e es ih =>
    intro is h
    cases is with
    | nil => exact ff_elim h
    | cons i is => exact and_elim h fun h1 h => List.forall_mem_cons.mpr ⟨isSlot_elim (R := fun t => notStar t = true) h1 fun _ _ _ _ _ _ => rfl, ih h⟩

theorem store_all {M : Model} {A : Around} {E : Value → Shared → Prop} {ts : List Expr} : ∀ {is : List Nat} {vs : List V} {rvs : List Value} {ρ ρ' : List V} {s : Shared} {Q : Unit → Shared → Prop}, areSlots sc T is ts = true → setAll is vs ρ = some ρ' → All2 (VR b.scr μ (Bad B₀ μ H) s.heap) vs rvs →
    St b B₀ μ H s.heap → Slots b B₀ sc T env ρ μ H s.heap → Fix T env → (∀ s', StepF (Own env) b B₀ μ H s μ H s' → Slots b B₀ sc T env ρ' μ H s'.heap → Q () s') → wpAny M A (assignInOrder ((assignEach ts env).map (·.2)) rvs) Q E s := by
  induction ts with
  | nil =>
    intro is vs rvs ρ ρ' s Q h hv hr S L X hQ
    cases is with
    | cons _ _ => exact ff_elim h
    | nil =>
      cases vs with
      | cons _ _ => exact no_some hv
      | nil =>
        obtain rfl := Option.some.inj hv
        exact hr.elim (P := fun rvs => wpAny M A (assignInOrder ((assignEach [] env).map (·.2)) rvs) Q E s) (wpAny_pure (hQ s (Step.refl S).f L))
  | cons e es ih =>
    intro is vs rvs ρ ρ' s Q h hv hr S L X hQ
    cases is with
    | nil => exact ff_elim h
    | cons i is =>
      cases vs with
      | nil => exact no_some hv
      | cons v vs =>
        refine hr.elim (P := fun rvs => wpAny M A (assignInOrder ((assignEach (e :: es) env).map (·.2)) rvs) Q E s) fun rv rvs r hr => and_elim h fun h1 h => if_elim hv fun _ hv => ?_
        refine isSlot_elim (R := fun e => wpAny M A (assignInOrder ((assignEach (e :: es) env).map (·.2)) (rv :: rvs)) Q E s) h1 fun y k p hT hk hkk => ?_
        show wpAny _ _ (assignInOrder (assign (.Name y p) env :: (assignEach es env).map (·.2)) _) _ _ _
        refine wpAny_bind (wpAny_holding (wpAny_assign_Name (store_slot hT hk hkk S L X r fun s1 P1 L1 => ?_)))
        exact ih h hv (hr.imp fun v rv x => VR.stepF P1 (own_priv L) x) P1.st L1 X fun s2 P2 L2 => hQ s2 (P1.trans P2) L2

theorem or_if {α : Type} {c : Prop} [Decidable c] {a x r : α} (h : x = a ∨ x = r) : (if c then a else x) = a ∨ (if c then a else x) = r :=
  if hc : c then .inl (if_pos hc) else h.imp (if_neg hc).trans (if_neg hc).trans
theorem names2 {f : Expr → Option Str} {e1 e2 : Expr} {y1 y2 : Str} (h1 : f e1 = some y1 ∨ f e1 = none) (h2 : f e2 = some y2 ∨ f e2 = none) : [e1, e2].filterMap f = [y1, y2] ∨ (([e1, e2].filterMap f).length != 2) = true := by
  rw [List.filterMap_cons, List.filterMap_cons, List.filterMap_nil]
  rcases h1 with h1 | h1 <;> rcases h2 with h2 | h2 <;> rw [h1, h2] <;> first | exact .inl rfl | exact .inr rfl
theorem if_or {α : Type} {c : Prop} [Decidable c] {x : α} : (if c then some x else none) = some x ∨ (if c then some x else none) = none :=
  if hc : c then .inl (if_pos hc) else .inr (if_neg hc)
theorem swapped2 {y1 y2 : Str} {p1 p2 p p' : Pos} {k k' : Nat} {e1 e2 : Expr} (hn : ¬ ([e1, e2].all (constantsAlone 8)) = true) :
    swappedStores [.Tuple [.Name y1 p1, .Name y2 p2] k p] (.Tuple [e1, e2] k' p') env = pure none ∨ swappedStores [.Tuple [.Name y1 p1, .Name y2 p2] k p] (.Tuple [e1, e2] k' p') env = pure (some [y1, y2]) := by
  unfold swappedStores
  dsimp only
  refine or_if (or_if ?_)
  rw [if_neg hn]
  generalize hL : List.filterMap _ _ = L
  have h : L = [y1, y2] ∨ (L.length != 2) = true := by rw [← hL]; exact names2 if_or if_or
  rcases h with rfl | h
  · exact or_if (or_if (.inr rfl))
  · exact .inl (if_pos ((congrArg (· || _) h).trans (Bool.true_or _)))
theorem four {ts : List Expr} (h : 4 ≤ ts.length) : (!(ts.length == 2 || ts.length == 3)) = true := by
  rw [beq_false_of_ne (Nat.ne_of_gt (Nat.lt_of_lt_of_le (by decide) h)), beq_false_of_ne (Nat.ne_of_gt (Nat.lt_of_lt_of_le (by decide) h))]; rfl
theorem swapped4 {ts vs : List Expr} {k k' : Nat} {p p' : Pos} (h : 4 ≤ ts.length) : swappedStores [.Tuple ts k p] (.Tuple vs k' p') env = pure none := by
  unfold swappedStores
  dsimp only
  rw [if_pos (by rw [four h]; rfl)]

section
variable {is : List Nat} {xs : Xs} {ts vs : List Expr} {us : List V} {H1 : List O} {k1 k2 : Nat} {p1 p2 p : Pos} {ρ1 : List V}
theorem asgT_usual (ok : Ok b ns K mg mb) (hC : CallsOk b C n) (h7 : vs.length = ts.length) (h8 : vs.length ≤ 100) (h9 : areSlots sc T is ts = true) (h10 : mXs sc T xs vs = true) (e1 : evs ns C xs ρ H = some (us, H1)) (e2 : setAll is us ρ = some ρ1) {A : Around} (hr : Room A n) (S : St b B₀ μ H s.heap) (L : Slots b B₀ sc T env ρ μ H s.heap) (X : Fix T env)
    (hw : swappedStores [.Tuple ts k1 p1] (.Tuple vs k2 p2) env = pure none) {Q : Flow → Shared → Prop} {E : Value → Shared → Prop} (hQ : ∀ f s' μ', StepF (Own env) b B₀ μ H s μ' H1 s' → Slots b B₀ sc T env ρ1 μ' H1 s'.heap → FlR b.scr μ' (Bad B₀ μ' H1) s'.heap .next f → Q f s') :
    wpAny (model b.prog b.w) A (PySem.exec (.Assign [.Tuple ts k1 p1] (.Tuple vs k2 p2) p) env) Q E s := by
  refine Assign_Tuple ?_ (by rfl) hw
  refine tuple_val (xs_ok ok hC xs).1 h10 h8 e1 hr S L fun rvs a s1 μ1 P1 ht hl V1 => ?_
  refine unpack_val (areSlots_star h9) ht (hl.trans h7) hr P1.st fun s2 P2 => ?_
  exact store_all h9 e2 (V1.imp fun v rv x => VR.step P2 x) P2.st ((L.step S P1).step P1.st P2) X fun s3 P3 L3 => hQ _ s3 μ1 ((P1.trans P2).f.trans P3) L3 rfl
theorem All2.two {α β : Type} {R : α → β → Prop} {a c : α} {bs : List β} {P : List β → Prop} (h : All2 R [a, c] bs) (k : ∀ x y, R a x → R c y → P [x, y]) : P bs :=
  h.elim fun x bs r h => h.elim (P := fun bs => P (x :: bs)) fun y bs q h => h.elim (P := fun bs => P (x :: y :: bs)) (k x y r q)
theorem two_elim {α : Type} {R : List α → Prop} {l : List α} (h : l.length = 2) (k : ∀ a c, R [a, c]) : R l := match l, h with
  | [a, c], _ => k a c
theorem slots_two {t1 t2 : Expr} {R : List Nat → Prop} (h : areSlots sc T is [t1, t2] = true) (k : ∀ i1 i2, isSlot sc T i1 t1 = true → isSlot sc T i2 t2 = true → R [i1, i2]) : R is := by
  cases is with
  | nil => exact ff_elim h
  | cons i1 is =>
    refine and_elim h fun h1 h => ?_
    cases is with
    | nil => exact ff_elim h
    | cons i2 is =>
      refine and_elim h fun h2 h => ?_
      cases is with
      | nil => exact k i1 i2 h1 h2
      | cons _ _ => exact ff_elim h
theorem asgT_swapped (ok : Ok b ns K mg mb) (hC : CallsOk b C n) {v1 v2 : Expr} {y1 y2 : Str} {r1 r2 : Pos} {i1 i2 : Nat} {c1 c2 : NameKind} (hT1 : T[i1]? = some (some (y1, c1))) (hk1 : sc.names.lookup y1 = some c1) (hkk1 : c1 = .local ∨ c1 = .cell) (hT2 : T[i2]? = some (some (y2, c2))) (hk2 : sc.names.lookup y2 = some c2) (hkk2 : c2 = .local ∨ c2 = .cell)
    (h4 : [i1, i2].Nodup) (h10 : mXs sc T xs [v1, v2] = true) (e1 : evs ns C xs ρ H = some (us, H1)) (e2 : setAll [i1, i2] us ρ = some ρ1) {A : Around} (hr : Room A n) (S : St b B₀ μ H s.heap) (L : Slots b B₀ sc T env ρ μ H s.heap) (X : Fix T env)
    (hw : swappedStores [.Tuple [.Name y1 r1, .Name y2 r2] k1 p1] (.Tuple [v1, v2] k2 p2) env = pure (some [y1, y2])) {Q : Flow → Shared → Prop} {E : Value → Shared → Prop} (hQ : ∀ f s' μ', StepF (Own env) b B₀ μ H s μ' H1 s' → Slots b B₀ sc T env ρ1 μ' H1 s'.heap → FlR b.scr μ' (Bad B₀ μ' H1) s'.heap .next f → Q f s') :
    wpAny (model b.prog b.w) A (PySem.exec (.Assign [.Tuple [.Name y1 r1, .Name y2 r2] k1 p1] (.Tuple [v1, v2] k2 p2) p) env) Q E s := by
  refine Assign_Tuple_swapped ?_ (by rfl) hw
  refine tuple_val (xs_ok ok hC xs).1 h10 (show 2 ≤ 100 by decide) e1 hr S L fun rvs a s1 μ1 P1 ht hl V1 => ?_
  refine unpack_items ht hl hr P1.st fun s2 P2 => ?_
  have L2 := (L.step S P1).step P1.st P2
  refine two_elim (R := fun us => setAll [i1, i2] us ρ = some ρ1 → All2 (VR b.scr μ1 (Bad B₀ μ1 H1) s2.heap) us rvs → wpAny (model b.prog b.w) A (assignInOrder ([y1, y2].reverse.map (bindName env)) rvs.reverse) (fun _ s' => Q .next s') E s2) (mXs_length h10 e1) (fun a1 a2 e2 V2 => ?_) e2 (V1.imp fun v rv x => VR.step P2 x)
  refine V2.two (P := fun rvs => wpAny (model b.prog b.w) A (assignInOrder ([y1, y2].reverse.map (bindName env)) rvs.reverse) (fun _ s' => Q .next s') E s2) fun x1 x2 w1 w2 => if_elim e2 fun hi1 e2 => if_elim e2 fun hi2 e2 => ?_
  show wpAny _ A (assignInOrder [bindName env y2, bindName env y1] [x2, x1]) _ _ _
  refine wpAny_bind (wpAny_holding (wpAny_bindName (store_slot hT2 hk2 hkk2 P2.st L2 X w2 fun s3 P3 L3 => ?_)))
  refine wpAny_bind (wpAny_holding (wpAny_bindName (store_slot hT1 hk1 hkk1 P3.st L3 X (VR.stepF P3 (own_priv L2) w1) fun s4 P4 L4 => ?_)))
  refine wpAny_pure (hQ _ s4 μ1 (((P1.trans P2).f.trans P3).trans P4) ?_ rfl)
  have hne : i1 ≠ i2 := fun z => (List.nodup_cons.mp h4).1 (z ▸ List.mem_singleton_self _)
  rw [List.set_comm _ _ (Ne.symm hne)] at L4
  exact Option.some.inj e2 ▸ L4
end
theorem not_all {l : List Expr} {f : Expr → Bool} (h : (!(l.all f)) = true) : ¬ (l.all f) = true := fun q => by rw [q] at h; exact ff_elim h
theorem st_asgT (ok : Ok b ns K mg mb) (hC : CallsOk b C n) {is : List Nat} {xs : Xs} : StOK b ns C n (.asgT is xs) := by
  intro sc T ss hm ρ H fl ρ' H' hv
  refine ob3_elim (mS_asgT_eq.symm.trans hm) fun t v p hs hm => ott_elim hm fun ts vs h1 h2 hm => and_elim hm fun hm h10 => and_elim hm fun hm h9 => and_elim hm fun hm h8 => and_elim hm fun hm h7 => and_elim hm fun hm h6 => and_elim hm fun hm h5 => and_elim hm fun h3 h4 => sAssign_elim (R := fun ss => StG b n sc T ss ρ H fl ρ' H') hs ?_
  refine asTup_elim (R := fun t => StG b n sc T (.Assign [t] v p) ρ H fl ρ' H') h1 fun k1 p1 => ?_
  refine asTup_elim (R := fun v => StG b n sc T (.Assign [.Tuple ts k1 p1] v p) ρ H fl ρ' H') h2 fun k2 p2 => ?_
  refine vh_elim (ex_asgT_eq.symm.trans hv) fun us H1 e1 hv => oh_elim hv fun ρ1 e2 hv => st_elim hv ?_
  clear hv hm hs h1 h2 h6
  refine bor_elim h3 (fun h3 => ?_) fun h3 A s μ B₀ env hr S L X Q E hQ => asgT_usual ok hC (dec_elim h7) (dec_elim h8) h9 h10 e1 e2 hr S L X (swapped4 (dec_elim h3)) hQ
  refine l2_elim (R := fun ts => vs.length = ts.length → areSlots sc T is ts = true → StG b n sc T (.Assign [.Tuple ts k1 p1] (.Tuple vs k2 p2) p) ρ H .next ρ1 H1) h3 (fun t1 t2 _ h7 h9 => ?_) (dec_elim h7) h9
  refine two_elim (R := fun vs => ¬ (vs.all (constantsAlone 8)) = true → mXs sc T xs vs = true → StG b n sc T (.Assign [.Tuple [t1, t2] k1 p1] (.Tuple vs k2 p2) p) ρ H .next ρ1 H1) h7 (fun v1 v2 h5 h10 => ?_) (not_all h5) h10
  refine slots_two (R := fun is => is.Nodup → areSlots sc T is [t1, t2] = true → setAll is us ρ = some ρ1 → StG b n sc T (.Assign [.Tuple [t1, t2] k1 p1] (.Tuple [v1, v2] k2 p2) p) ρ H .next ρ1 H1) h9 (fun i1 i2 g1 g2 h4 h9 e2 => ?_) (dec_elim h4) h9 e2
  refine isSlot_elim (R := fun t1 => areSlots sc T [i1, i2] [t1, t2] = true → StG b n sc T (.Assign [.Tuple [t1, t2] k1 p1] (.Tuple [v1, v2] k2 p2) p) ρ H .next ρ1 H1) g1 (fun y1 c1 r1 hT1 hk1 hkk1 h9 => ?_) h9
  refine isSlot_elim (R := fun t2 => areSlots sc T [i1, i2] [.Name y1 r1, t2] = true → StG b n sc T (.Assign [.Tuple [.Name y1 r1, t2] k1 p1] (.Tuple [v1, v2] k2 p2) p) ρ H .next ρ1 H1) g2 (fun y2 c2 r2 hT2 hk2 hkk2 h9 => ?_) h9
  intro A s μ B₀ env hr S L X Q E hQ
  exact (swapped2 h5).elim (fun hw => asgT_usual (vs := [v1, v2]) (ts := [.Name y1 r1, .Name y2 r2]) ok hC rfl (show 2 ≤ 100 by decide) h9 h10 e1 e2 hr S L X hw hQ) fun hw => asgT_swapped ok hC hT1 hk1 hkk1 hT2 hk2 hkk2 h4 h10 e1 e2 hr S L X hw hQ

theorem areAttrs_star {o : X} {ts : List Expr} : ∀ {fs : List Nat}, areAttrs sc T o fs ts = true → ∀ t ∈ ts, notStar t = true := by
  induction ts with
  | nil => exact fun _ t h => (nomatch h)
  | cons e es ih =>
    intro fs h
    cases fs with
    | nil => exact ff_elim h
    | cons i is => exact and_elim h fun h1 h => List.forall_mem_cons.mpr ⟨ob2_elim h1 fun _ _ h1 _ => asAttr_elim (R := fun t => notStar t = true) h1 fun _ => rfl, ih h⟩
theorem store_attrs (ok : Ok b ns K mg mb) (hC : CallsOk b C n) {i : Nat} {u : V} {A : Around} (hr : Room A n) {E : Value → Shared → Prop} {ts : List Expr} : ∀ {fs : List Nat} {vs : List V} {rvs : List Value} {μ : Mu} {H H' : List O} {s : Shared} {Q : Unit → Shared → Prop}, areAttrs sc T (.var i) fs ts = true →
    (∀ H : List O, ev ns C (.var i) ρ H = some (u, H)) → setAs u fs vs H = some H' → All2 (VR b.scr μ (Bad B₀ μ H) s.heap) vs rvs →
    St b B₀ μ H s.heap → Slots b B₀ sc T env ρ μ H s.heap → (∀ s' μ', Step b B₀ μ H s μ' H' s' → Q () s') → wpAny (model b.prog b.w) A (assignInOrder ((assignEach ts env).map (·.2)) rvs) Q E s := by
  induction ts with
  | nil =>
    intro fs vs rvs μ H H' s Q h hu hv hr S L hQ
    cases fs with
    | cons _ _ => exact ff_elim h
    | nil =>
      cases vs with
      | cons _ _ => exact no_some hv
      | nil =>
        obtain rfl := Option.some.inj hv
        exact hr.elim (P := fun rvs => wpAny (model b.prog b.w) A (assignInOrder ((assignEach [] env).map (·.2)) rvs) Q E s) (wpAny_pure (hQ s μ (Step.refl S)))
  | cons e es ih =>
    intro fs vs rvs μ H H' s Q h hu hv hvr S L hQ
    cases fs with
    | nil => exact ff_elim h
    | cons f fs =>
      cases vs with
      | nil => exact no_some hv
      | cons v vs =>
        refine hvr.elim (P := fun rvs => wpAny (model b.prog b.w) A (assignInOrder ((assignEach (e :: es) env).map (·.2)) rvs) Q E s) fun rv rvs r hvr => and_elim h fun h1 h2 => oh_elim hv fun H1 e1 hv => ob2_elim h1 fun oe nm hh h1 => and_elim h1 fun h1 h3 => and_elim h1 fun q _ => ?_
        refine asAttr_elim (R := fun e => wpAny (model b.prog b.w) A (assignInOrder ((assignEach (e :: es) env).map (·.2)) (rv :: rvs)) Q E s) hh fun p => ?_
        obtain rfl := dec_elim q
        clear hh h h1
        show wpAny _ _ (assignInOrder (assign (.Attribute oe (fname f) p) env :: (assignEach es env).map (·.2)) _) _ _ _
        refine wpAny_bind (wpAny_holding ?_)
        rw [assign_Attribute]
        refine wpAny_bind (wpAny_holding ((x_ok ok hC (.var i)).1 h3 (hu H) hr S L fun ru s1 μ1 P1 V1 => wpAny_bind (wpAny_standAt (wpAny_bind (wpAny_holding ?_)))))
        refine setA_ok ok e1 P1.st (VR.step P1 r) V1 fun s2 P2 => wp_rel ?_
        have P12 := P1.trans P2
        exact ih h2 hu hv (hvr.imp fun v rv x => VR.step P12 x) P2.st ((L.step S P1).step P1.st P2) fun s3 μ3 P3 => hQ s3 μ3 (P12.trans P3)

theorem st_setTA (ok : Ok b ns K mg mb) (hC : CallsOk b C n) {i : Nat} {fs : List Nat} {xs : Xs} : StOK b ns C n (.setTA i fs xs) := by
  intro sc T ss hm ρ H fl ρ' H' hv
  refine ob3_elim (mS_setTA_eq.symm.trans hm) fun t v p hs hm => ott_elim hm fun ts vs h1 h2 hm => and_elim hm fun hm h10 => and_elim hm fun hm h9 => and_elim hm fun hm h8 => and_elim hm fun hm h7 => and_elim hm fun h3 h6 => sAssign_elim (R := fun ss => StG b n sc T ss ρ H fl ρ' H') hs ?_
  refine asTup_elim (R := fun t => StG b n sc T (.Assign [t] v p) ρ H fl ρ' H') h1 fun k1 p1 => ?_
  refine asTup_elim (R := fun v => StG b n sc T (.Assign [.Tuple ts k1 p1] v p) ρ H fl ρ' H') h2 fun k2 p2 => ?_
  refine vh_elim (ex_setTA_eq.symm.trans hv) fun us H1 e1 hv => vh_elim hv fun u H2 e2 hv => oh_elim hv fun H3 e3 hv => st_elim hv ?_
  obtain ⟨hu, rfl⟩ := var_stable e2
  clear hv hm hs h1 h2 h6 e2
  intro A s μ B₀ env hr S L X Q E hQ
  refine Assign_Tuple ?_ (by rfl) (swapped4 (dec_elim h3))
  refine tuple_val (xs_ok ok hC xs).1 h10 (dec_elim h8) e1 hr S L fun rvs a s1 μ1 P1 ht hl V1 => ?_
  refine unpack_val (areAttrs_star h9) ht (hl.trans (dec_elim h7)) hr P1.st fun s2 P2 => ?_
  have L2 := (L.step S P1).step P1.st P2
  exact store_attrs ok hC hr h9 hu e3 (V1.imp fun v rv x => VR.step P2 x) P2.st L2 fun s3 μ3 P3 => hQ _ s3 μ3 ((P1.trans P2).trans P3).f (L2.step P2.st P3) rfl

/-- a store into an item, as a target -/
theorem store_sub (ok : Ok b ns K mg mb) (hC : CallsOk b C n) {o i : X} {oe ie : Expr} {p : Pos} (h0 : notSlice ie = true) (h1 : mX sc T o oe = true) (h2 : mX sc T i ie = true) {u j v : V} {rv : Value} {H1 H2 H3 : List O} (e1 : ev ns C o ρ H = some (u, H1)) (e2 : ev ns C i ρ H1 = some (j, H2)) (e3 : setIV H2 v u j = some H3)
    {A : Around} (hr : Room A n) (S : St b B₀ μ H s.heap) (L : Slots b B₀ sc T env ρ μ H s.heap) (V : VR b.scr μ (Bad B₀ μ H) s.heap v rv) {Q : Unit → Shared → Prop} {E : Value → Shared → Prop} (hQ : ∀ s' μ', Step b B₀ μ H s μ' H3 s' → Q () s') :
    wpAny (model b.prog b.w) A (assign (.Subscript oe ie p) env rv) Q E s := by
  rw [assign_Subscript]
  refine wpAny_bind (wpAny_holding ((x_ok ok hC o).1 h1 e1 hr S L fun ru s1 μ1 P1 V1 => wpAny_bind (wpAny_holding ((x_ok ok hC i).1 h2 e2 hr P1.st (L.step S P1) fun rj s2 μ2 P2 V2 => wpAny_bind (wpAny_standAt (wpAny_bind (wpAny_holding ?_)))))))
  exact setI_ok ok e3 P2.st (VR.step (P1.trans P2) V) (VR.step P2 V1) V2 fun s3 P3 => wp_rel (hQ s3 μ2 ((P1.trans P2).trans P3))

theorem star2 {o1 i1 o2 i2 : Expr} {q1 q2 : Pos} : ∀ t ∈ [Expr.Subscript o1 i1 q1, .Subscript o2 i2 q2], notStar t = true := List.forall_mem_cons.mpr ⟨rfl, List.forall_mem_singleton.mpr rfl⟩
theorem swappedSub {o1 i1 o2 i2 e1 e2 : Expr} {q1 q2 p p' : Pos} {k k' : Nat} : swappedStores [.Tuple [.Subscript o1 i1 q1, .Subscript o2 i2 q2] k p] (.Tuple [e1, e2] k' p') env = pure none := by
  unfold swappedStores
  dsimp only
  exact (or_if (or_if (.inl (if_pos rfl)))).elim id id
theorem st_setTI (ok : Ok b ns K mg mb) (hC : CallsOk b C n) {o1 i1 o2 i2 x1 x2 : X} : StOK b ns C n (.setTI o1 i1 o2 i2 x1 x2) := by
  intro sc T ss hm ρ H fl ρ' H' hv
  refine ob3_elim (mS_setTI_eq.symm.trans hm) fun t v p hs hm => ot2_elim hm fun t1 t2 v1 v2 h1 h2 hm => oss_elim hm fun a1 j1 a2 j2 h3 h4 hm => and_elim hm fun hm g10 => and_elim hm fun hm g9 => and_elim hm fun hm g8 => and_elim hm fun hm g7 => and_elim hm fun hm g6 => and_elim hm fun hm g5 => and_elim hm fun hm g4 => and_elim hm fun hm g3 => and_elim hm fun g1 g2 => sAssign_elim (R := fun ss => StG b n sc T ss ρ H fl ρ' H') hs ?_
  refine asTup_elim (R := fun t => StG b n sc T (.Assign [t] v p) ρ H fl ρ' H') h1 fun k1 p1 => ?_
  refine asTup_elim (R := fun v => StG b n sc T (.Assign [.Tuple [t1, t2] k1 p1] v p) ρ H fl ρ' H') h2 fun k2 p2 => ?_
  refine asSub_elim (R := fun t1 => StG b n sc T (.Assign [.Tuple [t1, t2] k1 p1] (.Tuple [v1, v2] k2 p2) p) ρ H fl ρ' H') h3 fun r1 => ?_
  refine asSub_elim (R := fun t2 => StG b n sc T (.Assign [.Tuple [.Subscript a1 j1 r1, t2] k1 p1] (.Tuple [v1, v2] k2 p2) p) ρ H fl ρ' H') h4 fun r2 => ?_
  refine vh_elim (ex_setTI_eq.symm.trans hv) fun w1 H1 e1 hv => vh_elim hv fun w2 H2 e2 hv => vh_elim hv fun u1 H3 e3 hv => vh_elim hv fun z1 H4 e4 hv => oh_elim hv fun H5 e5 hv => vh_elim hv fun u2 H6 e6 hv => vh_elim hv fun z2 H7 e7 hv => oh_elim hv fun H8 e8 hv => st_elim hv ?_
  have hxs : evs ns C (.cons x1 (.cons x2 .nil)) ρ H = some ([w1, w2], H2) := by rw [evs_cons_eq, e1]; show vh (vh (ev ns C x2 ρ H1) _) _ = _; rw [e2]; rfl
  have hms : mXs sc T (.cons x1 (.cons x2 .nil)) [v1, v2] = true := by show (notStar v1 && mX sc T x1 v1 && (notStar v2 && mX sc T x2 v2 && true)) = true; rw [g7, g8, g9, g10]; rfl
  intro A s μ B₀ env hr S L X Q E hQ
  refine Assign_Tuple ?_ (by rfl) swappedSub
  refine tuple_val (xs_ok ok hC _).1 hms (show 2 ≤ 100 by decide) hxs hr S L fun rvs a s1 μ1 P1 ht hl V1 => ?_
  refine unpack_val star2 ht (hl.trans (show 2 = 2 from rfl)) hr P1.st fun s2 P2 => ?_
  have L2 := (L.step S P1).step P1.st P2
  have V2 : All2 (VR b.scr μ1 (Bad B₀ μ1 H2) s2.heap) [w1, w2] rvs := V1.imp fun v rv x => VR.step P2 x
  clear hxs hms hm hv hs h1 h2 h3 h4 g7 g8 g9 g10 e1 e2
  show wpAny _ A (assignInOrder [assign (.Subscript a1 j1 r1) env, assign (.Subscript a2 j2 r2) env] rvs) _ _ _
  refine V2.two (P := fun rvs => wpAny _ A (assignInOrder [assign (.Subscript a1 j1 r1) env, assign (.Subscript a2 j2 r2) env] rvs) _ _ s2) fun x1 x2 y1 y2 => ?_
  refine wpAny_bind (wpAny_holding (store_sub ok hC g1 g3 g4 e3 e4 e5 hr P2.st L2 y1 fun s3 μ3 P3 => ?_))
  refine wpAny_bind (wpAny_holding (store_sub ok hC g2 g5 g6 e6 e7 e8 hr P3.st (L2.step P2.st P3) (VR.step P3 y2) fun s4 μ4 P4 => ?_))
  exact wpAny_pure (hQ _ s4 μ4 (((P1.trans P2).trans P3).trans P4).f ((L2.step P2.st P3).step P3.st P4) rfl)
end Mine
end

/-! ### Sound6e -/
section
set_option tactic.hygienic false
set_option genSizeOf false
set_option bootstrap.genMatcherCode false
open PySem PySem.W PyProof.Rows PySem.Calls PySem.SeqAt
set_option linter.unusedVariables false
set_option linter.unusedSimpArgs false
set_option maxRecDepth 100000
namespace Mine
variable {b : Base} {ns : List Int} {K : Frag} {mg mb : Str → Option Value} {B₀ B₁ : Addr → Prop} {sc sc' : Scope} {T : List Slot} {env : Env} {ρ ρ' : List V} {μ μ' μ'' : Mu} {H H' H'' : List O} {s s' s'' : Shared} {C : Calls'} {n : Nat} {W : Addr → Prop}

/-! ## the private places of a loop -/
structure Priv (b : Base) (B₀ : Addr → Prop) (env : Env) (s s₂ : Shared) (Wp Bp : Addr → Prop) : Prop where
  w : ∀ a, Wp a ↔ s.heap.objs.size ≤ a ∧ a < s₂.heap.objs.size
  bp : ∀ a, Bp a ↔ B₀ a ∨ Wp a
  keep : ∀ a o, s.heap.get? a = some o → s₂.heap.get? a = some o
  size : s.heap.objs.size ≤ s₂.heap.objs.size
  gens : s₂.gens = s.gens
  os : s₂.os = s.os
/-- out of a loop: the private places are new -/
theorem Priv.out {Wp Bp : Addr → Prop} {s₂ q : Shared} {fl : Fl} {f : Flow} (Z : Priv b B₀ env s s₂ Wp Bp) (L : Slots b B₀ sc T env ρ μ H s.heap) (P : StepF (fun a => Own env a ∨ Wp a) b Bp μ H s₂ μ' H' q) (L' : Slots b Bp sc T env ρ' μ' H' q.heap) (hf : FlR b.scr μ' (Bad Bp μ' H') q.heap fl f) :
    StepF (Own env) b B₀ μ H s μ' H' q ∧ Slots b B₀ sc T env ρ' μ' H' q.heap ∧ FlR b.scr μ' (Bad B₀ μ' H') q.heap fl f := by
  have le : ∀ a, B₀ a → Bp a := fun a z => (Z.bp a).mpr (.inl z)
  have P' := P.less le
  refine ⟨⟨P'.st, P'.ext, fun a o e nl no => P'.keep a o (Z.keep a o e) nl fun w => w.elim no fun w => Nat.lt_irrefl _ (Nat.lt_of_lt_of_le (Heap.lt_size e) ((Z.w a).mp w).1), fun a l => (P'.fresh a l).imp id fun z => Nat.le_trans Z.size z, Nat.le_trans Z.size P'.size, P'.gens.trans Z.gens, P'.os.trans Z.os⟩, L'.less le (own_priv L), ?_⟩
  cases fl with
  | next => exact hf
  | ret v => obtain ⟨rv, e, r⟩ := hf; exact ⟨rv, e, VR.less le r⟩

set_option maxHeartbeats 4000000 in
/-- ahead of a loop's turn -/
inductive LoopInv (b : Base) (sc : Scope) (T : List Slot) (env : Env) (len : Nat) (rest : Nat → List V → List O → Option (Fl × List V × List O)) (r : Fl × List V × List O) (Ow Bp : Addr → Prop) (μ : Mu) (H : List O) (s : Shared) (St' : Nat → Heap → Prop) (k : Nat) (q : Shared) : Prop
  | mk (j : Nat) (ρ₁ : List V) (H₁ : List O) (μ₁ : Mu) (h1 : j ≤ len) (h2 : k = len + 1 - j) (h3 : rest j ρ₁ H₁ = some r) (h4 : StepF Ow b Bp μ H s μ₁ H₁ q) (h5 : Slots b Bp sc T env ρ₁ μ₁ H₁ q.heap) (h6 : St' j q.heap)
theorem le_of_turn {j k n : Nat} (h : j < k) (e : n = k) : j < n := e ▸ h
theorem for_core {i : Nat} {t : Expr} {body : S} {bs : List Stmt} (hB : ExOK b ns C n body) (hb : mSs sc T body bs = true) (ht : isSlot sc T i t = true) {vs : List V} {fl : Fl}
    (hrun : forLoop (fun v ρ H => exec ns C body (ρ.set i v) H) vs ρ H = some (fl, ρ', H')) {A : Around} (hr : Room A n) (S : St b B₀ μ H s.heap) (L : Slots b B₀ sc T env ρ μ H s.heap) (X : Fix T env) {it : Value} (hsrc : Src b A B₀ μ H vs s it s') {R : Result → Shared → Prop}
    (hR : ∀ f q μ', StepF (Own env) b B₀ μ H s μ' H' q → Slots b B₀ sc T env ρ' μ' H' q.heap → FlR b.scr μ' (Bad B₀ μ' H') q.heap fl f → R (.ok f) q) :
    codeAny (model b.prog b.w) A (.forLoop t it bs [] env) R s' := by
  obtain ⟨I, fp, wr, N, P, St', rfl, Wk, hN, hst, hfp, hwr, hk0, hz0, hg0, ho0, hlen, hP⟩ := hsrc
  refine isSlot_elim (R := fun t => codeAny (model b.prog b.w) A (.forLoop t (.ref I) bs [] env) R s') ht fun y k py hT hk hkk => ?_
  clear ht
  let Wp : Addr → Prop := fun a => s.heap.objs.size ≤ a ∧ a < s'.heap.objs.size
  let Bp : Addr → Prop := fun a => B₀ a ∨ Wp a
  have Z : Priv b B₀ env s s' Wp Bp := ⟨fun a => Iff.rfl, fun a => Iff.rfl, hk0, hz0, hg0, ho0⟩
  have hWB : ∀ a, Wp a → Bp a := fun a w => .inr w
  have hWw : ∀ a ∈ wr, Wp a := fun a ha => ⟨hwr a ha, (hfp a (Wk.sub a ha)).1⟩
  have SA : St b Bp μ H s'.heap := S.more hk0 hz0 fun a z => z
  have LA : Slots b Bp sc T env ρ μ H s'.heap := L.more hk0 (fun a z => .inl z) fun a z => z.imp id fun z => z.1
  have hOB : ∀ a, Own env a → Bp a := fun a w => .inl (own_priv L a w)
  have hOW : ∀ a, Own env a → ¬ Wp a := fun a w z => Nat.lt_irrefl _ (Nat.lt_of_lt_of_le (S.bad0 _ (own_priv L a w)).2 z.1)
  have hUB : ∀ a, (Own env a ∨ Wp a) → Bp a := fun a w => w.elim (hOB a) (hWB a)
  have hfO : ∀ a ∈ fp, ¬ Own env a := fun a ha w => (hfp a ha).2.2 (own_priv L a w)
  refine codeAny_forLoop_any
    (LoopInv b sc T env vs.length (fun j ρ H => forLoop (fun v ρ H => exec ns C body (ρ.set i v) H) (vs.drop j) ρ H) (fl, ρ', H') (fun a => Own env a ∨ Wp a) Bp μ H s' St') ?_ (vs.length + 1)
    ⟨0, ρ, H, μ, Nat.zero_le _, rfl, hrun, (Step.refl SA).f, LA, hst⟩
  rintro k q ⟨j, ρ1, H1, μ1, hj, rfl, hrun, F1, L1, hst1⟩
  have fpk : ∀ a ∈ fp, ¬ Live μ1 H1 a := fun a ha l => by
    rcases F1.fresh a l with z | z
    · exact (hfp a ha).2.1 z
    · exact Nat.lt_irrefl _ (Nat.lt_of_lt_of_le (hfp a ha).1 z)
  by_cases hlt : j < vs.length
  · refine with_size ?_
    refine Wk.item j _ _ _ (le_of_turn hlt hlen) hst1 fun v' h2 tk2 hPv hst2 hk2 hsz2 => ?_
    obtain ⟨v, hv1, hv2⟩ := hP j v' hPv
    rw [List.drop_eq_getElem_cons hlt, (List.getElem?_eq_some_iff.mp hv1).2] at hrun
    have P2 : StepF (fun a => Own env a ∨ Wp a) b Bp μ1 H1 q μ1 H1 { q with heap := h2, toks := tk2 } := StepF.priv F1.st hUB (fun a o w e => hk2 a o (fun hw => w (.inr (hWw a hw))) e) hsz2 rfl rfl
    have F2 := F1.trans P2
    have P2w : StepF Wp b Bp μ1 H1 q μ1 H1 { q with heap := h2, toks := tk2 } := StepF.priv F1.st hWB (fun a o w e => hk2 a o (fun hw => w (hWw a hw)) e) hsz2 rfl rfl
    have L2 : Slots b Bp sc T env ρ1 μ1 H1 h2 := L1.stepF F1.st P2w hWB (hOW _ (.inl rfl)) fun x c e => hOW _ (.inr ⟨x, e⟩)
    have V2 : VR b.scr μ1 (Bad Bp μ1 H1) h2 v v' := by
      have a1 : VR b.scr μ (Bad Bp μ H) s'.heap v v' := VR.more hk0 (fun a z => z.imp id fun z => z.1) hv2
      exact VR.stepF F2 hUB a1
    show wpAny _ A (pure ()) _ _ _
    refine wpAny_pure ?_
    refine wpAny_assign_Name (store_slot hT hk hkk F2.st L2 X V2 fun s3 P3 L3 => ?_)
    have F3 := F2.trans (P3.mono fun a w => .inl w)
    have hst3 : St' (j + 1) s3.heap := Wk.frame _ _ _ hst2 fun a ha o e => P3.keep a o e (fpk a ha) (hfO a ha)
    refine fh_elim hrun fun fl4 ρ4 H4 e4 hrun => hB hb e4 hr F3.st L3 X fun f s4 μ4 P4 L4 hf4 => ?_
    have F4 := F3.trans (P4.mono fun a w => .inl w)
    cases fl4 with
    | next =>
      obtain rfl := hf4
      exact ⟨vs.length + 1 - (j + 1), less_turn hlt, j + 1, ρ4, H4, μ4, hlt, rfl, hrun, F4, L4, Wk.frame _ _ _ hst3 fun a ha o e => P4.keep a o e (fpk a ha) (hfO a ha)⟩
    | ret w =>
      obtain ⟨rfl, rfl, rfl⟩ := tri_inj hrun
      obtain ⟨rv, rfl, r⟩ := hf4
      have o := Z.out (fl := .ret w) (f := .ret rv) L F4 L4 ⟨rv, rfl, r⟩
      exact hR _ s4 μ4 o.1 o.2.1 o.2.2
  · obtain rfl : j = vs.length := Nat.le_antisymm hj (Nat.not_lt.mp hlt)
    rw [List.drop_length] at hrun
    obtain ⟨rfl, rfl, rfl⟩ := tri_inj (show some (.next, ρ1, H1) = some (fl, ρ', H') from hrun)
    refine with_size ?_
    refine Wk.done _ _ _ (hlen ▸ hst1) fun h2 tk2 hk2 hsz2 => ?_
    have P2 : StepF (fun a => Own env a ∨ Wp a) b Bp μ1 H1 q μ1 H1 { q with heap := h2, toks := tk2 } := StepF.priv F1.st hUB (fun a o w e => hk2 a o (fun hw => w (.inr (hWw a hw))) e) hsz2 rfl rfl
    have P2w : StepF Wp b Bp μ1 H1 q μ1 H1 { q with heap := h2, toks := tk2 } := StepF.priv F1.st hWB (fun a o w e => hk2 a o (fun hw => w (hWw a hw)) e) hsz2 rfl rfl
    have L2 : Slots b Bp sc T env ρ1 μ1 H1 h2 := L1.stepF F1.st P2w hWB (hOW _ (.inl rfl)) fun x c e => hOW _ (.inr ⟨x, e⟩)
    refine wpAny_execs_nil ?_
    have o := Z.out (fl := .next) (f := .next) L (F1.trans P2) L2 rfl
    exact hR _ _ μ1 o.1 o.2.1 o.2.2

theorem st_forL (ok : Ok b ns K mg mb) (hC : CallsOk b C n) {i : Nat} {x : X} {body : S} (hB : ExOK b ns C n body) : StOK b ns C n (.forL i x body) := by
  intro sc T ss hm ρ H fl ρ' H' hv
  refine ob3_elim (mS_forL_eq.symm.trans hm) fun t e bs hs hm => and_elim hm fun hm h4 => and_elim hm fun hm h3 => and_elim hm fun h1 h2 => sFor_elim (R := fun ss => StG b n sc T ss ρ H fl ρ' H') hs fun p => ?_
  refine lh_elim (ex_forL_eq.symm.trans hv) fun xs H1 e1 hv => if_elim hv fun hi hv => ?_
  intro A s μ B₀ env hr S L X Q E hQ
  refine wpAny_For ((x_ok ok hC x).1 h3 e1 hr S L fun rv s1 μ1 P1 V1 => src_list hr.handled P1.st V1 fun it s2 hsrc => ?_) (notSet_folded h2)
  exact for_core hB h4 h1 hv hr P1.st (L.step S P1) X hsrc fun f q μ2 P2 L2 hf => hQ f q μ2 (P1.f.trans P2) L2 hf
theorem st_forR (ok : Ok b ns K mg mb) (hC : CallsOk b C n) {i : Nat} {x : X} {body : S} (hB : ExOK b ns C n body) : StOK b ns C n (.forR i x body) := by
  intro sc T ss hm ρ H fl ρ' H' hv
  refine ob3_elim (mS_forR_eq.symm.trans hm) fun t e bs hs hm => oc1_elim hm fun fe a hc hm => and_elim hm fun hm h5 => and_elim hm fun hm h4 => and_elim hm fun hm h3 => and_elim hm fun h1 h2 => sFor_elim (R := fun ss => StG b n sc T ss ρ H fl ρ' H') hs fun p => ?_
  refine asCall_elim (R := fun e => StG b n sc T (.For t e bs [] p) ρ H fl ρ' H') hc fun p' => ?_
  refine ih_elim (ex_forR_eq.symm.trans hv) fun m H1 e1 hv => if_elim hv fun hi hv => ?_
  intro A s μ B₀ env hr S L X Q E hQ
  refine wpAny_For (call_t ok (id := "range") bu_range h2 S L.eok h3 rfl (one_arg (x_ok ok hC x).1 h3 h4 e1 hr S L fun rv s1 μ1 P1 V1 => ?_)) (notSet_folded rfl)
  refine fr_int V1 fun tk => ?_
  refine src_range hr.handled P1.st hi.2.1 hi.2.2 fun it s2 hsrc => ?_
  exact for_core hB h5 h1 hv hr P1.st (L.step S P1) X hsrc fun f q μ2 P2 L2 hf => hQ f q μ2 (P1.f.trans P2) L2 hf

/-! ## enumerate -/
set_option maxHeartbeats 4000000 in
theorem names_star {y1 y2 : Str} {p1 p2 : Pos} : ∀ t ∈ [Expr.Name y1 p1, .Name y2 p2], notStar t = true := List.forall_mem_cons.mpr ⟨rfl, List.forall_mem_singleton.mpr rfl⟩
theorem forE_core {i j : Nat} {body : S} {bs : List Stmt} (hB : ExOK b ns C n body) (h6 : mSs sc T body bs = true) {y1 y2 : Str} {k1 k2 : NameKind} {py1 py2 pt : Pos} {k0 : Nat} (hT1 : T[i]? = some (some (y1, k1))) (hk1 : sc.names.lookup y1 = some k1) (hkk1 : k1 = .local ∨ k1 = .cell) (hT2 : T[j]? = some (some (y2, k2))) (hk2 : sc.names.lookup y2 = some k2) (hkk2 : k2 = .local ∨ k2 = .cell)
    {xs : List D} {fl : Fl} (hv : forLoopE (fun k v ρ H => exec ns C body ((ρ.set i (.d (.int (k : Nat)))).set j v) H) 0 (xs.map .d) ρ H = some (fl, ρ', H')) {A : Around} (hr : Room A n) (S : St b B₀ μ H s.heap) (L : Slots b B₀ sc T env ρ μ H s.heap) (X : Fix T env) {l : Addr} {its : List Value} (hl0 : s.heap.PlainList l its.toArray) (nb : ¬ Bad B₀ μ H l) (hf : FRs (Bad B₀ μ H) s.heap xs its)
    {R : Result → Shared → Prop} {E : Value → Shared → Prop} (hQ : ∀ f q μ', StepF (Own env) b B₀ μ H s μ' H' q → Slots b B₀ sc T env ρ' μ' H' q.heap → FlR b.scr μ' (Bad B₀ μ' H') q.heap fl f → R (.ok f) q) :
    wpAny (model b.prog b.w) A (call (.type "enumerate") [.ref l]) (fun x s₁ => wpAny (model b.prog b.w) A (pyIter x) (fun it s₂ => codeAny (model b.prog b.w) A (.forLoop (.Tuple [.Name y1 py1, .Name y2 py2] k0 pt) it bs [] env) R s₂) E s₁) E s := by
  obtain ⟨c, hl⟩ := hl0
  have hlt : l < s.heap.objs.size := Heap.lt_size hl
  refine call_enumerate_1 hl fun h' he hit hsz hk => ?_
  refine wpAny_pyIter_enum he ?_
  have hei : s.heap.objs.size + 1 ≠ s.heap.objs.size := Nat.succ_ne_self _
  have Wk := WalksT.enumerate (prog := b.prog) (w := b.w) (A := A) hr.handled (s.heap.objs.size + 1) s.heap.objs.size l hei (Nat.ne_of_lt (Nat.lt_succ_of_lt hlt)) (Nat.ne_of_lt hlt) its.toArray
  generalize hs' : ({ s with heap := h' } : Shared) = s'
  have hh' : s'.heap = h' := by rw [← hs']
  let Wp : Addr → Prop := fun a => s.heap.objs.size ≤ a ∧ a < s'.heap.objs.size
  let Bp : Addr → Prop := fun a => B₀ a ∨ Wp a
  have hz0 : s.heap.objs.size ≤ s'.heap.objs.size := by rw [hh', hsz]; exact Nat.le_add_right _ 2
  have Z : Priv b B₀ env s s' Wp Bp := ⟨fun a => Iff.rfl, fun a => Iff.rfl, by rw [hh']; exact hk, hz0, by rw [← hs'], by rw [← hs']⟩
  have hWB : ∀ a, Wp a → Bp a := fun a w => .inr w
  have hWw : ∀ a ∈ [s.heap.objs.size + 1, s.heap.objs.size], Wp a := all_2 ⟨Nat.le_succ _, by rw [hh', hsz]; exact Nat.lt_succ_self _⟩ ⟨Nat.le_refl _, by rw [hh', hsz]; exact Nat.lt_add_of_pos_right (by decide)⟩
  have SA : St b Bp μ H s'.heap := S.more Z.keep hz0 fun a z => z
  have LA : Slots b Bp sc T env ρ μ H s'.heap := L.more Z.keep (fun a z => .inl z) fun a z => z.imp id fun z => z.1
  have hOB : ∀ a, Own env a → Bp a := fun a w => .inl (own_priv L a w)
  have hOW : ∀ a, Own env a → ¬ Wp a := fun a w z => Nat.lt_irrefl _ (Nat.lt_of_lt_of_le (S.bad0 _ (own_priv L a w)).2 z.1)
  have hUB : ∀ a, (Own env a ∨ Wp a) → Bp a := fun a w => w.elim (hOB a) (hWB a)
  have hfp : ∀ a ∈ [s.heap.objs.size + 1, s.heap.objs.size, l], a < s'.heap.objs.size ∧ ¬ Live μ H a ∧ ¬ B₀ a := List.forall_mem_cons.mpr ⟨⟨(hWw _ List.mem_cons_self).2, new_free S (Nat.le_succ _)⟩, all_2 ⟨(hWw _ (List.mem_cons_of_mem _ List.mem_cons_self)).2, new_free S (Nat.le_refl _)⟩ ⟨Nat.lt_of_lt_of_le hlt hz0, fun z => nb (.inr z), fun z => nb (.inl z)⟩⟩
  have hfO : ∀ a ∈ [s.heap.objs.size + 1, s.heap.objs.size, l], ¬ Own env a := fun a ha w => (hfp a ha).2.2 (own_priv L a w)
  have hlen : its.toArray.size = xs.length := (frs_length hf).symm
  refine codeAny_forLoop_any
    (LoopInv b sc T env xs.length (fun jj ρ H => forLoopE (fun k v ρ H => exec ns C body ((ρ.set i (.d (.int (k : Nat)))).set j v) H) jj ((xs.map .d).drop jj) ρ H) (fl, ρ', H') (fun a => Own env a ∨ Wp a) Bp μ H s' fun jj h => (∃ old, IsEnum h (s.heap.objs.size + 1) s.heap.objs.size jj old) ∧ h.IsListIter s.heap.objs.size l jj ∧ h.IsList l its.toArray) ?_ (xs.length + 1)
    ⟨0, ρ, H, μ, Nat.zero_le _, rfl, hv, (Step.refl SA).f, LA, ⟨.none, hh' ▸ he⟩, hh' ▸ hit, (show h'.IsList l its.toArray from ⟨_, hk _ _ hl, rfl, c, rfl⟩) |> fun z => hh' ▸ z⟩
  rintro k q ⟨jj, ρ1, H2, μ1, hj, rfl, hrun, F1, L1, hst1⟩
  have fpk : ∀ a ∈ [s.heap.objs.size + 1, s.heap.objs.size, l], ¬ Live μ1 H2 a := fun a ha l => by
    rcases F1.fresh a l with z | z
    · exact (hfp a ha).2.1 z
    · exact Nat.lt_irrefl _ (Nat.lt_of_lt_of_le (hfp a ha).1 z)
  by_cases hltj : jj < xs.length
  · refine with_size ?_
    refine Wk.item jj _ _ _ (le_of_turn hltj hlen) hst1 fun T' vals h2 tk2 hPv hTn hTt hMid hkh hsz2 => ?_
    obtain ⟨tkk, v', hv1, rfl⟩ := hPv
    obtain ⟨rv2, hv2, r2⟩ := (frs_all2 hf).get (List.getElem?_eq_getElem hltj)
    obtain rfl := Option.some.inj ((List.getElem?_toArray.symm.trans hv1).symm.trans hv2)
    rw [← List.map_drop, List.drop_eq_getElem_cons hltj, List.map_cons, List.map_drop] at hrun
    refine with_size ?_
    refine Wk.go _ k0 pt jj T' _ _ _ hMid fun h3 hst3 hk3 hsz3 => ?_
    have P3 : StepF (fun a => Own env a ∨ Wp a) b Bp μ1 H2 q μ1 H2 { q with heap := h3, toks := tk2 } := StepF.priv F1.st hUB (fun a o w e => hk3 a o (fun hw => w (.inr (hWw a hw))) (hkh a o (fun hw => w (.inr (hWw a hw))) e)) (Nat.le_trans hsz2 hsz3) rfl rfl
    have P3w : StepF Wp b Bp μ1 H2 q μ1 H2 { q with heap := h3, toks := tk2 } := StepF.priv F1.st hWB (fun a o w e => hk3 a o (fun hw => w (hWw a hw)) (hkh a o (fun hw => w (hWw a hw)) e)) (Nat.le_trans hsz2 hsz3) rfl rfl
    have F3 := F1.trans P3
    have L3 : Slots b Bp sc T env ρ1 μ1 H2 h3 := L1.stepF F1.st P3w hWB (hOW _ (.inl rfl)) fun x c e => hOW _ (.inr ⟨x, e⟩)
    have V3 : VR b.scr μ1 (Bad Bp μ1 H2) h3 (.d xs[jj]) v' := by
      have a1 : VR b.scr μ (Bad Bp μ H) s'.heap (.d xs[jj]) v' := VR.more Z.keep (fun a z => z.imp id fun z => z.1) (v := .d xs[jj]) r2
      exact VR.stepF F3 hUB a1
    have hT3 : h3.IsTuple T' #[.int jj tkk, v'] := hTt.at fun o e => hk3 T' o (Wk.apart jj T' h2 hMid) e
    refine unpack_val (s := { q with heap := h3, toks := tk2 }) (ts := [.Name y1 py1, .Name y2 py2]) (rvs := [.int jj tkk, v']) names_star hT3 rfl hr F3.st fun s4 P4 => ?_
    show wpAny _ A (assignInOrder [assign (.Name y1 py1) env, assign (.Name y2 py2) env] [_, _]) _ _ _
    refine wpAny_bind (wpAny_holding (wpAny_assign_Name (store_slot (v := .d (.int jj)) hT1 hk1 hkk1 P4.st (L3.step F3.st P4) X (.int _ _) fun s5 P5 L5 => ?_)))
    refine wpAny_bind (wpAny_holding (wpAny_assign_Name (store_slot hT2 hk2 hkk2 P5.st L5 X (VR.stepF P5 hOB (VR.step P4 V3)) fun s6 P6 L6 => wpAny_pure ?_)))
    have P46 := (P4.f.trans P5).trans P6
    have F6 := F3.trans (P46.mono fun a w => .inl w)
    have hst6 := Wk.frame _ _ _ hst3 fun a ha o e => P46.keep a o e (fpk a ha) (hfO a ha)
    refine fh_elim hrun fun fl4 ρ4 H4 e4 hrun => hB h6 e4 hr F6.st L6 X fun f s7 μ7 P7 L7 hf7 => ?_
    have F7 := F6.trans (P7.mono fun a w => .inl w)
    cases fl4 with
    | next =>
      obtain rfl := hf7
      exact ⟨xs.length + 1 - (jj + 1), less_turn hltj, jj + 1, ρ4, H4, μ7, hltj, rfl, hrun, F7, L7, Wk.frame _ _ _ hst6 fun a ha o e => P7.keep a o e (fpk a ha) (hfO a ha)⟩
    | ret w =>
      obtain ⟨rfl, rfl, rfl⟩ := tri_inj hrun
      obtain ⟨rv, rfl, r⟩ := hf7
      have o := Z.out (fl := .ret w) (f := .ret rv) L F7 L7 ⟨rv, rfl, r⟩
      exact hQ _ s7 μ7 o.1 o.2.1 o.2.2
  · obtain rfl : jj = xs.length := Nat.le_antisymm hj (Nat.not_lt.mp hltj)
    rw [← List.map_drop, List.drop_length] at hrun
    obtain ⟨rfl, rfl, rfl⟩ := tri_inj (show some (.next, ρ1, H2) = some (fl, ρ', H') from hrun)
    refine with_size ?_
    refine Wk.done _ _ _ (hlen ▸ hst1) fun h2 tk2 hk2 hsz2 => ?_
    have P2 : StepF (fun a => Own env a ∨ Wp a) b Bp μ1 H2 q μ1 H2 { q with heap := h2, toks := tk2 } := StepF.priv F1.st hUB (fun a o w e => hk2 a o (fun hw => w (.inr (hWw a hw))) e) hsz2 rfl rfl
    have P2w : StepF Wp b Bp μ1 H2 q μ1 H2 { q with heap := h2, toks := tk2 } := StepF.priv F1.st hWB (fun a o w e => hk2 a o (fun hw => w (hWw a hw)) e) hsz2 rfl rfl
    have L2 : Slots b Bp sc T env ρ1 μ1 H2 h2 := L1.stepF F1.st P2w hWB (hOW _ (.inl rfl)) fun x c e => hOW _ (.inr ⟨x, e⟩)
    refine wpAny_execs_nil ?_
    have o := Z.out (fl := .next) (f := .next) L (F1.trans P2) L2 rfl
    exact hQ _ _ μ1 o.1 o.2.1 o.2.2
theorem st_forE (ok : Ok b ns K mg mb) (hC : CallsOk b C n) {i j : Nat} {x : X} {body : S} (hB : ExOK b ns C n body) : StOK b ns C n (.forE i j x body) := by
  intro sc T ss hm ρ H fl ρ' H' hv
  refine ob3_elim (mS_forE_eq.symm.trans hm) fun t e bs hs hm => otc_elim hm fun t1 t2 fe a htup hc hm => and_elim hm fun hm h6 => and_elim hm fun hm h5 => and_elim hm fun hm h4 => and_elim hm fun hm h3 => and_elim hm fun hm h2 => and_elim hm fun hij h1 => sFor_elim (R := fun ss => StG b n sc T ss ρ H fl ρ' H') hs fun p => ?_
  refine asCall_elim (R := fun e => StG b n sc T (.For t e bs [] p) ρ H fl ρ' H') hc fun p' => ?_
  refine asTup_elim (R := fun t => StG b n sc T (.For t _ bs [] p) ρ H fl ρ' H') htup fun k0 pt => ?_
  refine isSlot_elim (R := fun t1 => StG b n sc T (.For (.Tuple [t1, t2] k0 pt) _ bs [] p) ρ H fl ρ' H') h1 fun y1 k1 py1 hT1 hk1 hkk1 => ?_
  refine isSlot_elim (R := fun t2 => StG b n sc T (.For (.Tuple [.Name y1 py1, t2] k0 pt) _ bs [] p) ρ H fl ρ' H') h2 fun y2 k2 py2 hT2 hk2 hkk2 => ?_
  refine lh_elim (ex_forE_eq.symm.trans hv) fun xs H1 e1 hv => if_elim hv fun hi hv => ?_
  clear hs hc htup hm h1 h2 hi
  intro A s₀ μ₀ B₀ env hr S₀ L₀ X Q E hQ
  refine wpAny_For (call_t ok (id := "enumerate") bu_enumerate h3 S₀ L₀.eok h4 rfl (one_arg (x_ok ok hC x).1 h4 h5 e1 hr S₀ L₀ fun rv s μ P0 V1 => ?_)) (notSet_folded rfl)
  refine fr_lstP V1 fun l its hl hz nb hf => ?_
  clear V1
  exact forE_core hB h6 hT1 hk1 hkk1 hT2 hk2 hkk2 hv hr P0.st (L₀.step S₀ P0) X hl nb hf fun f q μ2 P2 L2 hf => hQ f q μ2 (P0.f.trans P2) L2 hf
end Mine
end

/-! ### Sound6f -/
section
set_option tactic.hygienic false
set_option genSizeOf false
set_option bootstrap.genMatcherCode false
open PySem PySem.W PyProof.Rows PySem.Calls PySem.SeqAt
set_option linter.unusedVariables false
set_option linter.unusedSimpArgs false
set_option maxRecDepth 100000
namespace Mine
variable {b : Base} {ns : List Int} {K : Frag} {mg mb : Str → Option Value} {B₀ B₁ : Addr → Prop} {sc sc' : Scope} {T : List Slot} {env : Env} {ρ ρ' : List V} {μ μ' μ'' : Mu} {H H' H'' : List O} {s s' s'' : Shared} {C : Calls'} {n : Nat} {W : Addr → Prop}

theorem st_ifs (ok : Ok b ns K mg mb) (hC : CallsOk b C n) {c : X} {x y : S} (hx : ExOK b ns C n x) (hy : ExOK b ns C n y) : StOK b ns C n (.ifs c x y) := by
  intro sc T ss hm ρ H fl ρ' H' hv
  refine ob3_elim (mS_ifs_eq.symm.trans hm) fun ce as bs hs hm => and_elim hm fun hm h3 => and_elim hm fun h1 h2 => sIf_elim (R := fun ss => StG b n sc T ss ρ H fl ρ' H') hs fun p => ?_
  refine bh_elim (ex_ifs_eq.symm.trans hv) fun k H1 e1 hv => ?_
  intro A s μ B₀ env hr S L X Q E hQ
  refine wpAny_If ((x_ok ok hC c).2 h1 e1 hr S L fun s1 μ1 P1 => ?_)
  cases k with
  | true =>
    exact hx h2 hv hr P1.st (L.step S P1) X fun f s2 μ2 P2 L2 hf => hQ f s2 μ2 (P1.f.trans P2) L2 hf
  | false =>
    exact hy h3 hv hr P1.st (L.step S P1) X fun f s2 μ2 P2 L2 hf => hQ f s2 μ2 (P1.f.trans P2) L2 hf

theorem whl_elim {P : Prop} {test : List V → List O → Option (V × List O)} {body : List V → List O → Option (Fl × List V × List O)} {m : Nat} {r : Fl × List V × List O} (h : whileLoop test body m ρ H = some r)
    (k : ∀ m' k H1, m = m' + 1 → test ρ H = some (.d (.bool k), H1) → (match k with
      | true => fh (body ρ H1) fun ρ H => whileLoop test body m' ρ H
      | false => some (.next, ρ, H1)) = some r → P) : P := match m, h with
  | 0, h => no_some h
  | m + 1, h => bh_elim h fun b H1 e h => k m b H1 rfl e h
inductive WhlInv (b : Base) (sc : Scope) (T : List Slot) (env : Env) (rest : Nat → List V → List O → Option (Fl × List V × List O)) (r : Fl × List V × List O) (B₀ : Addr → Prop) (μ : Mu) (H : List O) (s : Shared) (m : Nat) (q : Shared) : Prop
  | mk (ρ₁ : List V) (H₁ : List O) (μ₁ : Mu) (h1 : rest m ρ₁ H₁ = some r) (h2 : StepF (Own env) b B₀ μ H s μ₁ H₁ q) (h3 : Slots b B₀ sc T env ρ₁ μ₁ H₁ q.heap)
theorem st_whl (ok : Ok b ns K mg mb) (hC : CallsOk b C n) {k : Nat} {c : X} {x : S} (hx : ExOK b ns C n x) : StOK b ns C n (.whl k c x) := by
  intro sc T ss hm ρ H fl ρ' H' hv
  refine ob2_elim (mS_whl_eq.symm.trans hm) fun ce bs hs hm => and_elim hm fun h1 h2 => sWhile_elim (R := fun ss => StG b n sc T ss ρ H fl ρ' H') hs fun p => ?_
  clear hs hm
  intro A s μ B₀ env hr S L X Q E hQ
  refine wpAny_While (codeAny_whileLoop
    (WhlInv b sc T env (whileLoop (fun ρ H => ev ns C c ρ H) (fun ρ H => exec ns C x ρ H)) (fl, ρ', H') B₀ μ H s) ?_ k ⟨ρ, H, μ, hv, (Step.refl S).f, L⟩)
  rintro m q ⟨ρ1, H1, μ1, hrun, P1, L1⟩
  refine whl_elim hrun fun m' kk H2 em e2 hrun => (x_ok ok hC c).2 h1 e2 hr P1.st L1 fun s2 μ2 P2 => ?_
  have L2 := L1.step P1.st P2
  cases kk with
  | true =>
    refine fh_elim hrun fun fl3 ρ3 H3 e3 hrun => hx h2 e3 hr P2.st L2 X fun f s3 μ3 P3 L3 hf => ?_
    have P := (P1.trans P2.f).trans P3
    cases fl3 with
    | next => obtain rfl := hf; exact ⟨m', em ▸ Nat.lt_succ_self _, ρ3, H3, μ3, hrun, P, L3⟩
    | ret w =>
      obtain ⟨rfl, rfl, rfl⟩ := tri_inj hrun
      obtain ⟨rv, rfl, r⟩ := hf
      exact hQ _ s3 μ3 P L3 ⟨rv, rfl, r⟩
  | false =>
    obtain ⟨rfl, rfl, rfl⟩ := tri_inj hrun
    exact wpAny_execs_nil (hQ _ s2 μ2 (P1.trans P2.f) L2 rfl)

/-- a tracked name let go -/
theorem killV_ok {i : Nat} {fl : Fl} (hv : exec ns C (.killV i) ρ H = some (fl, ρ', H')) (S : St b B₀ μ H s.heap) (L : Slots b B₀ sc T env ρ μ H s.heap) : fl = .next ∧ Step b B₀ μ H s μ H' s ∧ Slots b B₀ sc T env ρ' μ H' s.heap := by
  refine oh_elim (ex_killV_eq.symm.trans hv) fun v e1 hv => lv_elim (R := fun v => ρ[i]? = some v → _) hv (fun l hv e1 => oh_elim hv fun x ex hv => ?_) e1
  obtain ⟨rfl, rfl, rfl⟩ := tri_inj hv
  have e2 := getO_get (H := H) (l := l) rfl (killO_live ex)
  have hl' : l < μ.length := S.len ▸ (List.getElem?_eq_some_iff.mp e2).1
  have hp := List.getElem?_eq_getElem hl'
  obtain ⟨P, F⟩ := kill_ok S hp e2 (killO_live ex) ex
  have L1 := L.step S P
  have F' : ∀ rv, VR b.scr μ (Bad B₀ μ (H.set l .dead)) s.heap (.loc l) rv → VR b.scr μ (Bad B₀ μ (H.set l .dead)) s.heap (.d x) rv := by
    rintro rv ⟨q, g, rfl⟩
    exact Option.some.inj (hp.symm.trans g) ▸ F
  refine ⟨rfl, P, L1.eok, L1.own, L1.ownC, List.length_set.trans L1.len, L1.ns.elim fun m h => ⟨m, h.1, fun j y v h1 h2 h3 => ?_⟩, fun j y h1 => ?_⟩
  · rcases getElem?_set' h2 with ⟨rfl, rfl, _⟩ | ⟨_, h2⟩
    · exact (h.2 i y _ h1 e1 nofun).elim fun rv g => ⟨rv, g.1, F' rv g.2⟩
    · exact h.2 j y v h1 h2 h3
  · obtain ⟨c, v₀, g1, g2, g3⟩ := L1.cs j y h1
    refine ⟨c, v₀, g1, g2, fun v h2 h3 => ?_⟩
    rcases getElem?_set' h2 with ⟨rfl, rfl, _⟩ | ⟨_, h2⟩
    · exact (g3 _ e1 nofun).elim fun rv g => ⟨rv, g.1, F' rv g.2⟩
    · exact g3 v h2 h3

theorem ex_skip : ExOK b ns C n .skip := by
  intro sc T ss hm ρ H fl ρ' H' hv
  exact l0_elim (R := fun ss => ExG b n sc T ss ρ H fl ρ' H') hm (st_elim hv fun A s μ B₀ env hr S L X Q E hQ => wpAny_execs_nil (hQ _ s μ (Step.refl S).f L rfl))
theorem ex_kill {i : Nat} {y : S} (hy : ExOK b ns C n y) : ExOK b ns C n (.seq (.killV i) y) := by
  intro sc T ss hm ρ H fl ρ' H' hv
  refine fh_elim (ex_seq_eq.symm.trans hv) fun fl1 ρ1 H1 e1 hv => ?_
  intro A s μ B₀ env hr S L X Q E hQ
  obtain ⟨rfl, P1, L1⟩ := killV_ok e1 S L
  exact hy hm hv hr P1.st L1 X fun f s2 μ2 P2 L2 hf => hQ f s2 μ2 (P1.f.trans P2) L2 hf
theorem ex_seq {x y : S} (hk : isKill x = false) (hx : StOK b ns C n x) (hy : ExOK b ns C n y) : ExOK b ns C n (.seq x y) := by
  intro sc T ss hm ρ H fl ρ' H' hv
  have hm : (lc ss fun s ss => mS sc T x s && mSs sc T y ss) = true := by
    have h := mSs_seq_eq.symm.trans hm
    rw [hk] at h; exact h
  refine lc_elim (R := fun ss => ExG b n sc T ss ρ H fl ρ' H') hm fun st r hm => and_elim hm fun hm1 hm2 => fh_elim (ex_seq_eq.symm.trans hv) fun fl1 ρ1 H1 e1 hv => ?_
  intro A s μ B₀ env hr S L X Q E hQ
  refine wpAny_execs_cons (hx hm1 e1 hr S L X fun f s1 μ1 P1 L1 hf => ?_)
  cases fl1 with
  | next =>
    obtain rfl := hf
    exact hy hm2 hv hr P1.st L1 X fun f s2 μ2 P2 L2 hf2 => hQ f s2 μ2 (P1.trans P2) L2 hf2
  | ret w =>
    obtain ⟨rfl, rfl, rfl⟩ := tri_inj hv
    obtain ⟨rv, rfl, r⟩ := hf
    exact hQ _ s1 μ1 P1 L1 ⟨rv, rfl, r⟩
theorem ex_none {x : S} (h : ∀ sc T ss, mSs sc T x ss = false) : ExOK b ns C n x := fun {sc T ss} hm => ff_elim ((h sc T ss).symm.trans hm)
theorem st_none {x : S} (h : ∀ sc T ss, mS sc T x ss = false) : StOK b ns C n x := fun {sc T ss} hm => ff_elim ((h sc T ss).symm.trans hm)
noncomputable def SOk (b : Base) (ns : List Int) (C : Calls') (n : Nat) (x : S) : Prop := ExOK b ns C n x ∧ StOK b ns C n x
theorem SOk.st {x : S} (h : StOK b ns C n x) (k : ∀ sc T ss, mSs sc T x ss = false) : SOk b ns C n x := ⟨ex_none k, h⟩
theorem SOk.seq {x y : S} (hx : SOk b ns C n x) (hy : SOk b ns C n y) : SOk b ns C n (.seq x y) := by
  refine ⟨?_, st_none fun _ _ _ => rfl⟩
  cases hk : isKill x with
  | true => exact isKill_elim (R := fun x => ExOK b ns C n (.seq x y)) hk fun i => ex_kill hy.1
  | false => exact ex_seq hk hx.2 hy.1
theorem s_ok (ok : Ok b ns K mg mb) (hC : CallsOk b C n) (x : S) : ExOK b ns C n x ∧ StOK b ns C n x :=
  S.rec (motive := SOk b ns C n) ⟨ex_skip, st_none fun _ _ _ => rfl⟩ (fun x y hx hy => hx.seq hy)
    (fun i x => .st (st_asg ok hC) fun _ _ _ => rfl) (fun is xs => .st (st_asgT ok hC) fun _ _ _ => rfl) (fun o f x => .st (st_setA ok hC) fun _ _ _ => rfl) (fun o i x => .st (st_setI ok hC) fun _ _ _ => rfl)
    (fun o fs xs => .st (st_setTA ok hC) fun _ _ _ => rfl) (fun _ _ _ _ _ _ => .st (st_setTI ok hC) fun _ _ _ => rfl) (fun o x => .st (st_app ok hC) fun _ _ _ => rfl) (fun f xs => .st (st_ini ok hC) fun _ _ _ => rfl)
    (fun c a d ha hd => .st (st_ifs ok hC ha.1 hd.1) fun _ _ _ => rfl) (fun k c a ha => .st (st_whl ok hC ha.1) fun _ _ _ => rfl) (fun i x a ha => .st (st_forL ok hC ha.1) fun _ _ _ => rfl) (fun i x a ha => .st (st_forR ok hC ha.1) fun _ _ _ => rfl)
    (fun i j x a ha => .st (st_forE ok hC ha.1) fun _ _ _ => rfl) (fun x => .st (st_ret ok hC) fun _ _ _ => rfl) (fun i => .st (st_none fun _ _ _ => rfl) fun _ _ _ => rfl) x
end Mine
end

/-! ### Sound7a -/
section
set_option tactic.hygienic false
set_option genSizeOf false
set_option bootstrap.genMatcherCode false
open PySem PySem.W PyProof.Rows PySem.Calls PySem.SeqAt
set_option linter.unusedVariables false
set_option linter.unusedSimpArgs false
set_option maxRecDepth 100000
namespace Mine

theorem zip_lookup : ∀ {xs : List Str} {vs : List Value} {x : Str}, xs.length = vs.length → x ∈ xs → ((xs.zip vs).lookup x).isSome = true
  | [], vs, x, _, h => by cases h
  | y :: xs, [], x, e, _ => by cases e
  | y :: xs, v :: vs, x, e, h => by
    rw [List.zip_cons_cons, List.lookup_cons]
    cases hb : x == y with
    | true => rfl
    | false =>
      simp only
      refine zip_lookup (by simpa using e) ?_
      rcases List.mem_cons.mp h with rfl | h
      · simp at hb
      · exact h
theorem zip_filter : ∀ {xs : List Str} {vs : List Value}, xs.length = vs.length → xs.Nodup → (xs.filterMap fun n => ((xs.zip vs).lookup n).map (n, ·)) = xs.zip vs := by
  have gen : ∀ (xs : List Str) (vs : List Value) (pre : List (Str × Value)), xs.length = vs.length → xs.Nodup → (∀ p ∈ pre, p.1 ∉ xs) → (xs.filterMap fun n => ((pre ++ xs.zip vs).lookup n).map (n, ·)) = xs.zip vs := by
    intro xs
    induction xs with
    | nil => intro vs pre _ _ _; rfl
    | cons x xs ih =>
      intro vs pre e hn hp
      cases vs with
      | nil => cases e
      | cons v vs =>
        obtain ⟨h1, h2⟩ := List.nodup_cons.mp hn
        have hx : (pre ++ (x :: xs).zip (v :: vs)).lookup x = some v := by
          have : pre.lookup x = none := by
            rw [List.lookup_eq_none_iff]
            intro p hpp
            have := hp p hpp
            simp only [List.mem_cons, not_or] at this
            simpa [bne_iff_ne] using fun z => this.1 z.symm
          rw [List.lookup_append, this, List.zip_cons_cons, List.lookup_cons]
          simp
        rw [List.filterMap_cons, hx]
        simp only [Option.map_some, List.zip_cons_cons]
        congr 1
        have e2 := ih vs (pre ++ [(x, v)]) (by simpa using e) h2 (fun p hpp => by
          rcases List.mem_append.mp hpp with hpp | hpp
          · exact fun z => hp p hpp (List.mem_cons_of_mem _ z)
          · rw [List.mem_singleton.mp hpp]; exact h1)
        simpa using e2
  intro xs vs e hn
  simpa using gen xs vs [] e hn (by simp)

theorem bind_plain' {nm q : Str} {as : List Arg} {kd : List (Option Expr)} {ds : List Expr} {body : FuncBody} {sc : Scope} {gl : Addr} {cl : List (Str × Addr)} {kw doc py : Value} {an : Option Addr} {cd ct : Value} {bl : Addr} {vals : List Value} (h6 : (as.map (·.arg)).Nodup) (h7 : vals.length = as.length) :
    bindArgs ⟨nm, q, ⟨[], as, none, [], kd, none, ds⟩, body, sc, gl, cl, .none, kw, doc, py, an, cd, ct, bl⟩ ⟨vals, []⟩ = pure ((as.map (·.arg)).zip vals) := by
  have hl : (as.map (·.arg)).length = vals.length := by rw [List.length_map, h7]
  have hmiss : (as.map (·.arg)).filter (fun n => (((as.map (·.arg)).zip vals).lookup n).isNone) = [] := by
    rw [List.filter_eq_nil_iff]
    intro x hx
    have := zip_lookup hl hx
    rw [Option.isNone_iff_eq_none]
    intro z; rw [z] at this; cases this
  have hd : ∀ n, List.drop n ([] : List Value) = [] := fun n => by cases n <;> rfl
  refine (if_neg (c := (decide (vals.length > (as.map (·.arg)).length) && true) = true) ?_).trans ?_
  · rw [hl, decide_eq_false (Nat.lt_irrefl _)]; exact Bool.false_ne_true
  refine (if_neg (c := (!(List.filter (fun n => (((as.map (·.arg)).zip vals).lookup n).isNone) (List.take ((as.map (·.arg)).length - (List.drop (0 - (as.map (·.arg)).length) ([] : List Value)).length) (as.map (·.arg)))).isEmpty) = true) ?_).trans ?_
  · rw [hd, List.length_nil, Nat.sub_zero, List.take_length, hmiss]; exact Bool.false_ne_true
  show (forIn ((List.drop ((as.map (·.arg)).length - (List.drop (0 - (as.map (·.arg)).length) ([] : List Value)).length) (as.map (·.arg))).zip (List.drop (0 - (as.map (·.arg)).length) ([] : List Value))) ((as.map (·.arg)).zip vals) _ >>= _) = _
  rw [hd, List.zip_nil_right]
  show (pure (List.filterMap (fun n => (((as.map (·.arg)).zip vals).lookup n).map (n, ·)) (as.map (·.arg) ++ [])) : Sem (List (Str × Value))) = _
  rw [List.append_nil, zip_filter hl h6]
theorem bind_plain {fd : FuncData} {vals : List Value} (h1 : fd.params.posonlyargs = []) (h2 : fd.params.vararg = none) (h3 : fd.params.kwonlyargs = []) (h4 : fd.params.kwarg = none) (h5 : fd.defaults = .none) (h6 : (fd.params.args.map (·.arg)).Nodup) (h7 : vals.length = fd.params.args.length) :
    bindArgs fd ⟨vals, []⟩ = pure ((fd.params.args.map (·.arg)).zip vals) := by
  obtain ⟨nm, q, ⟨po, as, va, ko, kd, kw, ds⟩, body, sc, gl, cl, df, kwd, doc, py, an, cd, ct, bl⟩ := fd
  obtain rfl : po = [] := h1
  obtain rfl : va = none := h2
  obtain rfl : ko = [] := h3
  obtain rfl : kw = none := h4
  obtain rfl : df = .none := h5
  exact bind_plain' h6 h7
end Mine
end

/-! ### Sound7b -/
section
set_option tactic.hygienic false
set_option genSizeOf false
set_option bootstrap.genMatcherCode false
open PySem PySem.W PyProof.Rows PySem.Calls PySem.SeqAt
set_option linter.unusedVariables false
set_option linter.unusedSimpArgs false
set_option maxRecDepth 100000
namespace Mine
variable {b : Base} {ns : List Int} {K : Frag} {mg mb : Str → Option Value}

/-! ## a function of the text stands as the mini text says -/
noncomputable def tableOf (sc : Scope) (names : List Str) : List Slot := names.map fun x => (sc.names.lookup x).map fun k => (x, k)
noncomputable def objFields (o : Obj) : Option (List Value) := match o.data with
  | .fields vs => some vs.toList
  | _ => none
noncomputable def objFunc (o : Obj) : Option FuncData := match o.data with
  | .func d => some d
  | _ => none
noncomputable def strOf : Value → Option Str
  | .str x _ => some x
  | _ => none
noncomputable def refOf : Value → Option Addr
  | .ref x => some x
  | _ => none
noncomputable def isNoneV : Value → Bool
  | .none => true
  | _ => false
noncomputable def stmtsOf : FuncBody → Option (List Stmt)
  | .stmts b => some b
  | _ => none
theorem objFields_elim {P : Prop} {o : Obj} {vs : List Value} (h : objFields o = some vs) (k : ∀ a : Array Value, o.data = .fields a → a.toList = vs → P) : P := by
  unfold objFields at h
  cases hd : o.data <;> rw [hd] at h <;> first | exact no_some h | exact k _ hd (Option.some.inj h)
theorem objFunc_elim {P : Prop} {o : Obj} {d : FuncData} (h : objFunc o = some d) (k : o.data = .func d → P) : P := by
  unfold objFunc at h
  cases hd : o.data <;> rw [hd] at h <;> first | exact no_some h | exact k (Option.some.inj h ▸ hd)
theorem strOf_elim {R : Value → Prop} {v : Value} {x : Str} (h : strOf v = some x) (k : ∀ t, R (.str x t)) : R v := by
  cases v <;> first | exact no_some h | exact (Option.some.inj h).symm ▸ k _
theorem refOf_elim {R : Value → Prop} {v : Value} {x : Addr} (h : refOf v = some x) (k : R (.ref x)) : R v := by
  cases v <;> first | exact no_some h | exact (Option.some.inj h).symm ▸ k
theorem isNoneV_eq {v : Value} : isNoneV v = true → v = .none := by
  cases v <;> first | exact fun _ => rfl | exact fun h => ff_elim h
theorem stmtsOf_eq {v : FuncBody} {b : List Stmt} : stmtsOf v = some b → v = .stmts b := by
  cases v <;> first | exact fun h => no_some h | exact fun h => Option.some.inj h ▸ rfl
noncomputable def codeOk (K : Frag) (cd : Value) (q : Str) : Bool := ob1 (refOf cd) fun c => ob1 (K.lookup c) fun o => ob1 (objFields o) fun vs => ob1 vs[1]? fun v => ob1 (strOf v) fun x => decide (x = q)
noncomputable def slotOk (sc : Scope) (o : Slot) : Bool := ob2 o fun x k => match k with
  | .local => true
  | .cell => sc.names.any fun p => decide (p.1 = x) && (p.2 == .cell)
  | _ => false
noncomputable def fdOk (K : Frag) (fd : Fn) (names : List Str) (d : FuncData) (body : List Stmt) : Bool :=
    d.params.posonlyargs.isEmpty && d.params.vararg.isNone && d.params.kwonlyargs.isEmpty && d.params.kwarg.isNone && isNoneV d.defaults && d.closure.isEmpty &&
      decide (d.globals = mainGlobals) && decide (d.builtins = builtinsNs) && (d.scope.kind == .function) && !d.scope.isCoroutine && !d.scope.isGenerator &&
      decide (d.params.args.map (·.arg) = names.take fd.nargs) && decide names.Nodup && decide (names.length = fd.nslots) && decide (fd.nargs ≤ fd.nslots) && (tableOf d.scope names).all (slotOk d.scope) && codeOk K d.code d.qualname &&
      mSs d.scope (tableOf d.scope names) fd.body body
structure FdOk (K : Frag) (fd : Fn) (names : List Str) (d : FuncData) (body : List Stmt) : Prop where
  c1 : d.params.posonlyargs = []
  c2 : d.params.vararg = none
  c3 : d.params.kwonlyargs = []
  c4 : d.params.kwarg = none
  c5 : d.defaults = .none
  c6 : d.closure = []
  c7 : d.globals = mainGlobals
  c8 : d.builtins = builtinsNs
  c9 : d.scope.kind = .function
  c10 : d.scope.isCoroutine = false
  c11 : d.scope.isGenerator = false
  c12 : d.params.args.map (·.arg) = names.take fd.nargs
  c13 : names.Nodup
  c14 : names.length = fd.nslots
  c15 : fd.nargs ≤ fd.nslots
  c16 : (tableOf d.scope names).all (slotOk d.scope) = true
  c17 : codeOk K d.code d.qualname = true
  c18 : mSs d.scope (tableOf d.scope names) fd.body body = true
theorem and_l {a c : Bool} (h : (a && c) = true) : a = true := and_elim h fun h _ => h
theorem and_r {a c : Bool} (h : (a && c) = true) : c = true := and_elim h fun _ h => h
theorem not_l {a : Bool} (h : (!a) = true) : a = false := by cases a <;> first | rfl | exact ff_elim h
theorem fdOk_parts {K : Frag} {fd : Fn} {names : List Str} {d : FuncData} {body : List Stmt} (h : fdOk K fd names d body = true) : FdOk K fd names d body :=
  have h17 := and_l h; have h16 := and_l h17; have h15 := and_l h16; have h14 := and_l h15; have h13 := and_l h14; have h12 := and_l h13; have h11 := and_l h12; have h10 := and_l h11; have h9 := and_l h10; have h8 := and_l h9
  have h7 := and_l h8; have h6 := and_l h7; have h5 := and_l h6; have h4 := and_l h5; have h3 := and_l h4; have h2 := and_l h3
  ⟨List.isEmpty_iff.mp (and_l h2), Option.isNone_iff_eq_none.mp (and_r h2), List.isEmpty_iff.mp (and_r h3), Option.isNone_iff_eq_none.mp (and_r h4), isNoneV_eq (and_r h5), List.isEmpty_iff.mp (and_r h6), dec_elim (and_r h7), dec_elim (and_r h8), eq_of_beq (and_r h9), not_l (and_r h10), not_l (and_r h11),
    dec_elim (and_r h12), dec_elim (and_r h13), dec_elim (and_r h14), dec_elim (and_r h15), and_r h16, and_r h17, and_r h⟩
noncomputable def fdCheck (K : Frag) (fd : Fn) (names : List Str) (d : FuncData) : Bool := ob1 (stmtsOf d.body) fun body => fdOk K fd names d body
noncomputable def fnCheck (K : Frag) (f : Nat) : Bool := ob1 fns[f]? fun fd => ob1 (K.lookup (fnAddrs.getD f 0)) fun o => ob1 (objFunc o) fun d => fdCheck K fd (slotNames.getD f []) d

theorem codeOk_rec {cd : Value} {q : Str} {h : Heap} (X : K.In h) (e : codeOk K cd q = true) : h.CodeRec cd q :=
  ob1_elim e fun c hc e => ob1_elim e fun o ho e => ob1_elim e fun vs hv e => ob1_elim e fun v hv1 e => ob1_elim e fun x hx e => refOf_elim (R := fun cd => h.CodeRec cd q) hc (objFields_elim hv fun a ha hav =>
    strOf_elim (R := fun v => vs[1]? = some v → h.CodeRec (.ref c) q) hx (fun t hv1 => ⟨c, o, a, t, rfl, X _ _ ho, ha, dec_elim e ▸ (Array.getElem?_toList.symm.trans (hav ▸ hv1))⟩) hv1)

theorem cells_from : ∀ (names : List (Str × NameKind)) (n : Nat) (acc : List (Str × Addr)) (x : Str), ((names.any fun p => decide (p.1 = x) && (p.2 == .cell)) = true ∨ (acc.lookup x).isSome = true) → ((cellsFrom n names acc).lookup x).isSome = true
  | [], n, acc, x, h => by
    rcases h with h | h
    · cases h
    · exact h
  | (y, k) :: r, n, acc, x, h => by
    unfold cellsFrom
    by_cases hk : (k == NameKind.cell) = true
    · rw [if_pos hk]
      refine cells_from r _ _ x ?_
      rcases h with h | h
      · rw [List.any_cons, Bool.or_eq_true] at h
        rcases h with h | h
        · simp only [Bool.and_eq_true, decide_eq_true_eq] at h
          right
          rw [List.lookup_cons, ← h.1]; simp
        · exact .inl h
      · right
        rw [List.lookup_cons]
        cases x == y <;> simp [h]
    · rw [if_neg hk]
      refine cells_from r _ _ x ?_
      rcases h with h | h
      · rw [List.any_cons, Bool.or_eq_true] at h
        rcases h with h | h
        · simp only [Bool.and_eq_true] at h; exact absurd h.2 hk
        · exact .inl h
      · exact .inr h

theorem bindL_get {kindOf : Str → Option NameKind} {x : Str} (hx : kindOf x = some .local) : ∀ {xs : List Str} {vs : List Value} {m : Str → Option Value} {i : Nat} {v : Value}, xs.Nodup → xs[i]? = some x → vs[i]? = some v → bindL kindOf (xs.zip vs) m x = some v := by
  have keep : ∀ {xs : List Str} {vs : List Value} {m : Str → Option Value}, x ∉ xs → bindL kindOf (xs.zip vs) m x = m x := by
    intro xs
    induction xs with
    | nil => intro vs m _; rfl
    | cons y xs ih =>
      intro vs m h
      cases vs with
      | nil => rfl
      | cons v vs =>
        simp only [List.mem_cons, not_or] at h
        rw [List.zip_cons_cons, bindL, ih h.2]
        split
        · simp only [if_neg h.1]
        · rfl
  intro xs
  induction xs with
  | nil => intro vs m i v _ h _; simp at h
  | cons y xs ih =>
    intro vs m i v hn h1 h2
    obtain ⟨n1, n2⟩ := List.nodup_cons.mp hn
    cases vs with
    | nil => simp at h2
    | cons w vs =>
      rw [List.zip_cons_cons, bindL]
      cases i with
      | zero =>
        simp at h1 h2
        subst h1 h2
        rw [keep n1, if_pos hx]; simp
      | succ i => exact ih n2 (by simpa using h1) (by simpa using h2)
theorem bindC_get {kindOf : Str → Option NameKind} {x : Str} (hx : kindOf x ≠ some .local) : ∀ {xs : List Str} {vs : List Value} {m : Str → Option Value} {i : Nat} {v : Value}, xs.Nodup → xs[i]? = some x → vs[i]? = some v → bindC kindOf (xs.zip vs) m x = some v := by
  have keep : ∀ {xs : List Str} {vs : List Value} {m : Str → Option Value}, x ∉ xs → bindC kindOf (xs.zip vs) m x = m x := by
    intro xs
    induction xs with
    | nil => intro vs m _; rfl
    | cons y xs ih =>
      intro vs m h
      cases vs with
      | nil => rfl
      | cons v vs =>
        simp only [List.mem_cons, not_or] at h
        rw [List.zip_cons_cons, bindC, ih h.2]
        split
        · rfl
        · simp only [if_neg h.1]
  intro xs
  induction xs with
  | nil => intro vs m i v _ h _; simp at h
  | cons y xs ih =>
    intro vs m i v hn h1 h2
    obtain ⟨n1, n2⟩ := List.nodup_cons.mp hn
    cases vs with
    | nil => simp at h2
    | cons w vs =>
      rw [List.zip_cons_cons, bindC]
      cases i with
      | zero =>
        simp at h1 h2
        subst h1 h2
        rw [keep n1, if_neg hx]; simp
      | succ i => exact ih n2 (by simpa using h1) (by simpa using h2)

theorem table_get {sc : Scope} {names : List Str} {i : Nat} {x : Str} {k : NameKind} (h : (tableOf sc names)[i]? = some (some (x, k))) : names[i]? = some x ∧ sc.names.lookup x = some k := by
  unfold tableOf at h
  rw [List.getElem?_map] at h
  cases hn : names[i]? with
  | none => rw [hn] at h; cases h
  | some y =>
    rw [hn] at h
    simp only [Option.map_some, Option.some.injEq] at h
    cases hl : sc.names.lookup y with
    | none => rw [hl] at h; cases h
    | some k' => rw [hl] at h; cases h; exact ⟨rfl, hl⟩
theorem nodup_get {α : Type} {l : List α} (h : l.Nodup) {i j : Nat} {x : α} (h1 : l[i]? = some x) (h2 : l[j]? = some x) : i = j := by
  induction l generalizing i j with
  | nil => simp at h1
  | cons y l ih =>
    obtain ⟨n1, n2⟩ := List.nodup_cons.mp h
    cases i with
    | zero =>
      cases j with
      | zero => rfl
      | succ j => simp at h1 h2; subst h1; exact absurd (List.mem_of_getElem? h2) n1
    | succ i =>
      cases j with
      | zero => simp at h1 h2; subst h2; exact absurd (List.mem_of_getElem? h1) n1
      | succ j => exact congrArg (· + 1) (ih n2 (i := i) (j := j) (by simpa using h1) (by simpa using h2))

/-- a name of the frame, and where it stands -/
noncomputable def NameOk (sc : Scope) (names : List Str) (i : Nat) (x : Str) (k : NameKind) : Prop := (tableOf sc names)[i]? = some (some (x, k)) ∧ sc.names.lookup x = some k ∧ (k = .local ∨ (k = .cell ∧ ∀ m, ((cellsFrom m sc.names []).lookup x).isSome = true))
theorem slotOk_elim {sc : Scope} {x : Str} {k : NameKind} {R : NameKind → Prop} (h : slotOk sc (some (x, k)) = true) (k1 : R .local) (k2 : (sc.names.any fun p => decide (p.1 = x) && (p.2 == .cell)) = true → R .cell) : R k := by
  cases k <;> first | exact k1 | exact k2 h | exact ff_elim h
theorem names_ok {sc : Scope} {names : List Str} (c16 : (tableOf sc names).all (slotOk sc) = true) {i : Nat} {x : Str} (hx : names[i]? = some x) : ∃ k, NameOk sc names i x k := by
  have hT : (tableOf sc names)[i]? = some ((sc.names.lookup x).map fun k => (x, k)) := by
    unfold tableOf; rw [List.getElem?_map, hx]; rfl
  have hs := List.all_eq_true.mp c16 _ (List.mem_of_getElem? hT)
  cases hl : sc.names.lookup x with
  | none => rw [hl] at hs; exact ff_elim hs
  | some k =>
    rw [hl] at hT hs
    exact ⟨k, hT, hl, slotOk_elim (R := fun k => k = .local ∨ (k = .cell ∧ ∀ m, ((cellsFrom m sc.names []).lookup x).isSome = true)) hs (.inl rfl) fun h => .inr ⟨rfl, fun m => cells_from _ _ _ _ (.inl h)⟩⟩
theorem tail_undef {vs : List V} {m i : Nat} {u : V} (h : (vs ++ List.replicate m V.undef)[i]? = some u) (h3 : u ≠ .undef) : i < vs.length ∧ vs[i]? = some u := by
  by_cases hi : i < vs.length
  · exact ⟨hi, (List.getElem?_append_left hi).symm.trans h⟩
  · rw [List.getElem?_append_right (Nat.not_lt.mp hi), List.getElem?_replicate] at h
    exact if_elim h fun _ h => absurd (Option.some.inj h).symm h3
theorem RoomC.d1 {A : Around} {n : Nat} (hr : RoomC A n) : A.depth < recursionLimit := Nat.lt_of_le_of_lt (Nat.le_trans (Nat.le_add_right _ (2 * n)) (Nat.le_add_right _ 7)) hr.depth
theorem calls_step (ok : Ok b ns K mg mb) (hF : ∀ f, f < 39 → fnCheck K f = true) {n : Nat} (hC : CallsOk b (callN ns fns n) n) : CallsOk b (callN ns fns (n + 1)) (n + 1) := by
  intro f vs H v H' hv hf A s μ B₀ rvs R hr S hvs hR
  refine ob1_elim (hF f hf) fun fd e1 hc => ob1_elim hc fun o e2 hc => ob1_elim hc fun d hd hc => ob1_elim hc fun body hb hc => oh_elim hv fun fd' e1' hv => if_elim hv fun hlen hv => oh_elim hv fun r e3 hv => ?_
  obtain rfl := Option.some.inj (e1.symm.trans e1')
  clear e1'
  have hbody := stmtsOf_eq hb
  have c := fdOk_parts hc
  clear hc hb
  generalize slotNames.getD f [] = names at c
  have XK := ok.X.keeps S.base
  have ho := XK _ _ e2
  have hnd : (d.params.args.map (·.arg)).Nodup := c.c12 ▸ c.c13.sublist (List.take_sublist _ _)
  have hpl : (d.params.args.map (·.arg)).length = fd.nargs := by rw [c.c12, List.length_take, c.c14, Nat.min_eq_left c.c15]
  have hargs : rvs.length = d.params.args.length := hvs.length.symm.trans (hlen.trans (hpl.symm.trans (List.length_map ..)))
  refine objFunc_elim hd fun hd => codeAny_call_cells hr.d1 ho hd (ok.lim.keeps S.base) (codeOk_rec XK c.c17) hbody (bind_plain c.c1 c.c2 c.c3 c.c4 c.c5 hnd hargs) c.c6 (fun p hp => ?_) (fun s₁ x => ?_) c.c10 c.c11 c.c9
  · have hm : p.1 ∈ d.params.args.map (·.arg) := (List.of_mem_zip (a := p.1) (b := p.2) hp).1
    rw [c.c12] at hm
    obtain ⟨i, hi⟩ := List.mem_iff_getElem?.mp (List.mem_of_mem_take hm)
    obtain ⟨k, _, g2, g3⟩ := names_ok c.c16 hi
    exact g3.elim (fun z => .inl (z ▸ g2)) fun z => .inr ⟨z.1 ▸ g2, z.2 _⟩
  · generalize henv : callEnvC d s.heap.objs.size (fnAddrs.getD f 0) = env at x
    have hloc : env.locals = s.heap.objs.size := henv ▸ rfl
    have hsc : env.scope = d.scope := henv ▸ rfl
    have hcells : env.cells = cellsFrom (s.heap.objs.size + 1) d.scope.names [] := henv ▸ rfl
    have hkof : ∀ y, env.kindOf y = d.scope.names.lookup y := fun y => henv ▸ rfl
    have hz : s.heap.objs.size < s₁.heap.objs.size := by
      obtain ⟨o, es, ep, ho', _⟩ := x.toInCall.ns
      rw [hloc] at ho'
      exact Heap.lt_size ho'
    obtain ⟨h₁, tk₁, hsame⟩ := x.toInCall.same
    let Wp : Addr → Prop := fun a => s.heap.objs.size ≤ a ∧ a < s₁.heap.objs.size
    let Bp : Addr → Prop := fun a => B₀ a ∨ Wp a
    have S1 : St b Bp μ H s₁.heap := S.more x.toInCall.keep (Nat.le_of_lt hz) fun a z => z
    have hcell : ∀ y c, env.cells.lookup y = some c → Wp c := fun y c e => ⟨Nat.le_of_lt (hloc ▸ x.above y c (mem_of_lookup e)), (x.cell y c e).elim fun o q => Heap.lt_size q.1⟩
    have hOwn : ∀ a, Own env a → Wp a := fun a w => w.elim (fun z => by rw [z, hloc]; exact ⟨Nat.le_refl _, hz⟩) fun z => z.elim fun y e => hcell y a e
    have V1 : All2 (VR b.scr μ (Bad Bp μ H) s₁.heap) vs rvs := hvs.imp fun v rv z => VR.more x.toInCall.keep (fun a z => z.imp id fun z => z.1) z
    have hpar : ∀ (i : Nat) (y : Str), i < vs.length → names[i]? = some y → (d.params.args.map (·.arg))[i]? = some y := fun i y hi hy => by
      rw [c.c12, List.getElem?_take, if_pos (hlen ▸ hi)]; exact hy
    have L1 : Slots b Bp d.scope (tableOf d.scope names) env (vs ++ List.replicate (fd.nslots - fd.nargs) .undef) μ H s₁.heap := by
      refine ⟨⟨hsc, c.c9, henv ▸ c.c7, henv ▸ c.c8⟩, .inr (hOwn _ (.inl rfl)), fun y c e => .inr (hcell y c e), ?_, ⟨_, x.toInCall.ns, fun i y u h1 h2 h3 => ?_⟩, fun i y h1 => ?_⟩
      · unfold tableOf
        rw [List.length_append, List.length_replicate, List.length_map, c.c14, hlen, Nat.add_sub_cancel' c.c15]
      · obtain ⟨g1, g2⟩ := table_get h1
        obtain ⟨hi, h2⟩ := tail_undef h2 h3
        obtain ⟨rv, e3, r⟩ := V1.get h2
        exact ⟨rv, bindL_get ((hkof y).trans g2) hnd (hpar i y hi g1) e3, r⟩
      · obtain ⟨g1, g2⟩ := table_get h1
        obtain ⟨k, g3, g4, g5⟩ := names_ok c.c16 g1
        have hk : NameKind.cell = k := Option.some.inj (g2.symm.trans g4)
        have g6 := g5.elim (fun z => (nomatch hk.trans z)) fun z => z.2 (s.heap.objs.size + 1)
        obtain ⟨cc, hc'⟩ := Option.isSome_iff_exists.mp g6
        rw [← hcells] at hc'
        refine ⟨cc, _, hc', x.cell y cc hc', fun u h2 h3 => ?_⟩
        obtain ⟨hi, h2⟩ := tail_undef h2 h3
        obtain ⟨rv, e3, r⟩ := V1.get h2
        exact ⟨rv, bindC_get (by rw [hkof, g2]; decide) hnd (hpar i y hi g1) e3, r⟩
    have X1 : Fix (tableOf d.scope names) env := ⟨fun i j y k k' h1 h2 => nodup_get c.c13 (table_get h1).1 (table_get h2).1, fun y z c h1 h2 => name_of_addr x.apart (mem_of_lookup h1) (mem_of_lookup h2), fun y c e => Nat.ne_of_gt (x.above y c (mem_of_lookup e))⟩
    have out : ∀ {μ' : Mu} {H'' : List O} {s' : Shared}, StepF (Own env) b Bp μ H s₁ μ' H'' s' → Step b B₀ μ H s μ' H'' s' := fun P =>
      have P' := P.less (B₀ := B₀) fun a z => .inl z
      ⟨P'.st, P'.ext, fun a o e nl => P'.keep a o (x.toInCall.keep a o e) nl fun w => Nat.lt_irrefl _ (Nat.lt_of_lt_of_le (Heap.lt_size e) (hOwn a w).1), fun a l => (P'.fresh a l).imp id fun z => Nat.le_trans (Nat.le_of_lt hz) z, Nat.le_trans (Nat.le_of_lt hz) P'.size, P'.gens.trans (hsame ▸ rfl), P'.os.trans (hsame ▸ rfl)⟩
    obtain ⟨fl, ρ', H''⟩ := r
    refine (s_ok ok hC fd.body).1 c.c18 e3 (hr.deeper env) S1 L1 X1 fun fw s' μ' P' L' hf' => ?_
    cases fl with
    | next =>
      obtain rfl := hf'
      obtain ⟨rfl, rfl⟩ := pair_inj hv
      exact hR _ s' μ' (out P') .none
    | ret w =>
      obtain ⟨rv, rfl, r⟩ := hf'
      obtain ⟨rfl, rfl⟩ := pair_inj hv
      exact hR _ s' μ' (out P') (VR.less (fun a z => .inl z) r)

theorem calls_ok (ok : Ok b ns K mg mb) (hF : ∀ f, f < 39 → fnCheck K f = true) (n : Nat) : CallsOk b (callN ns fns n) n := by
  induction n with
  | zero => exact fun f vs H v H' hv => no_some hv
  | succ n ih => exact calls_step ok hF ih
end Mine
end

/-! ### Fin1 -/
section
set_option tactic.hygienic false
set_option genSizeOf false
set_option bootstrap.genMatcherCode false
open PySem PySem.W PyProof.Rows PySem.Calls PySem.SeqAt
set_option linter.unusedVariables false
set_option linter.unusedSimpArgs false
set_option maxRecDepth 100000
namespace Mine

noncomputable def objDict (o : Obj) : Option (Array DictEntry) := match o.data with
  | .dict es _ => some es
  | _ => none
theorem objDict_elim {P : Prop} {o : Obj} {vs : Array DictEntry} (h : objDict o = some vs) (k : ∀ n, o.data = .dict vs n → P) : P := by
  unfold objDict at h
  cases hd : o.data <;> rw [hd] at h <;> first | exact no_some h | exact k _ (Option.some.inj h ▸ hd)
noncomputable def esOf (K : Frag) : Option (Array DictEntry) := on (K.lookup mainGlobals) objDict
noncomputable def mgOf (K : Frag) (x : Str) : Option Value := on (esOf K) fun es => nsFind es x
theorem mg_of {K : Frag} {h : Heap} {mg : Str → Option Value} (X : K.In h) (hn : h.Ns mainGlobals mg) (he : (esOf K).isSome = true) (x : Str) : mg x = mgOf K x := by
  obtain ⟨o, es, ep, ho, hd, _, hf⟩ := hn
  obtain ⟨es', he⟩ := Option.isSome_iff_exists.mp he
  refine on_elim he fun o' e e2 => objDict_elim e2 fun n hd' => ?_
  obtain rfl := get_inj ho (X _ _ e)
  have q : es' = es := (Data.dict.inj (hd'.symm.trans hd)).1
  unfold mgOf
  rw [he]
  exact (hf x).symm.trans (q ▸ rfl)

noncomputable def intOf : Value → Option Int
  | .int j _ => some j
  | _ => none
theorem intOf_elim {R : Value → Prop} {v : Value} {x : Int} (h : intOf v = some x) (k : ∀ t, R (.int x t)) : R v := by
  cases v <;> first | exact no_some h | exact (Option.some.inj h).symm ▸ k _
noncomputable def ldB (d : D) (f : Int → Bool) : Bool := match d with
  | .int i => f i
  | _ => false
theorem ldB_elim {R : D → Prop} {d : D} {f : Int → Bool} (h : ldB d f = true) (k : ∀ i, f i = true → R (.int i)) : R d := by
  cases d <;> first | exact ff_elim h | exact k _ h
noncomputable def intsOk : List D → List Value → Bool
  | [], vs => l0 vs
  | d :: ds, vs => lc vs fun v vs => ldB d fun i => decide (intOf v = some i) && intsOk ds vs
theorem intsOk_frs {B : Addr → Prop} {h : Heap} {ds : List D} : ∀ {vs : List Value}, intsOk ds vs = true → FRs B h ds vs := by
  induction ds with
  | nil => exact fun e => l0_elim (R := fun vs => FRs B h [] vs) e .nil
  | cons d ds ih => exact fun e => lc_elim (R := fun vs => FRs B h (d :: ds) vs) e fun v vs e => ldB_elim (R := fun d => FRs B h (d :: ds) (v :: vs)) e fun i e => and_elim e fun e1 e2 => intOf_elim (R := fun v => FRs B h (.int i :: ds) (v :: vs)) (dec_elim e1) fun t => .cons (.int _ _) (ih e2)
noncomputable def objTup (o : Obj) : Option (List Value) := match o.data with
  | .seq vs _ => if o.cls = .type "tuple" then some vs.toList else none
  | _ => none
theorem objTup_elim {P : Prop} {o : Obj} {vs : List Value} (h : objTup o = some vs) (k : ∀ n, o.data = .seq vs.toArray n → o.cls = .type "tuple" → P) : P := by
  unfold objTup at h
  cases hd : o.data <;> rw [hd] at h <;> first | exact no_some h | exact if_elim h fun hc h => k _ (hd.trans (congrArg (fun l : List Value => Data.seq l.toArray _) (Option.some.inj h))) hc
noncomputable def constOk (K : Frag) (d : D) (v : Option Value) : Bool := match d with
  | .int i => ob1 v fun v => decide (intOf v = some i)
  | .tup xs => ob1 v fun v => ob1 (refOf v) fun a => ob1 (K.lookup a) fun o => ob1 (objTup o) fun vs => decide (vs.length ≤ 10) && intsOk xs vs
  | _ => false
theorem constOk_fr {K : Frag} {h : Heap} (X : K.In h) {d : D} {v : Option Value} (e : constOk K d v = true) : ∃ rv, v = some rv ∧ FR (fun _ => False) h d rv := by
  cases d with
  | int i => exact ob1_elim e fun v hv e => ⟨v, hv, intOf_elim (R := fun v => FR _ h (.int i) v) (dec_elim e) fun t => .int _ _⟩
  | tup xs => exact ob1_elim e fun v hv e => ob1_elim e fun a ha e => ob1_elim e fun o ho e => ob1_elim e fun vs hvs e => and_elim e fun e1 e2 => ⟨v, hv, refOf_elim (R := fun v => FR _ h (.tup xs) v) ha (objTup_elim hvs fun n hd hc => .tup (vs := vs) ⟨o, X _ _ ho, hc, n, hd⟩ (le_line (Nat.le_trans (dec_elim e1) (by decide))) id (intsOk_frs e2))⟩
  | _ => exact ff_elim e

noncomputable def isRef (v : Option Value) (a : Addr) : Bool := ob1 v fun v => ob1 (refOf v) fun c => c == a
theorem isRef_eq {v : Option Value} {a : Addr} (h : isRef v a = true) : v = some (.ref a) :=
  ob1_elim h fun v hv h => ob1_elim h fun c hc h => refOf_elim (R := fun v' => v' = v → _) hc (fun q => hv.trans (congrArg some (q.symm.trans (congrArg Value.ref (eq_of_beq h))))) rfl
noncomputable def globCheck (K : Frag) : Bool :=
  (esOf K).isSome && (List.range 39).all (fun f => decide (fnNames.getD f Str.empty = Str.empty) || isRef (mgOf K (fnNames.getD f Str.empty)) (fnAddrs.getD f 0)) &&
    (List.range 3).all (fun c => isRef (mgOf K (clsNames.getD c Str.empty)) (clsAddr c)) && isRef (mgOf K heapObjectS) 129 && builtinsUsed.all (fun p => (mgOf K p.1).isNone)
noncomputable def constCheck (K : Frag) : Bool := (List.range gtab.length).all fun g => constOk K (gtab.getD g .none) (mgOf K (gNames.getD g Str.empty))
noncomputable def kfCheck (K : Frag) : Bool :=
  (List.range 3).all (fun c => findIn K (.ref (clsAddr c)) "__getattribute__" == some (some (.builtin "object.__getattribute__")) && hasDictIn K (clsAddr c) && (fieldsOf c).all (fun n => findIn K (.ref (clsAddr c)) (fname n) == some none) &&
    findIn K (.ref (clsAddr c)) "__setattr__" == some (some (.builtin "object.__setattr__")) && plainOver K (clsAddr c) && keepIn K (.ref (clsAddr c)) && makesIn K (clsAddr c) &&
    findIn K (.ref (clsAddr c)) "__init__" == some (some (.ref (fnAddrs.getD (initOf c) 0))) && typeIn K (.ref (fnAddrs.getD (initOf c) 0)) == some (.type "function")) &&
  (List.range 39).all (fun f => keepIn K (.ref (fnAddrs.getD f 0))) && specialIn K (.ref 129) "__getattribute__" == some (some (.builtin "type.__getattribute__")) && readsIn K 129 (.type "type")
theorem kf_of {K : Frag} (h : kfCheck K = true) (h2 : findCls K (.ref 129) (.type "type") (Str.ofString "__init__") = some (.val (.ref 126))) : KF K := by
  simp only [kfCheck, Bool.and_eq_true, List.all_eq_true, List.mem_range, beq_iff_eq] at h
  obtain ⟨⟨⟨h1, h3⟩, h4⟩, h5⟩ := h
  exact {
    ga := fun c hc => (h1 c hc).1.1.1.1.1.1.1.1
    hd := fun c hc => (h1 c hc).1.1.1.1.1.1.1.2
    fl := fun c hc n hn => (h1 c hc).1.1.1.1.1.1.2 n hn
    sa := fun c hc => (h1 c hc).1.1.1.1.1.2
    po := fun c hc => (h1 c hc).1.1.1.1.2
    keepF := h3
    keepC := fun c hc => (h1 c hc).1.1.1.2
    make := fun c hc => (h1 c hc).1.1.2
    ini := fun c hc => (h1 c hc).1.2
    hga := h4
    hrd := h5
    hini := h2
    iniT := fun c hc => (h1 c hc).2 }
theorem boot_used : ∀ p ∈ builtinsUsed, bootBuiltins p.1 = some p.2 ∧ p.1 ≠ "__name__" := by
  intro p hp
  simp only [builtinsUsed, List.mem_cons, List.not_mem_nil, or_false] at hp
  rcases hp with rfl | rfl | rfl | rfl | rfl | rfl | rfl | rfl | rfl | rfl <;> exact ⟨by kernel_rfl, by decide +kernel⟩

theorem ok_of {b : Base} {ns : List Int} {K : Frag} {mg mb : Str → Option Value} (X : K.In b.h₀) (g : b.h₀.Ns mainGlobals mg) (bl : b.h₀.Ns builtinsNs mb) (bb : ∀ x : Str, x ≠ "__name__" → mb x = bootBuiltins x) (lim : b.h₀.NoLimit) (low : (K.lookup 354).isSome = true)
    (scr : ∃ vs, b.h₀.IsList b.scr vs.toArray ∧ IntsAre vs ns ∧ vs.length ≤ sizeLine) (hg : globCheck K = true) (hc : constCheck K = true) (hk : KF K) : Ok b ns K mg mb := by
  simp only [globCheck, Bool.and_eq_true, List.all_eq_true, List.mem_range, Bool.or_eq_true, decide_eq_true_eq] at hg
  obtain ⟨⟨⟨⟨g1, g2⟩, g3⟩, g4⟩, g5⟩ := hg
  have M := mg_of X g g1
  refine ⟨X, g, bl, bb, lim, ?_, scr, fun f hf hne => ?_, fun c hc => ?_, ?_, fun k d hd => ?_, hk, fun p hp => ?_⟩
  · obtain ⟨o, ho⟩ := Option.isSome_iff_exists.mp low
    exact Nat.lt_trans (by decide) (Heap.lt_size (X _ _ ho))
  · rw [M]; exact isRef_eq ((g2 f hf).resolve_left hne)
  · rw [M]; exact isRef_eq (g3 c hc)
  · rw [M]; exact isRef_eq g4
  · simp only [constCheck, List.all_eq_true, List.mem_range] at hc
    have hlt : k < gtab.length := (List.getElem?_eq_some_iff.mp hd).1
    have := hc k hlt
    rw [List.getD_eq_getElem?_getD, hd] at this
    obtain ⟨rv, e1, e2⟩ := constOk_fr X this
    exact ⟨rv, (M _).trans e1, e2⟩
  · refine ⟨(M _).trans ?_, boot_used p hp⟩
    have := g5 p hp
    rwa [Option.isNone_iff_eq_none] at this
end Mine
end

/-! ### P1 -/
section
set_option tactic.hygienic false
set_option genSizeOf false
set_option bootstrap.genMatcherCode false
open PySem
set_option linter.unusedVariables false
set_option linter.unusedSimpArgs false
set_option maxRecDepth 100000
namespace Mine

/-! ## words -/
noncomputable def fldW (w p s : Int) : Int := Builtin.bitAnd (w.fdiv (2 ^ p.toNat)) (1 * 2 ^ s.toNat - 1)
noncomputable def opW (w : Int) : Int := fldW w 0 6
noncomputable def gaW (w : Int) : Int := fldW w 6 8
noncomputable def gbW (w : Int) : Int := fldW w 23 9
noncomputable def gcW (w : Int) : Int := fldW w 14 9
noncomputable def gbxW (w : Int) : Int := fldW w 14 18
noncomputable def gsbxW (w : Int) : Int := gbxW w - 131071
noncomputable def maskW (p s : Int) : Int := (1 * 2 ^ s.toNat - 1) * 2 ^ p.toNat
noncomputable def withW (w v p s : Int) : Int := Builtin.bitOr (Builtin.bitAnd (Builtin.bitAnd w (Builtin.bitNot (maskW p s))) 4294967295) (Builtin.bitAnd (v * 2 ^ p.toNat) (maskW p s))
noncomputable def abcW (op a b c : Int) : Int := Builtin.bitOr (Builtin.bitOr (Builtin.bitOr (op * 2 ^ (0 : Int).toNat) (a * 2 ^ (6 : Int).toNat)) (b * 2 ^ (23 : Int).toNat)) (c * 2 ^ (14 : Int).toNat)
noncomputable def abxW (op a bx : Int) : Int := Builtin.bitOr (Builtin.bitOr (op * 2 ^ (0 : Int).toNat) (a * 2 ^ (6 : Int).toNat)) (bx * 2 ^ (14 : Int).toNat)
noncomputable def asbxW (op a s : Int) : Int := abxW op a (s + 131071)
noncomputable def setW (w s : Int) : Int := withW w (s + 131071) 14 18

variable {ns : List Int}
theorem callN_succ (n f : Nat) (vs : List V) (H : List O) : callN ns fns (n + 1) f vs H = oh fns[f]? fun fd => if vs.length = fd.nargs then oh (exec ns (callN ns fns n) fd.body (vs ++ List.replicate (fd.nslots - fd.nargs) .undef) H) retF else none := rfl

/-- one body -/
theorem callN_of {n f : Nat} {vs : List V} {H H' : List O} {fd : Fn} {v : V} {ρ : List V} (hf : fns[f]? = some fd) (hl : vs.length = fd.nargs) (h : exec ns (callN ns fns n) fd.body (vs ++ List.replicate (fd.nslots - fd.nargs) .undef) H = some (.ret v, ρ, H')) :
    callN ns fns (n + 1) f vs H = some (v, H') := by
  rw [callN_succ, hf, oh_some, if_pos hl, h]; rfl
theorem callN_next {n f : Nat} {vs : List V} {H H' : List O} {fd : Fn} {ρ : List V} (hf : fns[f]? = some fd) (hl : vs.length = fd.nargs) (h : exec ns (callN ns fns n) fd.body (vs ++ List.replicate (fd.nslots - fd.nargs) .undef) H = some (.next, ρ, H')) :
    callN ns fns (n + 1) f vs H = some (.d .none, H') := by
  rw [callN_succ, hf, oh_some, if_pos hl, h]; rfl

theorem c_field (n : Nat) (w p s : Int) (hp : 0 ≤ p) (hs : 0 ≤ s) (hs2 : s ≤ 1000) : callN ns fns (n + 1) 0 [.d (.int w), .d (.int p), .d (.int s)] [] = some (.d (.int (fldW w p s)), []) := by
  refine callN_of (fd := ⟨3, 3, b_field⟩) (ρ := [.d (.int w), .d (.int p), .d (.int s)]) rfl rfl ?_
  have h1 : small 1 = true := by decide
  simp [b_field, opI, hp, hs, hs2, h1, fldW]
theorem c_op (n : Nat) (w : Int) : callN ns fns (n + 2) 5 [.d (.int w)] [] = some (.d (.int (opW w)), []) := by kernel_rfl

theorem c_a (n : Nat) (w : Int) : callN ns fns (n + 2) 6 [.d (.int w)] [] = some (.d (.int (gaW w)), []) := by kernel_rfl
theorem c_b (n : Nat) (w : Int) : callN ns fns (n + 2) 7 [.d (.int w)] [] = some (.d (.int (gbW w)), []) := by kernel_rfl
theorem c_c (n : Nat) (w : Int) : callN ns fns (n + 2) 8 [.d (.int w)] [] = some (.d (.int (gcW w)), []) := by kernel_rfl
theorem c_bx (n : Nat) (w : Int) : callN ns fns (n + 2) 9 [.d (.int w)] [] = some (.d (.int (gbxW w)), []) := by kernel_rfl
theorem c_sbx (n : Nat) (w : Int) : callN ns fns (n + 3) 10 [.d (.int w)] [] = some (.d (.int (gsbxW w)), []) := by kernel_rfl
theorem small_of {a : Int} (h : -1000000 ≤ a) (h2 : a ≤ 1000000) : small a = true := by simp [small]; omega
theorem c_with (n : Nat) (w v p s : Int) (hp : 0 ≤ p) (hp2 : p ≤ 1000) (hs : 0 ≤ s) (hs2 : s ≤ 32) (hv : small v = true) : callN ns fns (n + 1) 1 [.d (.int w), .d (.int v), .d (.int p), .d (.int s)] [] = some (.d (.int (withW w v p s)), []) := by
  refine callN_of (fd := ⟨4, 5, b_with_field⟩) (ρ := [.d (.int w), .d (.int v), .d (.int p), .d (.int s), .d (.int (maskW p s))]) rfl rfl ?_
  have h1 : small 1 = true := by decide
  have h2 : small (2 ^ s.toNat - 1) = true := by
    obtain ⟨k, rfl⟩ := Int.eq_ofNat_of_zero_le hs
    have hk : k ≤ 32 := by omega
    have : ∀ k ≤ 32, small (2 ^ k - 1) = true := by decide +kernel
    exact this k hk
  have hs3 : s ≤ 1000 := by omega
  simp [b_with_field, opI, hp, hp2, hs, hs3, h1, h2, hv, withW, maskW]
theorem c_abc (n : Nat) (op a b c : Int) (ho : small op = true) (ha : small a = true) (hb : small b = true) (hc : small c = true) : callN ns fns (n + 1) 2 [.d (.int op), .d (.int a), .d (.int b), .d (.int c)] [] = some (.d (.int (abcW op a b c)), []) := by
  refine callN_of (fd := ⟨4, 4, b_create_abc⟩) (ρ := [.d (.int op), .d (.int a), .d (.int b), .d (.int c)]) rfl rfl ?_
  simp [b_create_abc, opI, ho, ha, hb, hc, abcW]
theorem c_abx (n : Nat) (op a b : Int) (ho : small op = true) (ha : small a = true) (hb : small b = true) : callN ns fns (n + 1) 3 [.d (.int op), .d (.int a), .d (.int b)] [] = some (.d (.int (abxW op a b)), []) := by
  refine callN_of (fd := ⟨3, 3, b_create_abx⟩) (ρ := [.d (.int op), .d (.int a), .d (.int b)]) rfl rfl ?_
  simp [b_create_abx, opI, ho, ha, hb, abxW]
theorem c_asbx (n : Nat) (op a b : Int) (ho : small op = true) (ha : small a = true) (hb : small (b + 131071) = true) : callN ns fns (n + 2) 4 [.d (.int op), .d (.int a), .d (.int b)] [] = some (.d (.int (asbxW op a b)), []) := by
  refine callN_of (fd := ⟨3, 3, b_create_asbx⟩) (ρ := [.d (.int op), .d (.int a), .d (.int b)]) rfl rfl ?_
  simp [b_create_asbx, opI, c_abx n op a (b + 131071) ho ha hb, asbxW]
theorem c_setbx (n : Nat) (w v : Int) (hv : small v = true) : callN ns fns (n + 2) 11 [.d (.int w), .d (.int v)] [] = some (.d (.int (withW w v 14 18)), []) := by
  refine callN_of (fd := ⟨2, 2, b_set_bx⟩) (ρ := [.d (.int w), .d (.int v)]) rfl rfl ?_
  simp [b_set_bx, c_with n w v 14 18 (by decide) (by decide) (by decide) (by decide) hv]
theorem c_setsbx (n : Nat) (w v : Int) (hv : small (v + 131071) = true) : callN ns fns (n + 3) 12 [.d (.int w), .d (.int v)] [] = some (.d (.int (setW w v)), []) := by
  refine callN_of (fd := ⟨2, 2, b_set_sbx⟩) (ρ := [.d (.int w), .d (.int v)]) rfl rfl ?_
  simp [b_set_sbx, opI, c_setbx n w (v + 131071) hv, setW]

/-! ## instructions -/
inductive I where
  | loadk (a b : Nat) | move (a b : Nat) | neg (a b : Nat) | test (a c : Nat) | setl | jmp (s : Int) | ret (a : Nat)
  deriving DecidableEq, Inhabited
noncomputable def enc : I → Int
  | .loadk a b => abxW 1 a b
  | .move a b => abcW 0 a b 0
  | .neg a b => abcW 19 a b 0
  | .test a c => abcW 26 a 0 c
  | .setl => abcW 34 1 1 0
  | .jmp s => asbxW 22 0 s
  | .ret a => abcW 30 a 2 0
noncomputable def I.ok : I → Prop
  | .loadk a b => a < 3 ∧ b < 4
  | .move a b | .neg a b => a < 3 ∧ b < 3
  | .test a c => a < 3 ∧ c < 2
  | .setl => True
  | .jmp s => -20 ≤ s ∧ s ≤ 20
  | .ret a => a < 3
noncomputable def opc : I → Int
  | .loadk .. => 1 | .move .. => 0 | .neg .. => 19 | .test .. => 26 | .setl => 34 | .jmp _ => 22 | .ret _ => 30
noncomputable def ga : I → Int
  | .loadk a _ | .move a _ | .neg a _ | .test a _ | .ret a => a
  | .setl => 1 | .jmp _ => 0
theorem jmp_of {s : Int} (h : -20 ≤ s ∧ s ≤ 20) : ∃ k, k < 41 ∧ s = (k : Nat) - 20 := ⟨(s + 20).toNat, by omega, by omega⟩
theorem f1 : ∀ a < 3, ∀ b < 4, opW (abxW 1 (a : Nat) (b : Nat)) = 1 ∧ gaW (abxW 1 (a : Nat) (b : Nat)) = a ∧ gbxW (abxW 1 (a : Nat) (b : Nat)) = b := by decide +kernel
theorem f2 : ∀ a < 3, ∀ b < 3, opW (abcW 0 (a : Nat) (b : Nat) 0) = 0 ∧ gaW (abcW 0 (a : Nat) (b : Nat) 0) = a ∧ gbW (abcW 0 (a : Nat) (b : Nat) 0) = b := by decide +kernel
theorem f3 : ∀ a < 3, ∀ b < 3, opW (abcW 19 (a : Nat) (b : Nat) 0) = 19 ∧ gaW (abcW 19 (a : Nat) (b : Nat) 0) = a ∧ gbW (abcW 19 (a : Nat) (b : Nat) 0) = b := by decide +kernel
theorem f4 : ∀ a < 3, ∀ c < 2, opW (abcW 26 (a : Nat) 0 (c : Nat)) = 26 ∧ gaW (abcW 26 (a : Nat) 0 (c : Nat)) = a ∧ gcW (abcW 26 (a : Nat) 0 (c : Nat)) = c := by decide +kernel
theorem f5 : opW (enc .setl) = 34 ∧ gcW (enc .setl) = 0 := by decide +kernel
theorem f6 : ∀ k < 41, opW (asbxW 22 0 ((k : Nat) - 20)) = 22 ∧ gsbxW (asbxW 22 0 ((k : Nat) - 20)) = (k : Nat) - 20 := by decide +kernel
theorem f7 : ∀ a < 3, opW (abcW 30 (a : Nat) 2 0) = 30 ∧ gaW (abcW 30 (a : Nat) 2 0) = a := by decide +kernel
theorem f8 : ∀ k < 41, ∀ j < 41, setW (asbxW 22 0 ((k : Nat) - 20)) ((j : Nat) - 20) = asbxW 22 0 ((j : Nat) - 20) := by decide +kernel
theorem op_enc {i : I} (h : i.ok) : opW (enc i) = opc i := by
  cases i with
  | loadk a b => exact (f1 a h.1 b h.2).1
  | move a b => exact (f2 a h.1 b h.2).1
  | neg a b => exact (f3 a h.1 b h.2).1
  | test a c => exact (f4 a h.1 c h.2).1
  | setl => exact f5.1
  | jmp s => obtain ⟨k, hk, rfl⟩ := jmp_of h; exact (f6 k hk).1
  | ret a => exact (f7 a h).1
theorem sbx_enc {s : Int} (h : (I.jmp s).ok) : gsbxW (enc (.jmp s)) = s := by obtain ⟨k, hk, rfl⟩ := jmp_of h; exact (f6 k hk).2
theorem set_enc {s t : Int} (h : (I.jmp s).ok) (h2 : (I.jmp t).ok) : setW (enc (.jmp s)) t = enc (.jmp t) := by
  obtain ⟨k, hk, rfl⟩ := jmp_of h
  obtain ⟨j, hj, rfl⟩ := jmp_of h2
  exact f8 k hk j hj
end Mine
end

/-! ### PX -/
section
set_option tactic.hygienic false
set_option genSizeOf false
set_option bootstrap.genMatcherCode false
open PySem
set_option linter.unusedVariables false
set_option linter.unusedSimpArgs false
set_option maxRecDepth 100000
namespace Mine
variable {ns : List Int} {C : Calls'} {ρ ρ' : List V} {H H' : List O}
/-! ## steps of expressions and statements -/
theorem seq_n {a b : S} {r : Option (Fl × List V × List O)} (h1 : exec ns C a ρ H = some (.next, ρ', H')) (h2 : exec ns C b ρ' H' = r) : exec ns C (.seq a b) ρ H = r := by
  rw [ex_seq_eq, h1]; exact h2
theorem seq_r {a b : S} {v : V} (h1 : exec ns C a ρ H = some (.ret v, ρ', H')) : exec ns C (.seq a b) ρ H = some (.ret v, ρ', H') := by
  rw [ex_seq_eq, h1]; rfl
theorem ifs_t {c : X} {a b : S} {r : Option (Fl × List V × List O)} (h1 : ev ns C c ρ H = some (.d (.bool true), H')) (h2 : exec ns C a ρ H' = r) : exec ns C (.ifs c a b) ρ H = r := by
  rw [ex_ifs_eq, h1]; exact h2
theorem ifs_f {c : X} {a b : S} {r : Option (Fl × List V × List O)} (h1 : ev ns C c ρ H = some (.d (.bool false), H')) (h2 : exec ns C b ρ H' = r) : exec ns C (.ifs c a b) ρ H = r := by
  rw [ex_ifs_eq, h1]; exact h2
theorem exec_asg {i : Nat} {x : X} {v : V} (hx : ev ns C x ρ H = some (v, H')) (hi : i < ρ.length) : exec ns C (.asg i x) ρ H = some (.next, ρ.set i v, H') := by
  rw [ex_asg_eq, hx]; exact if_pos hi
theorem x_cons {x : X} {xs : Xs} {v : V} {vs : List V} {H1 H2 : List O} (h1 : ev ns C x ρ H = some (v, H1)) (h2 : evs ns C xs ρ H1 = some (vs, H2)) : evs ns C (.cons x xs) ρ H = some (v :: vs, H2) := by
  rw [evs_cons_eq, h1, vh_some, h2]; rfl
theorem x_asgT {is : List Nat} {xs : Xs} {vs : List V} (h1 : evs ns C xs ρ H = some (vs, H')) (h2 : setAll is vs ρ = some ρ') : exec ns C (.asgT is xs) ρ H = some (.next, ρ', H') := by
  rw [ex_asgT_eq, h1, vh_some, h2]; rfl
theorem x_ret {x : X} {v : V} (h1 : ev ns C x ρ H = some (v, H')) : exec ns C (.ret x) ρ H = some (.ret v, ρ, H') := by
  rw [ex_ret_eq, h1]; rfl
theorem x_cmp {op : Cm} {a b : X} {u v : V} {c : Bool} {H1 H2 : List O} (h1 : ev ns C a ρ H = some (u, H1)) (h2 : ev ns C b ρ H1 = some (v, H2)) (h3 : cmpV H2 op u v = some c) : ev ns C (.cmp op a b) ρ H = some (.d (.bool c), H2) := by
  rw [ev_cmp_eq, h1, vh_some, h2, vh_some, h3]; rfl
theorem x_setA {o x : X} {n : Nat} {v u : V} {H1 H2 H3 : List O} (h1 : ev ns C x ρ H = some (v, H1)) (h2 : ev ns C o ρ H1 = some (u, H2)) (h3 : setAV H2 n v u = some H3) : exec ns C (.setA o n x) ρ H = some (.next, ρ, H3) := by
  rw [ex_setA_eq, h1, vh_some, h2, vh_some, h3]; rfl
theorem x_ini {f : Nat} {xs : Xs} {vs : List V} {H1 H2 : List O} (h1 : evs ns C xs ρ H = some (vs, H1)) (h2 : C f vs H1 = some (.d .none, H2)) : exec ns C (.ini f xs) ρ H = some (.next, ρ, H2) := by
  rw [ex_ini_eq, h1, vh_some, h2]; rfl
theorem x_newM {c : Nat} {xs : Xs} {vs : List V} {H1 H2 : List O} (h1 : evs ns C xs ρ H = some (vs, H1)) (h2 : C (initOf c) (.loc H1.length :: vs) (H1 ++ [.obj c []]) = some (.d .none, H2)) : ev ns C (.newM c xs) ρ H = some (.loc H1.length, H2) := by
  rw [ev_newM_eq, h1, vh_some, h2]; rfl
theorem toDs_map : ∀ ds : List D, toDs (ds.map .d) = some ds
  | [] => rfl
  | d :: ds => by rw [List.map_cons, toDs_d, toDs_map ds]; rfl
theorem x_new {c : Nat} {xs : Xs} {ds : List D} {d : D} {H1 H2 : List O} (h1 : evs ns C xs ρ H = some (ds.map .d, H1)) (h2 : C (initOf c) (.loc 0 :: ds.map .d) [.obj c []] = some (.d .none, H2)) (h3 : frz 3 H2 (.loc 0) = some d) : ev ns C (.new c xs) ρ H = some (.d d, H1) := by
  rw [ev_new_eq, h1, vh_some, toDs_map, oh_some, h2, nh_some, h3]; rfl
theorem x_list {xs : Xs} {ds : List D} {H1 : List O} (h1 : evs ns C xs ρ H = some (ds.map .d, H1)) : ev ns C (.list xs) ρ H = some (.d (.lst ds), H1) := by
  rw [ev_list_eq, h1, vh_some, toDs_map]; rfl
theorem x_len {m : Nat} {x : X} {ds : List D} (hx : ev ns C x ρ H = some (.d (.lst ds), H')) (hm : ds.length = m) : ev ns C (.len x) ρ H = some (.d (.int (m : Nat)), H') := by
  rw [ev_len_eq, hx, ← hm]
  exact congrArg (fun m : Nat => some (V.d (.int m), H')) (List.length_map ..)
theorem x_setI {o i x : X} {v u j : V} {H1 H2 H3 H4 : List O} (h1 : ev ns C x ρ H = some (v, H1)) (h2 : ev ns C o ρ H1 = some (u, H2)) (h3 : ev ns C i ρ H2 = some (j, H3)) (h4 : setIV H3 v u j = some H4) : exec ns C (.setI o i x) ρ H = some (.next, ρ, H4) := by
  rw [ex_setI_eq, h1, vh_some, h2, vh_some, h3, vh_some, h4]; rfl
theorem x_call {f : Nat} {xs : Xs} {ds : List D} {d : D} {H1 H2 : List O} (h1 : evs ns C xs ρ H = some (ds.map .d, H1)) (h2 : C f (ds.map .d) [] = some (.d d, H2)) : ev ns C (.call f xs) ρ H = some (.d d, H1) := by
  rw [ev_call_eq, h1, vh_some, toDs_map, oh_some, h2]; rfl
theorem x_tup {xs : Xs} {ds : List D} {H1 : List O} (h1 : evs ns C xs ρ H = some (ds.map .d, H1)) : ev ns C (.tup xs) ρ H = some (.d (.tup ds), H1) := by
  rw [ev_tup_eq, h1, vh_some, toDs_map]; rfl
theorem x_bin {op : Op} {a b : X} {i j k : Int} {H1 H2 : List O} (h1 : ev ns C a ρ H = some (.d (.int i), H1)) (h2 : ev ns C b ρ H1 = some (.d (.int j), H2)) (h3 : opI op i j = some k) : ev ns C (.bin op a b) ρ H = some (.d (.int k), H2) := by
  rw [ev_bin_eq, h1, ih_some, h2, ih_some, h3]; rfl
theorem x_attr {a : X} {k : Nat} {u v : V} {H1 : List O} (h1 : ev ns C a ρ H = some (u, H1)) (h2 : attrV H1 k u = some v) : ev ns C (.attr a k) ρ H = some (v, H1) := by
  rw [ev_attr_eq, h1, vh_some, h2]; rfl
theorem x_idx {a i : X} {u v j : V} {H1 H2 : List O} (h1 : ev ns C a ρ H = some (u, H1)) (h2 : ev ns C i ρ H1 = some (j, H2)) (h3 : idxV H2 u j = some v) : ev ns C (.idx a i) ρ H = some (v, H2) := by
  rw [ev_idx_eq, h1, vh_some, h2, vh_some, h3]; rfl
theorem x_not {a : X} {b : Bool} {H1 : List O} (h1 : ev ns C a ρ H = some (.d (.bool b), H1)) : ev ns C (.not a) ρ H = some (.d (.bool (!b)), H1) := by
  rw [ev_not_eq, h1]; rfl
theorem x_next {k : Bool} {x : X} {xs : Xs} {H1 : List O} {r : Option (V × List O)} (h1 : ev ns C x ρ H = some (.d (.bool k), H1)) (h2 : evB ns C k xs ρ H1 = r) : evB ns C k (.cons x xs) ρ H = r := by
  rw [evB_cons_eq, h1, bh_some, if_pos rfl]; exact h2
theorem x_bop {k : Bool} {xs : Xs} {r : Option (V × List O)} (h : evB ns C k xs ρ H = r) : ev ns C (.bop k xs) ρ H = r := h
theorem x_callI {f : Nat} {xs : Xs} {vs : List V} {H1 : List O} {r : Option (V × List O)} (h1 : evs ns C xs ρ H = some (vs, H1)) (h2 : C f vs H1 = r) : ev ns C (.callI f xs) ρ H = r := by
  rw [ev_callI_eq, h1]; exact h2
theorem x_ite_t {c a b : X} {r : Option (V × List O)} (h1 : ev ns C c ρ H = some (.d (.bool true), H')) (h2 : ev ns C a ρ H' = r) : ev ns C (.ite c a b) ρ H = r := by
  rw [ev_ite_eq, h1]; exact h2
theorem x_ite_f {c a b : X} {r : Option (V × List O)} (h1 : ev ns C c ρ H = some (.d (.bool false), H')) (h2 : ev ns C b ρ H' = r) : ev ns C (.ite c a b) ρ H = r := by
  rw [ev_ite_eq, h1]; exact h2
/-- a call whose answer is a place, frozen -/
theorem x_callF {f : Nat} {xs : Xs} {ds : List D} {d : D} {v : V} {H1 H2 : List O} (h1 : evs ns C xs ρ H = some (ds.map .d, H1)) (h2 : C f (ds.map .d) [] = some (v, H2)) (h3 : frz 3 H2 v = some d) : ev ns C (.call f xs) ρ H = some (.d d, H1) := by
  rw [ev_call_eq, h1, vh_some, toDs_map, oh_some, h2, vh_some, h3]; rfl
theorem x_stop {k t : Bool} {x : X} {xs : Xs} {H1 : List O} (h1 : ev ns C x ρ H = some (.d (.bool t), H1)) (hk : t ≠ k) : evB ns C k (.cons x xs) ρ H = some (.d (.bool t), H1) := by
  rw [evB_cons_eq, h1, bh_some, if_neg hk]
theorem x_isTup {x : X} {d : D} {b : Bool} (h1 : ev ns C x ρ H = some (.d d, H')) (h2 : tupQ d = some b) : ev ns C (.isTup x) ρ H = some (.d (.bool b), H') := by
  rw [ev_isTup_eq, h1, dh_some, h2]; rfl
theorem x_repr {x : X} {d : D} {s : Str} (h1 : ev ns C x ρ H = some (.d d, H')) (h2 : reprD d = some s) : ev ns C (.repr x) ρ H = some (.d (.str s), H') := by
  rw [ev_repr_eq, h1, dh_some, h2]; rfl
theorem x_toInt {x : X} {b : Bool} (h1 : ev ns C x ρ H = some (.d (.bool b), H')) : ev ns C (.toInt x) ρ H = some (.d (.int (if b then 1 else 0)), H') := by
  rw [ev_toInt_eq, h1]; rfl
theorem op_eq {n g : Nat} {x : X} {w k : Int} (hx : ev ns (callN ns fns (n + 2)) x ρ H = some (.d (.int w), H')) (hg : gtab[g]? = some (.int k)) : ev ns (callN ns fns (n + 2)) (.cmp .eq (.call 5 (.cons x .nil)) (.glob g)) ρ H = some (.d (.bool (opW w == k)), H') :=
  x_cmp (x_call (ds := [.int w]) (x_cons hx rfl) (c_op n w)) (by rw [ev_glob_eq, hg]; rfl) rfl
theorem op_ne {n g : Nat} {x : X} {w k : Int} (hx : ev ns (callN ns fns (n + 2)) x ρ H = some (.d (.int w), H')) (hg : gtab[g]? = some (.int k)) : ev ns (callN ns fns (n + 2)) (.cmp .ne (.call 5 (.cons x .nil)) (.glob g)) ρ H = some (.d (.bool (!(opW w == k))), H') :=
  x_cmp (x_call (ds := [.int w]) (x_cons hx rfl) (c_op n w)) (by rw [ev_glob_eq, hg]; rfl) rfl
theorem x_last {k t : Bool} {x : X} {H1 : List O} (h1 : ev ns C x ρ H = some (.d (.bool t), H1)) : evB ns C k (.cons x .nil) ρ H = some (.d (.bool t), H1) := by
  rw [evB_cons_eq, h1, bh_some]
  by_cases h : t = k
  · rw [if_pos h, h]; rfl
  · rw [if_neg h]
theorem for_cons {b : V → List V → List O → Option (Fl × List V × List O)} {v : V} {vs ρ1 : List V} {H1 : List O} {r : Option (Fl × List V × List O)} (h1 : b v ρ H = some (.next, ρ1, H1)) (h2 : forLoop b vs ρ1 H1 = r) : forLoop b (v :: vs) ρ H = r := by
  show fh (b v ρ H) _ = r
  rw [h1]; exact h2
theorem forE_cons {b : Nat → V → List V → List O → Option (Fl × List V × List O)} {k : Nat} {v : V} {vs ρ1 : List V} {H1 : List O} {r : Option (Fl × List V × List O)} (h1 : b k v ρ H = some (.next, ρ1, H1)) (h2 : forLoopE b (k + 1) vs ρ1 H1 = r) : forLoopE b k (v :: vs) ρ H = r := by
  show fh (b k v ρ H) _ = r
  rw [h1]; exact h2
theorem for_ret {b : V → List V → List O → Option (Fl × List V × List O)} {v u : V} {vs ρ1 : List V} {H1 : List O} (h1 : b v ρ H = some (.ret u, ρ1, H1)) : forLoop b (v :: vs) ρ H = some (.ret u, ρ1, H1) := by
  show fh (b v ρ H) _ = _
  rw [h1]; rfl
theorem x_forR {i : Nat} {x : X} {b : S} {m : Int} {r : Option (Fl × List V × List O)} (h1 : ev ns C x ρ H = some (.d (.int m), H')) (hi : i < ρ.length ∧ 0 ≤ m ∧ m ≤ big) (h2 : forLoop (fun v ρ H => exec ns C b (ρ.set i v) H) (rangeV m) ρ H' = r) : exec ns C (.forR i x b) ρ H = r := by
  rw [ex_forR_eq, h1, ih_some, if_pos hi]; exact h2
theorem exec_forL {i : Nat} {x : X} {b : S} {xs : List D} (hx : ev ns C x ρ H = some (.d (.lst xs), H')) (hi : i < ρ.length) : exec ns C (.forL i x b) ρ H = forLoop (fun v ρ H => exec ns C b (ρ.set i v) H) (xs.map .d) ρ H' := by
  rw [ex_forL_eq, hx, lh_some, if_pos hi]
theorem exec_forE {i j : Nat} {x : X} {b : S} {xs : List D} (hx : ev ns C x ρ H = some (.d (.lst xs), H')) (hi : i < ρ.length) (hj : j < ρ.length) : exec ns C (.forE i j x b) ρ H = forLoopE (fun k v ρ H => exec ns C b ((ρ.set i (.d (.int (k : Nat)))).set j v) H) 0 (xs.map .d) ρ H' := by
  rw [ex_forE_eq, hx, lh_some, if_pos (by rw [decide_eq_true hi, decide_eq_true hj]; rfl)]
theorem x_asg {i : Nat} {x : X} {v : V} (hx : ev ns C x ρ H = some (v, H')) (hi : Nat.ble (i + 1) ρ.length = true) : exec ns C (.asg i x) ρ H = some (.next, ρ.set i v, H') := exec_asg hx (Nat.le_of_ble_eq_true hi)
theorem x_app {o x : X} {l : Nat} {ys xs : List V} {v : V} {H1 H2 : List O} (h1 : ev ns C o ρ H = some (.loc l, H1)) (h0 : getO H1 l = .lst ys) (h2 : ev ns C x ρ H1 = some (v, H2)) (h3 : getO H2 l = .lst xs) (hb : xs.length < big) : exec ns C (.app o x) ρ H = some (.next, ρ, H2.set l (.lst (xs ++ [v]))) := by
  rw [ex_app_eq, h1, ph_some, h0, gl_lst, h2, vh_some, h3, gl_lst, if_pos hb]
section
variable {k : Nat} {c : X} {b : S} {ρ1 : List V} {H1 : List O} {r : Option (Fl × List V × List O)}
theorem whl_t (h1 : ev ns C c ρ H = some (.d (.bool true), H')) (h2 : exec ns C b ρ H' = some (.next, ρ1, H1)) (h3 : exec ns C (.whl k c b) ρ1 H1 = r) : exec ns C (.whl (k + 1) c b) ρ H = r := by
  show bh (ev ns C c ρ H) _ = _
  rw [h1]
  show fh (exec ns C b ρ H') _ = _
  rw [h2]; exact h3
theorem whl_f (h1 : ev ns C c ρ H = some (.d (.bool false), H')) : exec ns C (.whl (k + 1) c b) ρ H = some (.next, ρ, H') := by
  show bh (ev ns C c ρ H) _ = _
  rw [h1]; rfl
theorem whl_r {v : V} (h1 : ev ns C c ρ H = some (.d (.bool true), H')) (h2 : exec ns C b ρ H' = some (.ret v, ρ1, H1)) : exec ns C (.whl (k + 1) c b) ρ H = some (.ret v, ρ1, H1) := by
  show bh (ev ns C c ρ H) _ = _
  rw [h1]
  show fh (exec ns C b ρ H') _ = _
  rw [h2]; rfl
end
theorem dec_lt {a b : Nat} (h : a < b) : decide ((a : Int) < (b : Int)) = true := decide_eq_true (Int.ofNat_lt.mpr h)
theorem dec_nlt {a b : Nat} (h : ¬ a < b) : decide ((a : Int) < (b : Int)) = false := decide_eq_false fun q => h (Int.ofNat_lt.mp q)
theorem mapO_d {k : Nat} {H : List O} (ds : List D) : mapO (frz k H) (ds.map V.d) = some ds := by
  induction ds with
  | nil => rfl
  | cons d ds ih => rw [List.map_cons, mapO_cons, frz_d, oh_some, ih]; rfl
theorem frz_lst {k l : Nat} {H : List O} {ds : List D} (h : getO H l = .lst (ds.map V.d)) : frz (k + 1) H (.loc l) = some (.lst ds) := by
  show frO (frz k H) (getO H l) = _
  rw [h]
  show oh (mapO (frz k H) (ds.map V.d)) _ = _
  rw [mapO_d]; rfl
end Mine
end

/-! ### P2 -/
section
set_option tactic.hygienic false
set_option genSizeOf false
set_option bootstrap.genMatcherCode false
open PySem
set_option linter.unusedVariables false
set_option linter.unusedSimpArgs false
set_option maxRecDepth 100000
namespace Mine
variable {ns : List Int} {C : Calls'} {ρ ρ' : List V} {H H' : List O}

theorem beq_f {a b : Int} (h : a ≠ b) : (a == b) = false := by simp [h]
/-! ## programs -/
noncomputable def codeD (is : List I) : D := .lst (is.map fun i => .int (enc i))
noncomputable def natsD (l : List Nat) : List D := l.map fun k => .int (k : Nat)
structure Prg (p : D) (is : List I) : Prop where
  code : ∀ H, attrV H 6 (.d p) = some (.d (codeD is))
  ok : ∀ i ∈ is, i.ok

theorem at_pos {n k : Nat} (h : k < n) : at? n (k : Int) = some k := by
  unfold at?
  rw [if_pos (by omega), if_pos (by omega)]
  simp
theorem idx_code {is : List I} {k : Nat} {i : I} (h : is[k]? = some i) : idxV H (.d (codeD is)) (.d (.int (k : Nat))) = some (.d (.int (enc i))) := by
  have hk : k < (is.map fun i => D.int (enc i)).length := (List.length_map ..).symm ▸ (List.getElem?_eq_some_iff.mp h).1
  show (oh (at? _ (k : Int)) fun k => ((is.map fun i => D.int (enc i))[k]?).map V.d) = _
  rw [at_pos hk, oh_some, List.getElem?_map, h]; rfl
theorem len_code {is : List I} : listOf? H (.d (codeD is)) = some ((is.map fun i => D.int (enc i)).map .d) := rfl
noncomputable def wl : I → Nat
  | .setl => 2
  | _ => 1
theorem ok_at {p : D} {is : List I} (P : Prg p is) {k : Nat} {i : I} (h : is[k]? = some i) : i.ok := P.ok i (List.mem_of_getElem? h)

theorem c_words_of {p : D} {is : List I} (P : Prg p is) (n : Nat) {k : Nat} {i : I} (h : is[k]? = some i) : callN ns fns (n + 3) 17 [.d p, .d (.int (k : Nat))] [] = some (.d (.int (wl i : Nat)), []) := by
  refine callN_of (fd := ⟨2, 3, b_words_of⟩) (ρ := [.d p, .d (.int k), .d (.int (enc i))]) rfl rfl ?_
  have hi := ok_at P h
  have h36 : (opW (enc i) == 36) = false := by rw [op_enc hi]; cases i <;> rfl
  refine seq_n (x_asg (x_idx (x_attr rfl (P.code _)) rfl (idx_code h)) rfl) (seq_n (ifs_f ((op_eq rfl rfl).trans (by rw [h36])) rfl) ?_)
  by_cases hs : i = .setl
  · subst hs
    kernel_rfl
  · have h34 : (opW (enc i) == 34) = false := by rw [op_enc hi]; cases i <;> first | exact absurd rfl hs | rfl
    have hw : wl i = 1 := by cases i <;> first | exact absurd rfl hs | rfl
    rw [hw]
    exact seq_n (ifs_f (x_bop (x_stop ((op_eq rfl rfl).trans (by rw [h34])) Bool.false_ne_true)) rfl) (seq_r (x_ret rfl))

/-- the starts -/
noncomputable def sts : List I → Nat → List Nat
  | [], _ => []
  | .setl :: _ :: r, k => k :: sts r (k + 2)
  | _ :: r, k => k :: sts r (k + 1)

noncomputable def cond_starts : X := .cmp .lt (.var 2) (.len (.attr (.var 0) 6))
noncomputable def body_starts : S := .seq (.app (.var 1) (.var 2)) (.seq (.asg 2 (.bin .add (.var 2) (.call 17 (.cons (.var 0) (.cons (.var 2) .nil))))) .skip)
theorem drop_cons {α : Type} {l r : List α} {k : Nat} {a : α} (h : l.drop k = a :: r) : l[k]? = some a ∧ l.drop (k + 1) = r ∧ k < l.length := by
  have hk : k < l.length := by
    by_cases hk : k < l.length
    · exact hk
    · rw [List.drop_eq_nil_of_le (Nat.not_lt.mp hk)] at h; cases h
  rw [List.drop_eq_getElem_cons hk] at h
  injection h with h1 h2
  exact ⟨by rw [List.getElem?_eq_getElem hk, h1], h2, hk⟩
theorem snoc_lt {a b c : Nat} {acc : List Nat} {k : Nat} (h : acc.length + (a + 1) < b) (e : c ≤ a) : (acc ++ [k]).length + c < b := by rw [List.length_append, List.length_singleton]; omega
theorem nats_snoc {acc : List Nat} {k : Nat} : (natsD (acc ++ [k])).map V.d = (natsD acc).map .d ++ [.d (.int (k : Nat))] := by
  unfold natsD; rw [List.map_append, List.map_append]; rfl
theorem nats_len {acc : List Nat} {b : Nat} (h : acc.length < b) : ((natsD acc).map V.d).length < b := by rw [List.length_map, natsD, List.length_map]; exact h
theorem loop_starts {p : D} {is : List I} (P : Prg p is) (n : Nat) (fuel : Nat) : ∀ (l : List I) (k : Nat) (acc : List Nat), is.drop k = l → l.length < fuel → acc.length + l.length < big →
    ∃ ρ', exec ns (callN ns fns (n + 3)) (.whl fuel cond_starts body_starts) [.d p, .loc 0, .d (.int (k : Nat))] [.lst ((natsD acc).map .d)] = some (.next, .d p :: .loc 0 :: ρ', [.lst ((natsD (acc ++ sts l k)).map .d)]) := by
  induction fuel with
  | zero => exact fun l k acc _ h _ => absurd h (Nat.not_lt_zero _)
  | succ fuel ihf =>
    intro l k acc hd hf hb
    have hcond : ev ns (callN ns fns (n + 3)) cond_starts [.d p, .loc 0, .d (.int (k : Nat))] [.lst ((natsD acc).map .d)] = some (.d (.bool (decide ((k : Int) < (is.length : Int)))), [.lst ((natsD acc).map .d)]) :=
      x_cmp rfl (x_len (x_attr rfl (P.code _)) (List.length_map ..)) rfl
    cases l with
    | nil =>
      have hk : ¬ k < is.length := fun hk => by rw [List.drop_eq_getElem_cons hk] at hd; cases hd
      exact ⟨[.d (.int k)], (whl_f (hcond.trans (by rw [dec_nlt hk]))).trans (by rw [sts, List.append_nil])⟩
    | cons i r =>
      obtain ⟨h1, h2, h3⟩ := drop_cons hd
      have hbody : exec ns (callN ns fns (n + 3)) body_starts [.d p, .loc 0, .d (.int (k : Nat))] [.lst ((natsD acc).map .d)] = some (.next, [.d p, .loc 0, .d (.int ((k + wl i : Nat)))], [.lst ((natsD (acc ++ [k])).map .d)]) := by
        have hl := nats_len (Nat.lt_of_lt_of_le (Nat.lt_add_of_pos_right (Nat.succ_pos _)) (Nat.le_of_lt hb))
        exact seq_n (x_app rfl rfl rfl rfl hl) (seq_n (x_asg (x_bin rfl (x_call (ds := [p, .int k]) (x_cons rfl (x_cons rfl rfl)) (c_words_of P n h1)) rfl) rfl) (by rw [nats_snoc]; rfl))
      have step : ∀ (r' : List I), is.drop (k + wl i) = r' → r'.length ≤ r.length → sts (i :: r) k = k :: sts r' (k + wl i) → ∃ ρ', exec ns (callN ns fns (n + 3)) (.whl (fuel + 1) cond_starts body_starts) [.d p, .loc 0, .d (.int (k : Nat))] [.lst ((natsD acc).map .d)] = some (.next, .d p :: .loc 0 :: ρ', [.lst ((natsD (acc ++ sts (i :: r) k)).map .d)]) := by
        intro r' e1 e2 e3
        simp only [List.length_cons] at hf hb
        obtain ⟨ρ', ih⟩ := ihf r' (k + wl i) (acc ++ [k]) e1 (Nat.lt_of_le_of_lt e2 (Nat.lt_of_succ_lt_succ hf)) (snoc_lt hb e2)
        refine ⟨ρ', ?_⟩
        rw [List.append_assoc] at ih
        exact (whl_t (hcond.trans (by rw [dec_lt h3])) hbody ih).trans (by rw [e3]; rfl)
      by_cases hs : i = .setl
      · subst hs
        cases r with
        | nil =>
          refine step [] ?_ (Nat.le_refl _) rfl
          rw [← List.drop_drop, hd]; rfl
        | cons j r =>
          refine step r ?_ (by simp) rfl
          rw [← List.drop_drop, hd]; rfl
      · have hw : wl i = 1 := by cases i <;> simp_all [wl]
        rw [hw] at step
        refine step r h2 (Nat.le_refl _) ?_
        cases i <;> first | exact absurd rfl hs | rfl
theorem frz_nats {k : Nat} {l : List Nat} : frz (k + 1) [.lst ((natsD l).map .d)] (.loc 0) = some (.lst (natsD l)) := frz_lst rfl
theorem c_starts {p : D} {is : List I} (P : Prg p is) (n : Nat) (hl : is.length < 40) : ∃ H', callN ns fns (n + 4) 18 [.d p] [] = some (.loc 0, H') ∧ frz 3 H' (.loc 0) = some (.lst (natsD (sts is 0))) := by
  obtain ⟨ρ', h⟩ := loop_starts (ns := ns) P n 40 is 0 [] rfl hl (by have : big = 1000000 := rfl; simp; omega)
  refine ⟨[.lst ((natsD (sts is 0)).map .d)], callN_of (fd := ⟨1, 3, b_starts_of⟩) (ρ := .d p :: .loc 0 :: ρ') rfl rfl ?_, frz_nats⟩
  exact seq_n (ρ' := [.d p, .loc 0, .d (.int (0 : Nat))]) (H' := [.lst []]) (by kernel_rfl) (seq_n h (seq_r (x_ret rfl)))
/-- a call of starts_of, as an expression sees it -/
theorem ev_starts {p : D} {is : List I} (P : Prg p is) (n : Nat) (hl : is.length < 40) {x : X} (hx : ev ns (callN ns fns (n + 4)) x ρ H = some (.d p, H)) : ev ns (callN ns fns (n + 4)) (.call 18 (.cons x .nil)) ρ H = some (.d (.lst (natsD (sts is 0))), H) := by
  obtain ⟨H', h1, h2⟩ := c_starts (ns := ns) P n hl
  exact x_callF (ds := [p]) (x_cons hx rfl) h1 h2
end Mine
end

/-! ### P3 -/
section
set_option tactic.hygienic false
set_option genSizeOf false
set_option bootstrap.genMatcherCode false
open PySem
set_option linter.unusedVariables false
set_option linter.unusedSimpArgs false
set_option maxRecDepth 100000
namespace Mine
variable {ns : List Int} {C : Calls'} {ρ ρ' : List V} {H H' : List O}

theorem c_target {p : D} {is : List I} (P : Prg p is) (n : Nat) {k : Nat} {s : Int} (h : is[k]? = some (.jmp s)) : callN ns fns (n + 4) 19 [.d p, .d (.int (k : Nat))] [] = some (.d (.int ((k : Nat) + 1 + s)), []) := by
  refine callN_of (fd := ⟨2, 2, b_target⟩) (ρ := [.d p, .d (.int k)]) rfl rfl ?_
  have hs := sbx_enc (ok_at P h)
  exact seq_r (x_ret (x_bin (x_bin rfl rfl rfl) (x_call (ds := [.int (enc (.jmp s))]) (x_cons (x_idx (x_attr rfl (P.code _)) rfl (idx_code h)) rfl) ((c_sbx _ _).trans (by rw [hs]))) rfl))

/-- where one may go on -/
noncomputable def nx (k : Nat) : I → List Nat
  | .ret _ => []
  | .jmp s => [((k : Int) + 1 + s).toNat]
  | .test _ _ => [k + 1, k + 2]
  | i => [k + wl i]
theorem c_opc (n : Nat) {i : I} (h : i.ok) : callN ns fns (n + 2) 5 [.d (.int (enc i))] [] = some (.d (.int (opc i)), []) := (c_op n _).trans (by rw [op_enc h])
theorem next_head {p : D} {is : List I} (P : Prg p is) (n : Nat) {k : Nat} {i : I} (h : is[k]? = some i) {rest : S} {r : Option (Fl × List V × List O)}
    (hr : exec ns (callN ns fns (n + 4)) rest [.d p, .d (.int (k : Nat)), .d (.int (enc i)), .d (.int (opc i)), .d (.int ((k + wl i : Nat)))] [] = r) :
    exec ns (callN ns fns (n + 4)) (.seq (.asg 2 (.idx (.attr (.var 0) 6) (.var 1))) (.seq (.asgT [3, 4] (.cons (.call 5 (.cons (.var 2) .nil)) (.cons (.bin .add (.var 1) (.call 17 (.cons (.var 0) (.cons (.var 1) .nil)))) .nil))) rest)) [.d p, .d (.int (k : Nat)), .undef, .undef, .undef] [] = r :=
  seq_n (exec_asg (i := 2) (x_idx (x_attr (v := .d (codeD is)) rfl (P.code _)) rfl (idx_code h)) (Nat.lt_of_sub_eq_succ rfl))
    (seq_n (x_asgT (vs := [.d (.int (opc i)), .d (.int ((k + wl i : Nat)))]) (x_cons (x_call (ds := [.int (enc i)]) (x_cons rfl rfl) (c_opc (n + 2) (ok_at P h))) (x_cons (x_bin rfl (x_call (ds := [p, .int (k : Nat)]) (x_cons rfl (x_cons rfl rfl)) (c_words_of P (n + 1) h)) rfl) rfl)) rfl) hr)
theorem c_next {p : D} {is : List I} (P : Prg p is) (n : Nat) {k : Nat} {i : I} (h : is[k]? = some i) (hj : ∀ s, i = .jmp s → 0 ≤ (k : Int) + 1 + s) : callN ns fns (n + 5) 20 [.d p, .d (.int (k : Nat))] [] = some (.d (.lst (natsD (nx k i))), []) := by
  refine callN_of (fd := ⟨2, 5, b_next_places⟩) (ρ := [.d p, .d (.int k), .d (.int (enc i)), .d (.int (opc i)), .d (.int (k + wl i : Nat))]) rfl rfl (next_head P n h ?_)
  cases i with
  | jmp s =>
    have ht := c_target (ns := ns) P n h
    have e : natsD (nx k (.jmp s)) = [.int ((k : Nat) + 1 + s)] := by
      have := Int.toNat_of_nonneg (hj s rfl)
      simp [natsD, nx, this]
    rw [e]
    refine seq_n (ifs_f (H' := []) rfl rfl) (seq_r (ifs_t (H' := []) rfl (seq_r (x_ret (x_list (ds := [.int ((k : Nat) + 1 + s)]) (x_cons (x_call (ds := [p, .int (k : Nat)]) (x_cons rfl (x_cons rfl rfl)) ht) rfl))))))
  | ret a => kernel_rfl
  | test a c => kernel_rfl
  | setl => kernel_rfl
  | loadk a c => kernel_rfl
  | move a c => kernel_rfl
  | neg a c => kernel_rfl

theorem after_head {is : List I} (n : Nat) {k : Nat} {i : I} (h : is[k]? = some i) (hi : i.ok) {rest : S} {r : Option (Fl × List V × List O)}
    (hr : exec ns (callN ns fns (n + 3)) rest [.d (codeD is), .d (.int (k : Nat)), .d (.int (opc i)), .d (.int ((k + wl i : Nat)))] [] = r) :
    exec ns (callN ns fns (n + 3)) (.seq (.asgT [2, 3] (.cons (.call 5 (.cons (.idx (.var 0) (.var 1)) .nil)) (.cons (.bin .add (.var 1) (.ite (.cmp .eq (.call 5 (.cons (.idx (.var 0) (.var 1)) .nil)) (.glob 27)) (.cst (.int 2)) (.cst (.int 1)))) .nil))) rest) [.d (codeD is), .d (.int (k : Nat)), .undef, .undef] [] = r := by
  have h5 : ∀ H, ev ns (callN ns fns (n + 3)) (.call 5 (.cons (.idx (.var 0) (.var 1)) .nil)) [.d (codeD is), .d (.int (k : Nat)), .undef, .undef] H = some (.d (.int (opc i)), H) := fun H => x_call (ds := [.int (enc i)]) (x_cons (x_idx rfl rfl (idx_code h)) rfl) (c_opc (n + 1) hi)
  have hw : ev ns (callN ns fns (n + 3)) (.ite (.cmp .eq (.call 5 (.cons (.idx (.var 0) (.var 1)) .nil)) (.glob 27)) (.cst (.int 2)) (.cst (.int 1))) [.d (codeD is), .d (.int (k : Nat)), .undef, .undef] [] = some (.d (.int (wl i : Nat)), []) := by
    cases i with
    | setl => exact x_ite_t (x_cmp (h5 _) rfl rfl) rfl
    | _ => exact x_ite_f (x_cmp (h5 _) rfl rfl) rfl
  exact seq_n (x_asgT (vs := [.d (.int (opc i)), .d (.int ((k + wl i : Nat)))]) (x_cons (h5 _) (x_cons (x_bin rfl hw rfl) rfl)) rfl) hr
theorem c_after {is : List I} (hok : ∀ i ∈ is, i.ok) (n : Nat) {k : Nat} {i : I} (h : is[k]? = some i) (hj : ∀ s, i = .jmp s → 0 ≤ (k : Int) + 1 + s) : callN ns fns (n + 4) 35 [.d (codeD is), .d (.int (k : Nat))] [] = some (.d (.lst (natsD (nx k i))), []) := by
  have hi := hok i (List.mem_of_getElem? h)
  refine callN_of (fd := ⟨2, 4, b_law_after⟩) (ρ := [.d (codeD is), .d (.int k), .d (.int (opc i)), .d (.int (k + wl i : Nat))]) rfl rfl (after_head n h hi ?_)
  cases i with
  | jmp s =>
    have e : natsD (nx k (.jmp s)) = [.int ((k : Nat) + 1 + s)] := by
      have := Int.toNat_of_nonneg (hj s rfl)
      simp [natsD, nx, this]
    rw [e]
    refine seq_n (ifs_f (H' := []) rfl rfl) (seq_r (ifs_t (H' := []) rfl (seq_r (x_ret (x_list (ds := [.int ((k : Nat) + 1 + s)]) (x_cons (x_bin (x_bin rfl rfl rfl) (x_call (ds := [.int (enc (.jmp s))]) (x_cons (x_idx rfl rfl (idx_code h)) rfl) ((c_sbx n _).trans (by rw [sbx_enc hi]))) rfl) rfl))))))
  | ret a => kernel_rfl
  | test a c => kernel_rfl
  | setl => kernel_rfl
  | loadk a c => kernel_rfl
  | move a c => kernel_rfl
  | neg a c => kernel_rfl

/-! ## bare words -/
noncomputable def isSet : D → Bool
  | .int w => opW w == 34
  | _ => false
noncomputable def bares : List D → Nat → List Nat
  | [], _ => []
  | [d], k => if isSet d then [k + 1] else []
  | d :: e :: r, k => if isSet d then (k + 1) :: bares r (k + 2) else bares (e :: r) (k + 1)
noncomputable def plainD : D → Prop
  | .int _ => True
  | .tup _ => True
  | _ => False
noncomputable def cond_bare : X := .cmp .lt (.var 2) (.len (.var 0))
noncomputable def body_bare : S := .seq (.ifs (.bop true (.cons (.not (.isTup (.idx (.var 0) (.var 2)))) (.cons (.cmp .eq (.call 5 (.cons (.idx (.var 0) (.var 2)) .nil)) (.glob 27)) .nil))) (.seq (.app (.var 1) (.bin .add (.var 2) (.cst (.int 1))))
  (.seq (.asg 2 (.bin .add (.var 2) (.cst (.int 1))))
  .skip)) .skip)
  (.seq (.asg 2 (.bin .add (.var 2) (.cst (.int 1))))
  .skip)
theorem idx_lst {ds : List D} {k : Nat} {d : D} (h : ds[k]? = some d) : idxV H (.d (.lst ds)) (.d (.int (k : Nat))) = some (.d d) := by
  show (oh (at? ds.length (k : Int)) fun k => (ds[k]?).map V.d) = _
  rw [at_pos (List.getElem?_eq_some_iff.mp h).1, oh_some, h]; rfl
theorem ff_elim' {P : Prop} (h : false = true) : P := nomatch h
section
variable {ds : List D} {n k : Nat} {w : Int} {h1 : List O}
theorem bare_set (h1 : ds[k]? = some (.int w)) (hs : (opW w == 34) = true) {acc : List Nat} (hl : acc.length < big) : exec ns (callN ns fns (n + 2)) body_bare [.d (.lst ds), .loc 0, .d (.int (k : Nat))] [.lst ((natsD acc).map .d)] = some (.next, [.d (.lst ds), .loc 0, .d (.int ((k + 2 : Nat)))], [.lst ((natsD (acc ++ [k + 1])).map .d)]) :=
  have hx : ev ns (callN ns fns (n + 2)) (.idx (.var 0) (.var 2)) [.d (.lst ds), .loc 0, .d (.int (k : Nat))] [.lst ((natsD acc).map .d)] = some (.d (.int w), [.lst ((natsD acc).map .d)]) := x_idx rfl rfl (idx_lst h1)
  seq_n (ifs_t (x_bop (x_next (x_not (x_isTup hx rfl)) (x_next ((op_eq hx rfl).trans (by rw [hs])) rfl))) (seq_n (x_app rfl rfl (x_bin rfl rfl rfl) rfl (nats_len hl)) (seq_n (x_asg (x_bin rfl rfl rfl) rfl) rfl))) (seq_n (x_asg (x_bin rfl rfl rfl) rfl) (by rw [nats_snoc]; rfl))
theorem bare_int (h1 : ds[k]? = some (.int w)) (hs : (opW w == 34) = false) {H : List O} : exec ns (callN ns fns (n + 2)) body_bare [.d (.lst ds), .loc 0, .d (.int (k : Nat))] H = some (.next, [.d (.lst ds), .loc 0, .d (.int ((k + 1 : Nat)))], H) :=
  have hx : ev ns (callN ns fns (n + 2)) (.idx (.var 0) (.var 2)) [.d (.lst ds), .loc 0, .d (.int (k : Nat))] H = some (.d (.int w), H) := x_idx rfl rfl (idx_lst h1)
  seq_n (ifs_f (x_bop (x_next (x_not (x_isTup hx rfl)) (x_stop ((op_eq hx rfl).trans (by rw [hs])) Bool.false_ne_true))) rfl) (seq_n (x_asg (x_bin rfl rfl rfl) rfl) rfl)
theorem bare_tup {xs : List D} (h1 : ds[k]? = some (.tup xs)) {H : List O} : exec ns (callN ns fns (n + 2)) body_bare [.d (.lst ds), .loc 0, .d (.int (k : Nat))] H = some (.next, [.d (.lst ds), .loc 0, .d (.int ((k + 1 : Nat)))], H) :=
  have hx : ev ns (callN ns fns (n + 2)) (.idx (.var 0) (.var 2)) [.d (.lst ds), .loc 0, .d (.int (k : Nat))] H = some (.d (.tup xs), H) := x_idx rfl rfl (idx_lst h1)
  seq_n (ifs_f (x_bop (x_stop (x_not (x_isTup hx rfl)) Bool.false_ne_true)) rfl) (seq_n (x_asg (x_bin rfl rfl rfl) rfl) rfl)
end
theorem plain_cases {P : D → Prop} {d : D} (h : plainD d) (k1 : ∀ w, P (.int w)) (k2 : ∀ xs, P (.tup xs)) : P d := by
  cases d <;> first | exact k1 _ | exact k2 _ | exact h.elim
theorem bares_set {d : D} {r : List D} {k : Nat} (h : isSet d = true) : bares (d :: r) k = (k + 1) :: bares (r.drop 1) (k + 2) := by
  cases r with
  | nil => exact if_pos h
  | cons e r => exact if_pos h
theorem bares_plain {d : D} {r : List D} {k : Nat} (h : isSet d = false) : bares (d :: r) k = bares r (k + 1) := by
  cases r with
  | nil => exact if_neg (h ▸ Bool.false_ne_true)
  | cons e r => exact if_neg (h ▸ Bool.false_ne_true)
theorem loop_bare {ds : List D} (hp : ∀ d ∈ ds, plainD d) (n : Nat) (fuel : Nat) : ∀ (l : List D) (k : Nat) (acc : List Nat), ds.drop k = l → l.length < fuel → acc.length + l.length < big →
    ∃ ρ', exec ns (callN ns fns (n + 2)) (.whl fuel cond_bare body_bare) [.d (.lst ds), .loc 0, .d (.int (k : Nat))] [.lst ((natsD acc).map .d)] = some (.next, .d (.lst ds) :: .loc 0 :: ρ', [.lst ((natsD (acc ++ bares l k)).map .d)]) := by
  induction fuel with
  | zero => exact fun l k acc _ h _ => absurd h (Nat.not_lt_zero _)
  | succ fuel ihf =>
    intro l k acc hd hf hb
    have hcond : ev ns (callN ns fns (n + 2)) cond_bare [.d (.lst ds), .loc 0, .d (.int (k : Nat))] [.lst ((natsD acc).map .d)] = some (.d (.bool (decide ((k : Int) < (ds.length : Int)))), [.lst ((natsD acc).map .d)]) := x_cmp rfl (x_len rfl rfl) rfl
    cases l with
    | nil =>
      have hk : ¬ k < ds.length := fun hk => by rw [List.drop_eq_getElem_cons hk] at hd; cases hd
      exact ⟨[.d (.int k)], (whl_f (hcond.trans (by rw [dec_nlt hk]))).trans (by rw [bares, List.append_nil])⟩
    | cons d r =>
      obtain ⟨h1, h2, h3⟩ := drop_cons hd
      have hpd := hp d (List.mem_of_getElem? h1)
      have hf : r.length < fuel := Nat.lt_of_succ_lt_succ hf
      have hc := hcond.trans (by rw [dec_lt h3])
      cases hs : isSet d with
      | true =>
        have hl : (r.drop 1).length ≤ r.length := (Nat.le_trans (Nat.le_of_eq List.length_drop) (Nat.sub_le _ _))
        obtain ⟨ρ', ih⟩ := ihf (r.drop 1) (k + 2) (acc ++ [k + 1]) (by rw [← h2, List.drop_drop]) (Nat.lt_of_le_of_lt hl hf) (snoc_lt hb hl)
        rw [List.append_assoc] at ih
        refine ⟨ρ', ?_⟩
        rw [bares_set hs]
        refine plain_cases (P := fun d => isSet d = true → ds[k]? = some d → _) hpd (fun w hs h1 => whl_t hc (bare_set h1 hs (Nat.lt_of_lt_of_le (Nat.lt_add_of_pos_right (Nat.succ_pos _)) (Nat.le_of_lt hb))) ih) (fun xs hs _ => ff_elim' hs) hs h1
      | false =>
        obtain ⟨ρ', ih⟩ := ihf r (k + 1) acc h2 hf (Nat.lt_of_le_of_lt (Nat.add_le_add_left (Nat.le_succ _) _) hb)
        refine ⟨ρ', ?_⟩
        rw [bares_plain hs]
        exact plain_cases (P := fun d => isSet d = false → ds[k]? = some d → _) hpd (fun w hs h1 => whl_t hc (bare_int h1 hs) ih) (fun xs hs h1 => whl_t hc (bare_tup h1) ih) hs h1
theorem c_bare {ds : List D} (hp : ∀ d ∈ ds, plainD d) (n : Nat) (hl : ds.length < 40) : ∃ H', callN ns fns (n + 3) 28 [.d (.lst ds)] [] = some (.loc 0, H') ∧ frz 3 H' (.loc 0) = some (.lst (natsD (bares ds 0))) := by
  obtain ⟨ρ', h⟩ := loop_bare (ns := ns) hp n 40 ds 0 [] rfl hl (Nat.lt_of_le_of_lt (Nat.le_of_eq (Nat.zero_add _)) (Nat.lt_trans hl (by decide)))
  refine ⟨[.lst ((natsD (bares ds 0)).map .d)], callN_of (fd := ⟨1, 3, b_law_bare⟩) (ρ := .d (.lst ds) :: .loc 0 :: ρ') rfl rfl ?_, frz_nats⟩
  exact seq_n (ρ' := [.d (.lst ds), .loc 0, .d (.int (0 : Nat))]) (H' := [.lst []]) (by kernel_rfl) (seq_n h (seq_r (x_ret rfl)))
theorem ev_bare {ds : List D} (hp : ∀ d ∈ ds, plainD d) (n : Nat) (hl : ds.length < 40) {x : X} (hx : ev ns (callN ns fns (n + 3)) x ρ H = some (.d (.lst ds), H)) : ev ns (callN ns fns (n + 3)) (.call 28 (.cons x .nil)) ρ H = some (.d (.lst (natsD (bares ds 0))), H) := by
  obtain ⟨H', h1, h2⟩ := c_bare (ns := ns) hp n hl
  exact x_callF (ds := [.lst ds]) (x_cons hx rfl) h1 h2

/-! ## truth -/
noncomputable def isT : D → Bool
  | .none => false
  | .bool b => b
  | _ => true
noncomputable def regD : D → Prop
  | .none => True
  | .bool _ => True
  | .int i => i = 0
  | .bytes b => b = [120]
  | _ => False
theorem c_istrue (n : Nat) {d : D} (h : regD d) : callN ns fns (n + 1) 32 [.d d] [] = some (.d (.bool (isT d)), []) := by
  refine callN_of (fd := ⟨1, 1, b_law_is_true⟩) (ρ := [.d d]) rfl rfl ?_
  cases d with
  | none => kernel_rfl
  | bool b => cases b <;> kernel_rfl
  | int i => kernel_rfl
  | bytes b => kernel_rfl
  | _ => exact h.elim
end Mine
end

/-! ### PM1 -/
section
set_option tactic.hygienic false
set_option genSizeOf false
set_option bootstrap.genMatcherCode false
open PySem
set_option linter.unusedVariables false
set_option linter.unusedSimpArgs false
set_option maxRecDepth 100000
namespace Mine

/-! ## walks along jumps -/
noncomputable def isJ (is : List I) (k : Nat) : Bool := match is[k]? with
  | some (.jmp _) => true
  | _ => false
noncomputable def go (is : List I) (k : Nat) : Nat := match is[k]? with
  | some (.jmp s) => ((k : Int) + 1 + s).toNat
  | _ => k
noncomputable def wlk (is : List I) : Nat → Nat → Nat
  | 0, x => x
  | m + 1, x => wlk is m (go is x)
noncomputable def fin (is : List I) (k : Nat) : Nat := if isJ is (wlk is is.length (go is k)) then go is k else wlk is is.length (go is k)

structure WF (is : List I) : Prop where
  ok : ∀ i ∈ is, i.ok
  len : is.length ≤ 20
  first : 0 < is.length
  jmp : ∀ (k : Nat) (s : Int), k ∈ sts is 0 → is[k]? = some (.jmp s) → 0 ≤ (k : Int) + 1 + s ∧ ((k : Int) + 1 + s).toNat ∈ sts is 0
  test : ∀ (k a c : Nat), k ∈ sts is 0 → is[k]? = some (.test a c) → k + 1 ∈ sts is 0 ∧ k + 2 ∈ sts is 0
  fall : ∀ (k : Nat) (i : I), k ∈ sts is 0 → is[k]? = some i → (match i with | .ret _ => False | .jmp _ => False | _ => True) → k + wl i ∈ sts is 0

theorem sts_range : ∀ (l : List I) (k x : Nat), x ∈ sts l k → k ≤ x ∧ x < k + l.length
  | [], k, x, h => by cases h
  | .setl :: j :: r, k, x, h => by
    rcases List.mem_cons.mp h with rfl | h
    · simp
    · have := sts_range r (k + 2) x h; simp only [List.length_cons]; omega
  | [.setl], k, x, h => by
    rcases List.mem_cons.mp h with rfl | h
    · simp
    · cases h
  | .loadk a b :: r, k, x, h | .move a b :: r, k, x, h | .neg a b :: r, k, x, h | .test a b :: r, k, x, h | .jmp a :: r, k, x, h | .ret a :: r, k, x, h => by
    rcases List.mem_cons.mp h with rfl | h
    · simp
    · have := sts_range r (k + 1) x h; simp only [List.length_cons]; omega
theorem sts_head {l : List I} {k : Nat} (h : 0 < l.length) : k ∈ sts l k := by
  cases l with
  | nil => simp at h
  | cons i r =>
    cases i <;> first | exact List.mem_cons_self | skip
    cases r <;> exact List.mem_cons_self

variable {is : List I}
theorem WF.lt (w : WF is) {k : Nat} (h : k ∈ sts is 0) : k < is.length := by have := sts_range is 0 k h; omega
theorem WF.at_ (w : WF is) {k : Nat} (h : k ∈ sts is 0) : ∃ i, is[k]? = some i := ⟨_, List.getElem?_eq_getElem (w.lt h)⟩
theorem WF.zero (w : WF is) : 0 ∈ sts is 0 := sts_head w.first
set_option tactic.hygienic true in
theorem isJ_iff {k : Nat} : isJ is k = true ↔ ∃ s, is[k]? = some (.jmp s) := by
  unfold isJ
  constructor
  · intro h; split at h
    · rename_i s e; exact ⟨s, e⟩
    · cases h
  · rintro ⟨s, e⟩; rw [e]
set_option tactic.hygienic true in
theorem go_stay {k : Nat} (h : isJ is k = false) : go is k = k := by
  unfold go isJ at *
  split
  · rename_i s e; rw [e] at h; cases h
  · rfl
theorem go_jmp {k : Nat} {s : Int} (h : is[k]? = some (.jmp s)) : go is k = ((k : Int) + 1 + s).toNat := by
  unfold go; rw [h]
theorem WF.go (w : WF is) {k : Nat} (h : k ∈ sts is 0) : go is k ∈ sts is 0 := by
  cases hj : isJ is k with
  | false => rw [go_stay hj]; exact h
  | true => obtain ⟨s, e⟩ := isJ_iff.mp hj; rw [go_jmp e]; exact (w.jmp k s h e).2
theorem WF.wlk (w : WF is) : ∀ (m : Nat) {k : Nat}, k ∈ sts is 0 → wlk is m k ∈ sts is 0
  | 0, k, h => h
  | m + 1, k, h => w.wlk m (w.go h)
theorem wlk_stay {k : Nat} (h : isJ is k = false) : ∀ m, wlk is m k = k
  | 0 => rfl
  | m + 1 => by rw [wlk, go_stay h]; exact wlk_stay h m
theorem wlk_add (a b k : Nat) : wlk is (a + b) k = wlk is b (wlk is a k) := by
  induction a generalizing k with
  | zero => simp [wlk]
  | succ a ih => rw [Nat.succ_add, wlk, wlk, ih]
/-- behind a place that is no jump nothing moves -/
theorem nonJ_later {m m' k : Nat} (h : isJ is (wlk is m k) = false) (hle : m ≤ m') : wlk is m' k = wlk is m k := by
  obtain ⟨d, rfl⟩ := Nat.le.dest hle
  rw [wlk_add, wlk_stay h]
theorem J_before {m m' k : Nat} (h : isJ is (wlk is m' k) = true) (hle : m ≤ m') : isJ is (wlk is m k) = true := by
  cases hj : isJ is (wlk is m k) with
  | true => rfl
  | false => rw [nonJ_later hj hle, hj] at h; cases h
/-- a ring -/
theorem ring_all {i j k : Nat} (hij : i < j) (he : wlk is i k = wlk is j k) (hJ : isJ is (wlk is j k) = true) : ∀ m, isJ is (wlk is m k) = true := by
  intro m
  induction m using Nat.strongRecOn with
  | ind m ih =>
    by_cases hm : m ≤ j
    · exact J_before hJ hm
    · have e1 : wlk is m k = wlk is (m - j + i) k := by
        have e2 : m = j + (m - j) := by omega
        rw [e2, wlk_add, ← he, ← wlk_add]
        congr 1
        omega
      rw [e1]
      exact ih _ (by omega)
theorem pigeon : ∀ (n : Nat) (l : List Nat), l.Nodup → (∀ x ∈ l, x < n) → l.length ≤ n
  | 0, l, _, h => by
    cases l with
    | nil => simp
    | cons x r => exact absurd (h x List.mem_cons_self) (Nat.not_lt_zero _)
  | n + 1, l, hn, h => by
    by_cases hm : n ∈ l
    · have h1 := pigeon n (l.erase n) (hn.erase n) (fun x hx => by
        have := (hn.mem_erase_iff.mp hx)
        have := h x this.2
        omega)
      rw [List.length_erase_of_mem hm] at h1
      omega
    · have h1 := pigeon n l hn (fun x hx => by
        have := h x hx
        have : x ≠ n := fun z => hm (z ▸ hx)
        omega)
      omega
theorem WF.ring (w : WF is) {k : Nat} (h : k ∈ sts is 0) (hJ : isJ is (Mine.wlk is is.length k) = true) : ∀ m, isJ is (Mine.wlk is m k) = true := by
  by_cases hx : ∃ i j, i < j ∧ j ≤ is.length ∧ Mine.wlk is i k = Mine.wlk is j k
  · obtain ⟨i, j, h1, h2, h3⟩ := hx
    exact ring_all h1 h3 (J_before hJ h2)
  · exfalso
    have hn : ((List.range (is.length + 1)).map fun i => Mine.wlk is i k).Nodup := by
      unfold List.Nodup
      rw [List.pairwise_map]
      refine List.Pairwise.imp_of_mem ?_ List.pairwise_lt_range
      intro a b ha hb hab he
      exact hx ⟨a, b, hab, by have := List.mem_range.mp hb; omega, he⟩
    have := pigeon is.length _ hn (fun x hx => by
      obtain ⟨i, _, rfl⟩ := List.mem_map.mp hx
      exact w.lt (w.wlk i h))
    simp at this
    omega
/-- the walk's end: where a walk ends, or, of a ring, the first -/
theorem WF.fin_end (w : WF is) {k m : Nat} (h : k ∈ sts is 0) (hm : isJ is (Mine.wlk is m (Mine.go is k)) = false) : fin is k = Mine.wlk is m (Mine.go is k) ∧ isJ is (fin is k) = false := by
  have hN : isJ is (Mine.wlk is is.length (Mine.go is k)) = false := by
    cases hj : isJ is (Mine.wlk is is.length (Mine.go is k)) with
    | false => rfl
    | true => rw [w.ring (w.go h) hj m] at hm; cases hm
  have e : fin is k = Mine.wlk is is.length (Mine.go is k) := by unfold fin; rw [hN]; simp
  refine ⟨?_, by rw [e]; exact hN⟩
  rw [e]
  rcases Nat.le_total m is.length with hle | hle
  · exact nonJ_later hm hle
  · exact (nonJ_later hN hle).symm
theorem WF.fin_ring (w : WF is) {k : Nat} (hm : ∀ m, isJ is (Mine.wlk is m (Mine.go is k)) = true) : fin is k = Mine.go is k := by
  unfold fin; rw [hm]; simp
theorem WF.fin_mem (w : WF is) {k : Nat} (h : k ∈ sts is 0) : fin is k ∈ sts is 0 := by
  unfold fin
  split
  · exact w.go h
  · exact w.wlk _ (w.go h)
theorem WF.fin_or (w : WF is) {k : Nat} (h : k ∈ sts is 0) : isJ is (fin is k) = false ∨ ∀ m, isJ is (Mine.wlk is m (Mine.go is k)) = true := by
  cases hj : isJ is (Mine.wlk is is.length (Mine.go is k)) with
  | false => exact .inl (w.fin_end h hj).2
  | true => exact .inr (w.ring (w.go h) hj)

/-! ## threaded -/
noncomputable def thrI (is : List I) (k : Nat) : I → I
  | .jmp s => if k ∈ sts is 0 then .jmp ((fin is k : Int) - k - 1) else .jmp s
  | i => i
noncomputable def thr (is : List I) : List I := is.mapIdx (thrI is)
theorem thr_len : (thr is).length = is.length := by simp [thr]
theorem thr_get {k : Nat} : (thr is)[k]? = (is[k]?).map (thrI is k) := by simp [thr]
noncomputable def isS : I → Bool
  | .setl => true
  | _ => false
noncomputable def stsB : List Bool → Nat → List Nat
  | [], _ => []
  | true :: _ :: r, k => k :: stsB r (k + 2)
  | _ :: r, k => k :: stsB r (k + 1)
theorem sts_B : ∀ (l : List I) (k : Nat), sts l k = stsB (l.map isS) k
  | [], k => rfl
  | .setl :: j :: r, k => by simp only [sts, List.map_cons, isS, stsB]; rw [sts_B r]
  | [.setl], k => rfl
  | .loadk a b :: r, k | .move a b :: r, k | .neg a b :: r, k | .test a b :: r, k | .jmp a :: r, k | .ret a :: r, k => by
    simp only [sts, List.map_cons, isS, stsB]; rw [sts_B r]
theorem thr_sts : sts (thr is) 0 = sts is 0 := by
  rw [sts_B, sts_B]
  congr 1
  apply List.ext_getElem?
  intro k
  rw [List.getElem?_map, List.getElem?_map, thr_get]
  cases is[k]? with
  | none => rfl
  | some i =>
    by_cases h : k ∈ sts is 0 <;> cases i <;> simp [thrI, isS, h]
theorem thr_isJ {k : Nat} : isJ (thr is) k = isJ is k := by
  unfold isJ
  rw [thr_get]
  cases is[k]? with
  | none => rfl
  | some i =>
    by_cases h : k ∈ sts is 0 <;> cases i <;> simp [thrI, h]
theorem thr_jmp {k : Nat} {s : Int} (h : k ∈ sts is 0) (e : is[k]? = some (.jmp s)) : (thr is)[k]? = some (.jmp ((fin is k : Int) - k - 1)) := by
  rw [thr_get, e]; simp [thrI, h]
theorem thr_go (w : WF is) {k : Nat} (h : k ∈ sts is 0) (hj : isJ is k = true) : go (thr is) k = fin is k := by
  obtain ⟨s, e⟩ := isJ_iff.mp hj
  rw [go_jmp (thr_jmp h e)]
  have : ((k : Int) + 1 + ((fin is k : Int) - k - 1)) = (fin is k : Int) := by omega
  rw [this]; simp
theorem thr_same {k : Nat} {i : I} (e : is[k]? = some i) (hi : ∀ s, i ≠ .jmp s) : (thr is)[k]? = some i := by
  rw [thr_get, e]
  cases i <;> first | rfl | exact absurd rfl (hi _)
set_option tactic.hygienic true in
theorem thr_ok (w : WF is) : ∀ i ∈ thr is, i.ok := by
  intro i hi
  obtain ⟨k, hk⟩ := List.mem_iff_getElem?.mp hi
  rw [thr_get] at hk
  cases e : is[k]? with
  | none => rw [e] at hk; cases hk
  | some j =>
    rw [e] at hk
    simp only [Option.map_some, Option.some.injEq] at hk
    subst hk
    have hj := w.ok j (List.mem_of_getElem? e)
    cases j <;> simp only [thrI] <;> try exact hj
    split
    · rename_i hm
      have h1 := w.lt (w.fin_mem hm)
      have h2 := w.lt hm
      have := w.len
      exact ⟨by omega, by omega⟩
    · exact hj
theorem thr_WF (w : WF is) : WF (thr is) := by
  refine ⟨thr_ok w, by rw [thr_len]; exact w.len, by rw [thr_len]; exact w.first, fun k s h e => ?_, fun k a c h e => ?_, fun k i h e hi => ?_⟩
  · rw [thr_sts] at h ⊢
    have hj : isJ is k = true := by rw [← thr_isJ]; exact isJ_iff.mpr ⟨s, e⟩
    obtain ⟨s0, e0⟩ := isJ_iff.mp hj
    rw [thr_jmp h e0] at e
    cases e
    have : ((k : Int) + 1 + ((fin is k : Int) - k - 1)) = (fin is k : Int) := by omega
    rw [this]
    exact ⟨by omega, by simpa using w.fin_mem h⟩
  · rw [thr_sts] at h ⊢
    obtain ⟨j, ej⟩ := w.at_ h
    rw [thr_get, ej] at e
    simp only [Option.map_some, Option.some.injEq] at e
    cases j <;> simp only [thrI] at e <;> first | (cases e; exact w.test k _ _ h ej) | (split at e <;> cases e) | cases e
  · rw [thr_sts] at h ⊢
    obtain ⟨j, ej⟩ := w.at_ h
    rw [thr_get, ej] at e
    simp only [Option.map_some, Option.some.injEq] at e
    subst e
    cases j <;> simp only [thrI] at hi ⊢ <;> first | exact w.fall k _ h ej hi | (simp [h] at hi)
theorem thr_fin (w : WF is) {k : Nat} (h : k ∈ sts is 0) (hj : isJ is k = true) : fin (thr is) k = fin is k := by
  have w' := thr_WF w
  have h' : k ∈ sts (thr is) 0 := by rw [thr_sts]; exact h
  rcases w.fin_or h with e | e
  · have := w'.fin_end (m := 0) h' (by rw [wlk, thr_go w h hj, thr_isJ]; exact e)
    rw [this.1, wlk, thr_go w h hj]
  · have e1 : fin is k = go is k := w.fin_ring e
    have key : ∀ m, wlk (thr is) m (go is k) = wlk is m (go is k) := by
      intro m
      have gen : ∀ (m x : Nat), x ∈ sts is 0 → (∀ j, isJ is (wlk is j x) = true) → wlk (thr is) m x = wlk is m x := by
        intro m
        induction m with
        | zero => intro x _ _; rfl
        | succ m ih =>
          intro x hx hr
          have hr' : ∀ j, isJ is (wlk is j (go is x)) = true := fun j => hr (j + 1)
          have : go (thr is) x = go is x := by rw [thr_go w hx (hr 0), w.fin_ring hr']
          rw [wlk, wlk, this]
          exact ih _ (w.go hx) hr'
      exact gen m _ (w.go h) e
    rw [w'.fin_ring (k := k) (fun m => by rw [thr_go w h hj, e1, key, thr_isJ]; exact e m), thr_go w h hj]
theorem thr_thr (w : WF is) : thr (thr is) = thr is := by
  apply List.ext_getElem?
  intro k
  rw [thr_get (is := thr is)]
  cases e : is[k]? with
  | none => rw [thr_get, e]; rfl
  | some i =>
    cases hi : isJ is k with
    | false =>
      have hne : ∀ s, i ≠ .jmp s := fun s z => by rw [isJ_iff.mpr ⟨s, z ▸ e⟩] at hi; cases hi
      rw [thr_same e hne]
      cases i <;> first | rfl | exact absurd rfl (hne _)
    | true =>
      obtain ⟨s, e'⟩ := isJ_iff.mp hi
      by_cases h : k ∈ sts is 0
      · rw [thr_jmp h e']
        simp only [Option.map_some, thrI, thr_sts, h, if_true, thr_fin w h hi]
      · rw [thr_get, e']
        simp [thrI, thr_sts, h]
end Mine
end

/-! ### PM2 -/
section
set_option tactic.hygienic false
set_option genSizeOf false
set_option bootstrap.genMatcherCode false
open PySem
set_option linter.unusedVariables false
set_option linter.unusedSimpArgs false
set_option maxRecDepth 100000
namespace Mine
variable {is : List I}

/-! ## the little machine -/
noncomputable def consts : List D := [.none, .bool false, .int 0, .bytes [120]]
noncomputable def reg (kept : List D) (a : Nat) : D := kept.getD a .none
noncomputable def repD (d : D) : Str := (reprD d).getD Str.empty
noncomputable def runS (is : List I) : Nat → Nat → List D → Option D
  | 0, _, _ => none
  | m + 1, k, kept => match is[k]? with
    | some (.loadk a c) => runS is m (k + 1) (kept.set a (consts.getD c .none))
    | some (.move a c) => runS is m (k + 1) (kept.set a (reg kept c))
    | some (.neg a c) => runS is m (k + 1) (kept.set a (.bool (!isT (reg kept c))))
    | some (.test a c) => runS is m (k + 1 + (if isT (reg kept a) != decide (c ≠ 0) then 1 else 0)) kept
    | some (.jmp s) => runS is m (((k : Int) + 1 + s).toNat) kept
    | some .setl => runS is m (k + 2) kept
    | some (.ret a) => some (.tup [.str (repD (reg kept a))])
    | none => none

theorem run_more : ∀ {m k : Nat} {kept : List D} {v : D}, runS is m k kept = some v → runS is (m + 1) k kept = some v
  | 0, k, kept, v, h => by cases h
  | m + 1, k, kept, v, h => by
    rw [runS] at h ⊢
    split at h
    case h_1 => exact run_more h
    case h_2 => exact run_more h
    case h_3 => exact run_more h
    case h_4 => exact run_more h
    case h_5 => exact run_more h
    case h_6 => exact run_more h
    case h_7 => exact h
    case h_8 => cases h
theorem run_le {m m' k : Nat} {kept : List D} {v : D} (h : runS is m k kept = some v) (hle : m ≤ m') : runS is m' k kept = some v := by
  obtain ⟨d, rfl⟩ := Nat.le.dest hle
  induction d with
  | zero => exact h
  | succ d ih => exact run_more (ih (by omega))
/-- a jump of a run that ends leads to a place that is none -/
theorem run_jump (w : WF is) : ∀ {m k : Nat} {kept : List D} {v : D}, k ∈ sts is 0 → isJ is k = true → runS is m k kept = some v → ∃ m', m' < m ∧ isJ is (fin is k) = false ∧ runS is m' (fin is k) kept = some v
  | 0, k, kept, v, _, _, h => by cases h
  | m + 1, k, kept, v, hk, hj, h => by
    obtain ⟨s, e⟩ := isJ_iff.mp hj
    have hg := go_jmp e
    rw [runS, e] at h
    simp only at h
    rw [← hg] at h
    cases hj2 : isJ is (go is k) with
    | false =>
      have := w.fin_end (m := 0) hk (by rw [wlk]; exact hj2)
      rw [wlk] at this
      exact ⟨m, Nat.lt_succ_self _, this.2, by rw [this.1]; exact h⟩
    | true =>
      obtain ⟨m', h1, h2, h3⟩ := run_jump w (w.go hk) hj2 h
      have hx : ∃ j, isJ is (wlk is j (go is (go is k))) = false ∧ fin is (go is k) = wlk is j (go is (go is k)) := by
        rcases w.fin_or (w.go hk) with e2 | e2
        · cases hN : isJ is (wlk is is.length (go is (go is k))) with
          | false => exact ⟨_, hN, (w.fin_end (w.go hk) hN).1⟩
          | true =>
            have := w.ring (w.go (w.go hk)) hN
            rw [w.fin_ring this] at e2
            have := this 0
            rw [wlk] at this
            rw [this] at e2; cases e2
        · rw [w.fin_ring e2] at h2
          have := e2 0
          rw [wlk] at this
          rw [this] at h2; cases h2
      obtain ⟨j, g1, g2⟩ := hx
      have := w.fin_end (m := j + 1) hk (by rw [wlk]; exact g1)
      rw [wlk] at this
      refine ⟨m', by omega, this.2, ?_⟩
      rw [this.1, ← g2]; exact h3
theorem run_thr (w : WF is) : ∀ {m k : Nat} {kept : List D} {v : D}, k ∈ sts is 0 → runS is m k kept = some v → runS (thr is) m k kept = some v := by
  intro m
  induction m using Nat.strongRecOn with
  | ind m ih =>
    intro k kept v hk h
    cases m with
    | zero => cases h
    | succ m =>
      cases hj : isJ is k with
      | true =>
        obtain ⟨m', h1, h2, h3⟩ := run_jump w hk hj h
        have h4 := ih m' h1 (w.fin_mem hk) h3
        obtain ⟨s, e⟩ := isJ_iff.mp hj
        rw [runS, thr_jmp hk e]
        simp only
        have : ((k : Int) + 1 + ((fin is k : Int) - k - 1)) = (fin is k : Int) := by omega
        rw [this, Int.toNat_natCast]
        exact run_le h4 (by omega)
      | false =>
        obtain ⟨i, e⟩ := w.at_ hk
        have hne : ∀ s, i ≠ .jmp s := fun s z => by rw [isJ_iff.mpr ⟨s, z ▸ e⟩] at hj; cases hj
        rw [runS, e] at h
        rw [runS, thr_same e hne]
        cases i with
        | loadk a c => exact ih m (Nat.lt_succ_self _) (w.fall k _ hk e trivial) h
        | move a c => exact ih m (Nat.lt_succ_self _) (w.fall k _ hk e trivial) h
        | neg a c => exact ih m (Nat.lt_succ_self _) (w.fall k _ hk e trivial) h
        | test a c =>
          refine ih m (Nat.lt_succ_self _) ?_ h
          split
          · exact (w.test k a c hk e).2
          · exact (w.test k a c hk e).1
        | setl => exact ih m (Nat.lt_succ_self _) (w.fall k _ hk e trivial) h
        | jmp s => exact absurd rfl (hne s)
        | ret a => exact h
end Mine
end

/-! ### P4 -/
section
set_option tactic.hygienic false
set_option genSizeOf false
set_option bootstrap.genMatcherCode false
open PySem
set_option linter.unusedVariables false
set_option linter.unusedSimpArgs false
set_option maxRecDepth 100000
namespace Mine
variable {ns : List Int} {C : Calls'} {ρ ρ' : List V} {H H' : List O} {is : List I}

theorem go_int (w : WF is) {k : Nat} {s : Int} (h : k ∈ sts is 0) (e : is[k]? = some (.jmp s)) : ((k : Int) + 1 + s) = (go is k : Nat) := by
  rw [go_jmp e, Int.toNat_of_nonneg (w.jmp k s h e).1]

/-! ## _law_end -/
noncomputable def body_lend : S := .seq (.ifs (.cmp .eq (.call 5 (.cons (.idx (.var 0) (.var 3)) .nil)) (.glob 17)) (.seq (.asg 3 (.bin .add (.bin .add (.var 3) (.cst (.int 1))) (.call 10 (.cons (.idx (.var 0) (.var 3)) .nil))))
  .skip) .skip)
  .skip
theorem ev_isjmp (w : WF is) (n : Nat) {k : Nat} {i : I} (e : is[k]? = some i) {x y : X} (hx : ev ns (callN ns fns (n + 2)) x ρ H = some (.d (codeD is), H)) (hy : ev ns (callN ns fns (n + 2)) y ρ H = some (.d (.int (k : Nat)), H)) :
    ev ns (callN ns fns (n + 2)) (.cmp .eq (.call 5 (.cons (.idx x y) .nil)) (.glob 17)) ρ H = some (.d (.bool (isJ is k)), H) := by
  have ho := op_enc (w.ok i (List.mem_of_getElem? e))
  have : (opW (enc i) == 22) = isJ is k := by
    unfold isJ
    rw [ho, e]
    cases i <;> rfl
  exact (op_eq (x_idx hx hy (idx_code e)) rfl).trans (by rw [this])
theorem lend_step (w : WF is) (n : Nat) {k a : Nat} {f t : V} (hk : k ∈ sts is 0) : exec ns (callN ns fns (n + 3)) body_lend [.d (codeD is), .d (.int (a : Nat)), f, .d (.int (k : Nat)), t] H = some (.next, [.d (codeD is), .d (.int (a : Nat)), f, .d (.int (go is k : Nat)), t], H) := by
  obtain ⟨i, e⟩ := w.at_ hk
  have hc := ev_isjmp (ns := ns) (ρ := [.d (codeD is), .d (.int (a : Nat)), f, .d (.int (k : Nat)), t]) (H := H) w (n + 1) e (x := .var 0) (y := .var 3) rfl rfl
  cases hj : isJ is k with
  | true =>
    rw [hj] at hc
    obtain ⟨s, e'⟩ := isJ_iff.mp hj
    have hs := sbx_enc (w.ok _ (List.mem_of_getElem? e'))
    have hg : ((k : Nat) : Int) + 1 + s = (go is k : Nat) := go_int w hk e'
    exact seq_n (ifs_t hc (seq_n (x_asg (x_bin (x_bin rfl rfl rfl) (x_call (ds := [.int (enc (.jmp s))]) (x_cons (x_idx rfl rfl (idx_code e')) rfl) ((c_sbx _ _).trans (by rw [hs]))) (congrArg some hg)) rfl) rfl)) rfl
  | false =>
    rw [hj] at hc
    rw [go_stay hj]
    exact seq_n (ifs_f hc rfl) rfl

theorem lend_loop (w : WF is) (n : Nat) {a : Nat} {f : V} (l : List V) : ∀ (k : Nat) (t : V), k ∈ sts is 0 → ∃ t', forLoop (fun v ρ H => exec ns (callN ns fns (n + 3)) body_lend (ρ.set 4 v) H) l [.d (codeD is), .d (.int (a : Nat)), f, .d (.int (k : Nat)), t] H = some (.next, [.d (codeD is), .d (.int (a : Nat)), f, .d (.int (wlk is l.length k : Nat)), t'], H) := by
  induction l with
  | nil => exact fun k t _ => ⟨t, rfl⟩
  | cons v l ihl => exact fun k t hk => (ihl (go is k) v (w.go hk)).imp fun t' ih => for_cons (lend_step (ns := ns) (H := H) w n (a := a) (f := f) (t := v) hk) ih
theorem range_len (m : Nat) : (rangeV (m : Int)).length = m := by simp [rangeV]
theorem big_int {m : Nat} (h : m ≤ 20) : (0 : Int) ≤ (m : Int) ∧ (m : Int) ≤ big := ⟨Int.natCast_nonneg _, Int.ofNat_le.mpr (Nat.le_trans h (by decide))⟩
theorem c_lend (w : WF is) (n : Nat) {k : Nat} (hk : k ∈ sts is 0) (hj : isJ is k = true) : callN ns fns (n + 4) 33 [.d (codeD is), .d (.int (k : Nat))] [] = some (.d (.int (fin is k : Nat)), []) := by
  obtain ⟨s, e⟩ := isJ_iff.mp hj
  have hs := sbx_enc (w.ok _ (List.mem_of_getElem? e))
  have hg : ((k : Nat) : Int) + 1 + s = (go is k : Nat) := go_int w hk e
  obtain ⟨t', hl⟩ := lend_loop (ns := ns) (H := []) w n (a := k) (f := .d (.int (go is k : Nat))) (rangeV (is.length : Int)) (go is k) .undef (w.go hk)
  rw [range_len] at hl
  refine callN_of (fd := ⟨2, 5, b_law_end⟩) (ρ := [.d (codeD is), .d (.int k), .d (.int (go is k : Nat)), .d (.int (wlk is is.length (go is k) : Nat)), t']) rfl rfl ?_
  refine seq_n (x_asg (x_bin (x_bin rfl rfl rfl) (x_call (ds := [.int (enc (.jmp s))]) (x_cons (x_idx rfl rfl (idx_code e)) rfl) ((c_sbx _ _).trans (by rw [hs]))) (congrArg some hg)) rfl) (seq_n (x_asg rfl rfl) (seq_n (x_forR (x_len rfl (List.length_map ..)) ⟨Nat.le_of_ble_eq_true rfl, big_int w.len⟩ hl) (seq_r (x_ret ?_))))
  obtain ⟨i, e2⟩ := w.at_ (w.wlk is.length (w.go hk))
  have hc := ev_isjmp (ns := ns) (ρ := [.d (codeD is), .d (.int k), .d (.int (go is k : Nat)), .d (.int (wlk is is.length (go is k) : Nat)), t']) (H := []) w (n + 1) e2 (x := .var 0) (y := .var 3) rfl rfl
  unfold fin
  cases h : isJ is (wlk is is.length (go is k)) with
  | true => exact x_ite_t (hc.trans (by rw [h])) rfl
  | false => exact x_ite_f (hc.trans (by rw [h])) rfl

/-! ## end_of_jumps -/
noncomputable def cond_eoj : X := .bop true (.cons (.cmp .eq (.call 5 (.cons (.idx (.attr (.var 0) 6) (.var 3)) .nil)) (.glob 17)) (.cons (.cmp .notin (.var 3) (.var 2)) .nil))
noncomputable def body_eoj : S := .seq (.setI (.var 2) (.var 3) (.cst (.bool true))) (.seq (.asg 3 (.call 19 (.cons (.var 0) (.cons (.var 3) .nil)))) .skip)
noncomputable def seenD (l : List Nat) : List (Int × V) := l.map fun (k : Nat) => ((k : Int), V.d (.bool true))
theorem look_seen (l : List Nat) (k : Nat) : (lookI (k : Int) (seenD l)).isSome = decide (k ∈ l) := by
  induction l with
  | nil => rfl
  | cons x r ih =>
    unfold seenD at *
    rw [List.map_cons, lookI]
    by_cases h : k = x
    · subst h; simp
    · rw [if_neg (by omega), ih]; simp [h]
theorem put_seen {l : List Nat} {k : Nat} (h : k ∉ l) : putI (k : Int) (.d (.bool true)) (seenD l) = seenD (l ++ [k]) := by
  unfold putI
  rw [if_neg]
  · simp [seenD]
  · intro q
    simp only [seenD, List.any_map, List.any_eq_true, Function.comp, decide_eq_true_eq] at q
    obtain ⟨x, hx, e⟩ := q
    exact h (by have : x = k := by omega
                rwa [this] at hx)
theorem eoj_cond {p : D} (P : Prg p is) (w : WF is) (n : Nat) {k : Nat} {pc : V} {l : List Nat} (hk : k ∈ sts is 0) : ev ns (callN ns fns (n + 4)) cond_eoj [.d p, pc, .loc 0, .d (.int (k : Nat))] [.dict (seenD l)] = some (.d (.bool (isJ is k && decide (k ∉ l))), [.dict (seenD l)]) := by
  obtain ⟨i, e⟩ := w.at_ hk
  have hc := ev_isjmp (ns := ns) (ρ := [.d p, pc, .loc 0, .d (.int (k : Nat))]) (H := [.dict (seenD l)]) w (n + 2) e (x := .attr (.var 0) 6) (y := .var 3) (x_attr rfl (P.code _)) rfl
  have hn : ev ns (callN ns fns (n + 4)) (.cmp .notin (.var 3) (.var 2)) [.d p, pc, .loc 0, .d (.int (k : Nat))] [.dict (seenD l)] = some (.d (.bool (decide (k ∉ l))), [.dict (seenD l)]) :=
    x_cmp rfl rfl (congrArg some ((congrArg not (look_seen l k)).trans (decide_not ..).symm))
  cases h : isJ is k with
  | false => exact x_bop (x_stop (t := false) (hc.trans (by rw [h])) Bool.false_ne_true)
  | true => exact x_bop (x_next (hc.trans (by rw [h])) (x_last hn))
theorem set_seen {l : List Nat} {k : Nat} (h2 : k ∉ l) (hl : l.length ≤ 40) : setIV [.dict (seenD l)] (.d (.bool true)) (.loc 0) (.d (.int (k : Nat))) = some [.dict (seenD (l ++ [k]))] := by
  show (oh (if (seenD l).length < big then some (O.dict (putI (k : Int) (.d (.bool true)) (seenD l))) else none) fun o => some [o]) = _
  rw [if_pos (by rw [seenD, List.length_map]; exact Nat.lt_of_le_of_lt hl (by decide)), put_seen h2]; rfl
/-- the places of the first m steps -/
noncomputable def fsts (is : List I) (x m : Nat) : List Nat := (List.range m).map fun j => wlk is j x
theorem fsts_succ {x m : Nat} : fsts is x (m + 1) = fsts is x m ++ [wlk is m x] := by
  unfold fsts; rw [List.range_succ, List.map_append]; rfl
theorem eoj_loop {p : D} (P : Prg p is) (w : WF is) (n : Nat) {pc : V} {x : Nat} (hx : x ∈ sts is 0) (fuel : Nat) : ∀ (m : Nat), (fsts is x m).Nodup → (∀ j ∈ fsts is x m, isJ is j = true) → is.length + 1 ≤ fuel + m →
    ∃ m', (isJ is (wlk is m' x) = false ∨ wlk is m' x ∈ fsts is x m') ∧ (fsts is x m').Nodup ∧ (∀ j ∈ fsts is x m', isJ is j = true) ∧
      exec ns (callN ns fns (n + 4)) (.whl fuel cond_eoj body_eoj) [.d p, pc, .loc 0, .d (.int (wlk is m x : Nat))] [.dict (seenD (fsts is x m))] = some (.next, [.d p, pc, .loc 0, .d (.int (wlk is m' x : Nat))], [.dict (seenD (fsts is x m'))]) := by
  have hle : ∀ m, (fsts is x m).Nodup → m ≤ is.length := fun m hn => by
    have := pigeon is.length _ hn (fun y hy => by
      obtain ⟨j, _, rfl⟩ := List.mem_map.mp hy
      exact w.lt (w.wlk j hx))
    rwa [fsts, List.length_map, List.length_range] at this
  induction fuel with
  | zero => exact fun m hn _ hf => absurd (Nat.le_trans hf (Nat.le_of_eq (Nat.zero_add m))) (Nat.not_le_of_lt (Nat.lt_succ_of_le (hle m hn)))
  | succ fuel ih =>
    intro m hn hj hf
    have hm := hle m hn
    have hc := eoj_cond (ns := ns) P w n (pc := pc) (l := fsts is x m) (w.wlk m hx)
    cases h1 : isJ is (wlk is m x) with
    | false =>
      exact ⟨m, .inl h1, hn, hj, whl_f (hc.trans (by rw [h1]; rfl))⟩
    | true =>
      by_cases h2 : wlk is m x ∈ fsts is x m
      · exact ⟨m, .inr h2, hn, hj, whl_f (hc.trans (by rw [h1, decide_eq_false (not_not_intro h2)]; rfl))⟩
      · obtain ⟨s, e'⟩ := isJ_iff.mp h1
        have hgo : (wlk is m x : Int) + 1 + s = (wlk is (m + 1) x : Nat) := by
          rw [go_int w (w.wlk m hx) e', wlk_add]; rfl
        have hl : (fsts is x m).length ≤ 40 := by rw [fsts, List.length_map, List.length_range]; exact Nat.le_trans hm (Nat.le_trans w.len (by decide))
        have hbody : exec ns (callN ns fns (n + 4)) body_eoj [.d p, pc, .loc 0, .d (.int (wlk is m x : Nat))] [.dict (seenD (fsts is x m))] = some (.next, [.d p, pc, .loc 0, .d (.int (wlk is (m + 1) x : Nat))], [.dict (seenD (fsts is x (m + 1)))]) :=
          fsts_succ ▸ seq_n (x_setI rfl rfl rfl (set_seen h2 hl)) (seq_n (x_asg (x_call (ds := [p, .int (wlk is m x : Nat)]) (x_cons rfl (x_cons rfl rfl)) ((c_target (ns := ns) P n e').trans (by rw [hgo]))) rfl) rfl)
        obtain ⟨m', g1, g2, g3, g4⟩ := ih (m + 1) (by
          rw [fsts_succ, List.nodup_append]
          exact ⟨hn, List.nodup_cons.mpr ⟨(nomatch ·), List.nodup_nil⟩, fun a ha b hb z => h2 (List.mem_singleton.mp hb ▸ z ▸ ha)⟩) (fun j hj' => by
          rw [fsts_succ] at hj'
          exact (List.mem_append.mp hj').elim (hj j) fun q => List.mem_singleton.mp q ▸ h1) (Nat.le_trans hf (Nat.le_of_eq (Nat.succ_add_eq_add_succ ..)))
        exact ⟨m', g1, g2, g3, whl_t (hc.trans (by rw [h1, decide_eq_true h2]; rfl)) hbody g4⟩
theorem c_eoj {p : D} (P : Prg p is) (w : WF is) (n : Nat) {k : Nat} (hk : k ∈ sts is 0) (hj : isJ is k = true) : ∃ H', callN ns fns (n + 5) 24 [.d p, .d (.int (k : Nat))] [] = some (.d (.int (fin is k : Nat)), H') := by
  obtain ⟨s, e⟩ := isJ_iff.mp hj
  have hg := go_int w hk e
  have ht := c_target (ns := ns) P n e
  obtain ⟨m, h1, h2, h3, h4⟩ := eoj_loop (ns := ns) P w n (pc := .d (.int k)) (w.go hk) 40 0 List.nodup_nil (fun j h => nomatch h) (Nat.le_trans (Nat.succ_le_succ w.len) (by decide))
  refine ⟨_, callN_of (fd := ⟨2, 4, b_end_of_jumps⟩) (ρ := [.d p, .d (.int k), .loc 0, .d (.int (wlk is m (go is k) : Nat))]) (H' := [.dict (seenD (fsts is (go is k) m))]) rfl rfl ?_⟩
  have ht' : callN ns fns (n + 4) 19 ([p, D.int (k : Nat)].map V.d) [] = some (.d (.int (go is k : Nat)), []) := ht.trans (by rw [hg])
  refine seq_n (x_asgT (x_cons rfl (x_cons (x_call (ds := [p, .int (k : Nat)]) (x_cons rfl (x_cons rfl rfl)) ht') rfl)) rfl) (seq_n h4 (seq_r (x_ret ?_)))
  have hin : (cmpV [.dict (seenD (fsts is (go is k) m))] .isin (.d (.int (wlk is m (go is k) : Nat))) (.loc 0)) = some (decide (wlk is m (go is k) ∈ fsts is (go is k) m)) := congrArg some (look_seen ..)
  by_cases hm : wlk is m (go is k) ∈ fsts is (go is k) m
  · have hr : fin is k = go is k := by
      obtain ⟨j, hj1, hj2⟩ := List.mem_map.mp hm
      exact w.fin_ring (ring_all (List.mem_range.mp hj1) hj2 (h3 _ hm))
    rw [hr]
    exact x_ite_t (x_cmp rfl rfl (hin.trans (by rw [decide_eq_true hm]))) (x_call (ds := [p, .int (k : Nat)]) (x_cons rfl (x_cons rfl rfl)) ht')
  · rw [(w.fin_end hk (h1.resolve_right hm)).1]
    exact x_ite_f (x_cmp rfl rfl (hin.trans (by rw [decide_eq_false hm]))) rfl
end Mine
end

/-! ### P5 -/
section
set_option tactic.hygienic false
set_option genSizeOf false
set_option bootstrap.genMatcherCode false
open PySem
set_option linter.unusedVariables false
set_option linter.unusedSimpArgs false
set_option maxRecDepth 100000
namespace Mine
variable {ns : List Int} {C : Calls'} {ρ ρ' : List V} {H H' : List O} {is : List I}

/-! ## _law_run -/
noncomputable def body_run : S := match b_law_run with
  | .seq _ (.seq (.forR _ _ b) _) => b
  | _ => .skip
theorem body_run_eq : body_run = (match b_law_run with
  | .seq _ (.seq (.forR _ _ b) _) => b
  | _ => .skip) := rfl

structure Regs (kept : List D) : Prop where
  len : kept.length = 3
  ok : ∀ d ∈ kept, regD d
theorem Regs.get {kept : List D} (R : Regs kept) {a : Nat} (h : a < 3) : kept[a]? = some (reg kept a) ∧ regD (reg kept a) := by
  have hl : a < kept.length := by rw [R.len]; exact h
  have e : kept[a]? = some (reg kept a) := by
    unfold reg
    rw [List.getD_eq_getElem?_getD, List.getElem?_eq_getElem hl]; rfl
  exact ⟨e, R.ok _ (List.mem_of_getElem? e)⟩
theorem Regs.set {kept : List D} (R : Regs kept) {a : Nat} {d : D} (h : regD d) : Regs (kept.set a d) := by
  refine ⟨by rw [List.length_set]; exact R.len, fun x hx => ?_⟩
  rcases List.mem_or_eq_of_mem_set hx with hx | rfl
  · exact R.ok x hx
  · exact h
theorem idx_reg {kept : List D} (R : Regs kept) {a : Nat} (h : a < 3) : idxV [.lst (kept.map .d)] (.loc 0) (.d (.int (a : Nat))) = some (.d (reg kept a)) := by
  have hl : a < (kept.map V.d).length := by rw [List.length_map, R.len]; exact h
  show (oh (at? (kept.map V.d).length (a : Int)) fun k => (kept.map V.d)[k]?) = _
  rw [at_pos hl, oh_some, List.getElem?_map, (R.get h).1]; rfl
theorem set_reg {kept : List D} (R : Regs kept) {a : Nat} {d : D} (h : a < 3) : setIV [.lst (kept.map .d)] (.d d) (.loc 0) (.d (.int (a : Nat))) = some [.lst ((kept.set a d).map .d)] := by
  have hl : (a : Int) < ((kept.map V.d).length : Nat) := by rw [List.length_map, R.len]; exact Int.ofNat_lt.mpr h
  show (oh (if 0 ≤ (a : Int) ∧ (a : Int) < ((kept.map V.d).length : Nat) then some (O.lst ((kept.map V.d).set a (.d d))) else none) fun o => some [o]) = _
  rw [if_pos ⟨Int.natCast_nonneg _, hl⟩, List.map_set]; rfl
theorem const_get {c : Nat} (h : c < 4) : consts[c]? = some (consts.getD c .none) ∧ regD (consts.getD c .none) := by
  have : ∀ c < 4, consts[c]? = some (consts.getD c .none) ∧ regD (consts.getD c .none) := by
    intro c hc
    match c, hc with
    | 0, _ => exact ⟨rfl, trivial⟩
    | 1, _ => exact ⟨rfl, trivial⟩
    | 2, _ => exact ⟨rfl, rfl⟩
    | 3, _ => exact ⟨rfl, rfl⟩
  exact this c h
theorem repr_reg {d : D} (h : regD d) : reprD d = some (repD d) := by
  cases d with
  | none => rfl
  | bool b => cases b <;> rfl
  | int i => obtain rfl := h; rfl
  | bytes b => obtain rfl := h; rfl
  | _ => exact h.elim

/-- one turn: where to, and with what -/
noncomputable def stepS (k : Nat) (kept : List D) : I → Option (Nat × List D)
  | .loadk a c => some (k + 1, kept.set a (consts.getD c .none))
  | .move a c => some (k + 1, kept.set a (reg kept c))
  | .neg a c => some (k + 1, kept.set a (.bool (!isT (reg kept c))))
  | .test a c => some (k + 1 + (if isT (reg kept a) != decide (c ≠ 0) then 1 else 0), kept)
  | .jmp s => some (((k : Int) + 1 + s).toNat, kept)
  | .setl => some (k + 2, kept)
  | .ret a => none
set_option maxHeartbeats 1000000 in
theorem run_turn (w : WF is) (n : Nat) {k : Nat} {i : I} (hk : k ∈ sts is 0) (e : is[k]? = some i) {kept : List D} (R : Regs kept) {t w0 : V} :
    (match stepS k kept i with
      | some (k', kept') => exec ns (callN ns fns (n + 3)) body_run [.d (codeD is), .loc 0, .d (.int (k : Nat)), t, w0] [.lst (kept.map .d)] = some (.next, [.d (codeD is), .loc 0, .d (.int (k' : Nat)), t, .d (.int (enc i))], [.lst (kept'.map .d)])
      | none => ∃ a, i = .ret a ∧ ∃ ρ, exec ns (callN ns fns (n + 3)) body_run [.d (codeD is), .loc 0, .d (.int (k : Nat)), t, w0] [.lst (kept.map .d)] = some (.ret (.d (.tup [.str (repD (reg kept a))])), ρ, [.lst (kept.map .d)])) := by
  have hi := w.ok i (List.mem_of_getElem? e)
  have ho := op_enc hi
  have ts : ∀ (g : Nat) (kk : Int) (b : Bool), gtab[g]? = some (.int kk) → (opc i == kk) = b → ev ns (callN ns fns (n + 3)) (.cmp .eq (.call 5 (.cons (.var 4) .nil)) (.glob g)) [.d (codeD is), .loc 0, .d (.int ((k + 1 : Nat))), t, .d (.int (enc i))] [.lst (kept.map .d)] = some (.d (.bool b), [.lst (kept.map .d)]) :=
    fun g kk b hg hb => (op_eq rfl hg).trans (by rw [ho, hb])
  have hd : ∀ {rest : S} {r : Option (Fl × List V × List O)}, exec ns (callN ns fns (n + 3)) rest [.d (codeD is), .loc 0, .d (.int ((k + 1 : Nat))), t, .d (.int (enc i))] [.lst (kept.map .d)] = r → exec ns (callN ns fns (n + 3)) (.seq (.asg 4 (.idx (.var 0) (.var 2))) (.seq (.asg 2 (.bin .add (.var 2) (.cst (.int 1)))) rest)) [.d (codeD is), .loc 0, .d (.int (k : Nat)), t, w0] [.lst (kept.map .d)] = r :=
    fun h => seq_n (x_asg (x_idx rfl rfl (idx_code e)) rfl) (seq_n (x_asg (x_bin rfl rfl rfl) rfl) h)
  have arg : ∀ {f : Nat} {v : D}, callN ns fns (n + 3) f [.d (.int (enc i))] [] = some (.d v, []) → ev ns (callN ns fns (n + 3)) (.call f (.cons (.var 4) .nil)) [.d (codeD is), .loc 0, .d (.int ((k + 1 : Nat))), t, .d (.int (enc i))] [.lst (kept.map .d)] = some (.d v, [.lst (kept.map .d)]) :=
    fun h => x_call (ds := [.int (enc i)]) (x_cons rfl rfl) h
  cases i with
  | loadk a c =>
    obtain ⟨_, ha, hc⟩ := f1 a hi.1 c hi.2
    exact hd (seq_n (ifs_t (ts 14 1 true rfl rfl) (seq_n (x_setI (x_idx (x_list (ds := consts) rfl) (arg ((c_bx _ _).trans (congrArg (fun x => some (V.d (.int x), [])) hc))) (idx_lst (const_get hi.2).1)) rfl (arg ((c_a _ _).trans (congrArg (fun x => some (V.d (.int x), [])) ha))) (set_reg R hi.1)) rfl)) rfl)
  | move a c =>
    obtain ⟨_, ha, hc⟩ := f2 a hi.1 c hi.2
    exact hd (seq_n (ifs_f (ts 14 1 false rfl rfl) (seq_n (ifs_t (ts 13 0 true rfl rfl) (seq_n (x_setI (x_idx rfl (arg ((c_b _ _).trans (congrArg (fun x => some (V.d (.int x), [])) hc))) (idx_reg R hi.2)) rfl (arg ((c_a _ _).trans (congrArg (fun x => some (V.d (.int x), [])) ha))) (set_reg R hi.1)) rfl)) rfl)) rfl)
  | neg a c =>
    obtain ⟨_, ha, hc⟩ := f3 a hi.1 c hi.2
    exact hd (seq_n (ifs_f (ts 14 1 false rfl rfl) (seq_n (ifs_f (ts 13 0 false rfl rfl) (seq_n (ifs_t (ts 16 19 true rfl rfl) (seq_n (x_setI (x_not (x_call (ds := [reg kept c]) (x_cons (x_idx rfl (arg ((c_b _ _).trans (congrArg (fun x => some (V.d (.int x), [])) hc))) (idx_reg R hi.2)) rfl) (c_istrue (ns := ns) (n + 2) (R.get hi.2).2))) rfl (arg ((c_a _ _).trans (congrArg (fun x => some (V.d (.int x), [])) ha))) (set_reg R hi.1)) rfl)) rfl)) rfl)) rfl)
  | test a c =>
    obtain ⟨_, ha, hc⟩ := f4 a hi.1 c hi.2
    have hne : (!((c : Int) == 0)) = decide (c ≠ 0) := by cases c <;> rfl
    have hadd : opI .add ((k + 1 : Nat)) (if (!(isT (reg kept a) == !((c : Int) == 0))) = true then 1 else 0) = some ((k + 1 + (if isT (reg kept a) != decide (c ≠ 0) then 1 else 0) : Nat)) := by
      rw [hne]
      cases isT (reg kept a) <;> cases decide (c ≠ 0) <;> rfl
    exact hd (seq_n (ifs_f (ts 14 1 false rfl rfl) (seq_n (ifs_f (ts 13 0 false rfl rfl) (seq_n (ifs_f (ts 16 19 false rfl rfl) (seq_n (ifs_t (ts 21 26 true rfl rfl) (seq_n (x_asg (x_bin rfl (x_toInt (x_cmp (x_call (ds := [reg kept a]) (x_cons (x_idx rfl (arg ((c_a _ _).trans (congrArg (fun x => some (V.d (.int x), [])) ha))) (idx_reg R hi.1)) rfl) (c_istrue (ns := ns) (n + 2) (R.get hi.1).2)) (x_cmp (arg ((c_c _ _).trans (congrArg (fun x => some (V.d (.int x), [])) hc))) rfl rfl) rfl)) hadd) rfl) rfl)) rfl)) rfl)) rfl)) rfl)
  | jmp s =>
    have hs := sbx_enc hi
    have hg2 : (((k : Int) + 1 + s).toNat : Int) = (k : Int) + 1 + s := Int.toNat_of_nonneg (w.jmp k s hk e).1
    exact hd (seq_n (ifs_f (ts 14 1 false rfl rfl) (seq_n (ifs_f (ts 13 0 false rfl rfl) (seq_n (ifs_f (ts 16 19 false rfl rfl) (seq_n (ifs_f (ts 21 26 false rfl rfl) (seq_n (ifs_t (ts 17 22 true rfl rfl) (seq_n (x_asg (x_bin rfl (arg ((c_sbx _ _).trans (congrArg (fun x => some (V.d (.int x), [])) hs))) (congrArg some hg2.symm)) rfl) rfl)) rfl)) rfl)) rfl)) rfl)) rfl)
  | setl => exact hd (seq_n (ifs_f (ts 14 1 false rfl rfl) (seq_n (ifs_f (ts 13 0 false rfl rfl) (seq_n (ifs_f (ts 16 19 false rfl rfl) (seq_n (ifs_f (ts 21 26 false rfl rfl) (seq_n (ifs_f (ts 17 22 false rfl rfl) (seq_n (ifs_t (ts 27 34 true rfl rfl) (seq_n (x_asg (x_bin rfl rfl rfl) rfl) rfl)) rfl)) rfl)) rfl)) rfl)) rfl)) rfl)
  | ret a =>
    obtain ⟨_, ha⟩ := f7 a hi
    exact ⟨a, rfl, _, hd (seq_r (ifs_f (ts 14 1 false rfl rfl) (seq_r (ifs_f (ts 13 0 false rfl rfl) (seq_r (ifs_f (ts 16 19 false rfl rfl) (seq_r (ifs_f (ts 21 26 false rfl rfl) (seq_r (ifs_f (ts 17 22 false rfl rfl) (seq_r (ifs_f (ts 27 34 false rfl rfl) (seq_r (x_ret (x_tup (ds := [.str (repD (reg kept a))]) (x_cons (x_repr (x_idx rfl (arg ((c_a _ _).trans (congrArg (fun x => some (V.d (.int x), [])) ha))) (idx_reg R hi)) (repr_reg (R.get hi).2)) rfl))))))))))))))))⟩
end Mine
end

/-! ### P6 -/
section
set_option tactic.hygienic false
set_option genSizeOf false
set_option bootstrap.genMatcherCode false
open PySem
set_option linter.unusedVariables false
set_option linter.unusedSimpArgs false
set_option maxRecDepth 100000
namespace Mine
variable {ns : List Int} {C : Calls'} {ρ ρ' : List V} {H H' : List O} {is : List I}

noncomputable def retOf (kept : List D) : I → Option D
  | .ret a => some (.tup [.str (repD (reg kept a))])
  | _ => none
theorem runS_step {m k : Nat} {kept : List D} {i : I} (e : is[k]? = some i) : runS is (m + 1) k kept = match stepS k kept i with
    | some (k', kept') => runS is m k' kept'
    | none => retOf kept i := by
  rw [runS, e]
  cases i <;> rfl
theorem step_ok (w : WF is) {k k' : Nat} {kept kept' : List D} {i : I} (hk : k ∈ sts is 0) (e : is[k]? = some i) (R : Regs kept) (h : stepS k kept i = some (k', kept')) : k' ∈ sts is 0 ∧ Regs kept' := by
  have hi := w.ok i (List.mem_of_getElem? e)
  cases i with
  | loadk a c => cases h; exact ⟨w.fall k _ hk e trivial, R.set (const_get hi.2).2⟩
  | move a c => cases h; exact ⟨w.fall k _ hk e trivial, R.set (R.get hi.2).2⟩
  | neg a c => cases h; exact ⟨w.fall k _ hk e trivial, R.set trivial⟩
  | test a c =>
    simp only [stepS, Option.some.injEq, Prod.mk.injEq] at h
    obtain ⟨rfl, rfl⟩ := h
    refine ⟨?_, R⟩
    split
    · exact (w.test k a c hk e).2
    · exact (w.test k a c hk e).1
  | jmp s => cases h; exact ⟨(w.jmp k s hk e).2, R⟩
  | setl => cases h; exact ⟨w.fall k _ hk e trivial, R⟩
  | ret a => cases h
noncomputable def flOf : Option D → Fl
  | some v => .ret (.d v)
  | none => .next
theorem run_loop (w : WF is) (n : Nat) : ∀ (l : List V) (k : Nat) (kept : List D) (t w0 : V), k ∈ sts is 0 → Regs kept → ∃ ρ' H', forLoop (fun v ρ H => exec ns (callN ns fns (n + 3)) body_run (ρ.set 3 v) H) l [.d (codeD is), .loc 0, .d (.int (k : Nat)), t, w0] [.lst (kept.map .d)] = some (flOf (runS is l.length k kept), ρ', H')
  | [], k, kept, t, w0, _, _ => ⟨_, _, rfl⟩
  | v :: l, k, kept, t, w0, hk, R => by
    obtain ⟨i, e⟩ := w.at_ hk
    have ht := run_turn (ns := ns) w n hk e R (t := v) (w0 := w0)
    rw [List.length_cons, runS_step e]
    cases hs : stepS k kept i with
    | some z =>
      obtain ⟨k', kept'⟩ := z
      rw [hs] at ht
      obtain ⟨h1, h2⟩ := step_ok w hk e R hs
      obtain ⟨ρ', H', ih⟩ := run_loop w n l k' kept' v (.d (.int (enc i))) h1 h2
      exact ⟨ρ', H', for_cons ht ih⟩
    | none =>
      rw [hs] at ht
      obtain ⟨a, rfl, ρ', ht⟩ := ht
      exact ⟨ρ', _, for_ret ht⟩
noncomputable def regs0 : List D := [.none, .none, .none]
theorem regs0_ok : Regs regs0 := ⟨rfl, fun d hd => by simp [regs0] at hd; subst hd; trivial⟩
noncomputable def ran (is : List I) : D := (runS is 60 0 regs0).getD .none
theorem c_run (w : WF is) (n : Nat) : ∃ H', callN ns fns (n + 4) 31 [.d (codeD is)] [] = some (.d (ran is), H') := by
  obtain ⟨ρ', H', h⟩ := run_loop (ns := ns) w n (rangeV 60) 0 regs0 .undef .undef w.zero regs0_ok
  have hl : (rangeV 60).length = 60 := range_len 60
  rw [hl] at h
  have hfor : exec ns (callN ns fns (n + 3)) (.forR 3 (.cst (.int 60)) body_run) [.d (codeD is), .loc 0, .d (.int (0 : Nat)), .undef, .undef] [.lst (regs0.map .d)] = some (flOf (runS is 60 0 regs0), ρ', H') := x_forR rfl ⟨Nat.le_of_ble_eq_true rfl, by decide, by decide⟩ h
  unfold ran
  cases hr : runS is 60 0 regs0 with
  | some v =>
    rw [hr] at hfor
    refine ⟨H', callN_of (fd := ⟨1, 5, b_law_run⟩) (ρ := ρ') rfl rfl ?_⟩
    refine seq_n (ρ' := [.d (codeD is), .loc 0, .d (.int (0 : Nat)), .undef, .undef]) (H' := [.lst (regs0.map .d)]) (by kernel_rfl) ?_
    exact seq_r hfor
  | none =>
    rw [hr] at hfor
    refine ⟨H', callN_of (fd := ⟨1, 5, b_law_run⟩) (ρ := ρ') rfl rfl ?_⟩
    refine seq_n (ρ' := [.d (codeD is), .loc 0, .d (.int (0 : Nat)), .undef, .undef]) (H' := [.lst (regs0.map .d)]) (by kernel_rfl) ?_
    refine seq_n hfor ?_
    exact seq_r (x_ret rfl)
theorem runS_tup : ∀ {m k : Nat} {kept : List D} {v : D}, runS is m k kept = some v → ∃ s, v = .tup [.str s]
  | 0, k, kept, v, h => by cases h
  | m + 1, k, kept, v, h => by
    rw [runS] at h
    split at h
    case h_7 => cases h; exact ⟨_, rfl⟩
    case h_8 => cases h
    all_goals exact runS_tup h

/-! ## bare words and starts -/
theorem isSet_enc {i : I} (h : i.ok) : isSet (.int (enc i)) = isS i := by
  show (opW (enc i) == 34) = isS i
  rw [op_enc h]
  cases i <;> rfl
theorem bares_lt : ∀ (l : List D) (a y : Nat), y ∈ bares l a → a < y
  | [], a, y, h => by simp [bares] at h
  | [d], a, y, h => by
    unfold bares at h
    split at h
    · simp at h; omega
    · cases h
  | d :: e :: r, a, y, h => by
    unfold bares at h
    split at h
    · rcases List.mem_cons.mp h with rfl | h
      · omega
      · have := bares_lt r (a + 2) y h; omega
    · have := bares_lt (e :: r) (a + 1) y h; omega
theorem bares_sts : ∀ (l : List I) (k x : Nat), (∀ i ∈ l, i.ok) → k ≤ x → x < k + l.length → (x ∈ bares (l.map fun i => .int (enc i)) k ↔ x ∉ sts l k)
  | [], k, x, _, h1, h2 => by simp at h2; omega
  | [i], k, x, ho, h1, h2 => by
    have hx : x = k := by simp at h2; omega
    subst hx
    have := isSet_enc (ho i List.mem_cons_self)
    simp only [List.map_cons, List.map_nil, bares, this]
    cases i <;> simp [isS, sts]
  | i :: j :: r, k, x, ho, h1, h2 => by
    have hi := isSet_enc (ho i List.mem_cons_self)
    simp only [List.length_cons] at h2
    by_cases hs : isS i = true
    · have : i = .setl := by cases i <;> simp [isS] at hs; rfl
      subst this
      simp only [List.map_cons, bares, hi, hs, if_true, sts, List.mem_cons]
      by_cases hx : x < k + 2
      · have n1 : x ∉ bares (r.map fun i => .int (enc i)) (k + 2) → True := fun _ => trivial
        have n2 : x ∉ sts r (k + 2) := fun z => by have := sts_range r (k + 2) x z; omega
        have n4 : x ∉ bares (r.map fun i => .int (enc i)) (k + 2) := fun z => by have := bares_lt _ _ _ z; omega
        constructor
        · rintro (h | h)
          · rintro (z | z)
            · omega
            · exact n2 z
          · exact absurd h n4
        · intro h
          left
          have : x ≠ k := fun z => h (.inl z)
          omega
      · have ih := bares_sts r (k + 2) x (fun i hi => ho i (List.mem_cons_of_mem _ (List.mem_cons_of_mem _ hi))) (by omega) (by omega)
        rw [ih]
        constructor
        · rintro (h | h)
          · omega
          · rintro (z | z)
            · omega
            · exact h z
        · intro h
          exact .inr fun z => h (.inr z)
    · have hs' : isS i = false := by simpa using hs
      have e1 : sts (i :: j :: r) k = k :: sts (j :: r) (k + 1) := by cases i <;> first | rfl | (simp [isS] at hs')
      simp only [List.map_cons, bares, hi, hs', Bool.false_eq_true, if_false, e1, List.mem_cons]
      by_cases hx : x = k
      · subst hx
        constructor
        · intro h; have := bares_lt _ _ _ h; omega
        · intro h; exact absurd (.inl rfl) h
      · have ih := bares_sts (j :: r) (k + 1) x (fun i hi => ho i (List.mem_cons_of_mem _ hi)) (by omega) (by simp only [List.length_cons]; omega)
        simp only [List.map_cons] at ih
        rw [ih]
        constructor
        · intro h; rintro (z | z)
          · exact hx z
          · exact h z
        · intro h z; exact h (.inr z)
noncomputable def bar (is : List I) : List Nat := bares (is.map fun i => .int (enc i)) 0
theorem WF.bar (w : WF is) {k : Nat} (h : k < is.length) : k ∈ Mine.bar is ↔ k ∉ sts is 0 := bares_sts is 0 k w.ok (Nat.zero_le _) (by omega)
theorem plain_code : ∀ d ∈ (is.map fun i => D.int (enc i)), plainD d := fun d hd => by
  obtain ⟨i, _, rfl⟩ := List.mem_map.mp hd
  trivial
end Mine
end

/-! ### P7 -/
section
set_option tactic.hygienic false
set_option genSizeOf false
set_option bootstrap.genMatcherCode false
open PySem
set_option linter.unusedVariables false
set_option linter.unusedSimpArgs false
set_option maxRecDepth 100000
namespace Mine
variable {ns : List Int} {C : Calls'} {ρ ρ' : List V} {H H' : List O} {is : List I}

theorem intsOf_nats : ∀ l : List Nat, intsOf (natsD l) = some (l.map fun (k : Nat) => (k : Int))
  | [] => rfl
  | k :: l => by
    have ih := intsOf_nats l
    unfold natsD at *
    simp [intsOf, ih]
theorem contains_nats (l : List Nat) (k : Nat) : (l.map fun (k : Nat) => (k : Int)).contains (k : Int) = decide (k ∈ l) := by
  rw [Bool.eq_iff_iff, List.contains_iff_mem, decide_eq_true_eq, List.mem_map]
  constructor
  · rintro ⟨x, hx, e⟩
    have : x = k := by omega
    rwa [this] at hx
  · intro h; exact ⟨k, h, rfl⟩
theorem in_nats (l : List Nat) (k : Nat) : cmpV H .isin (.d (.int (k : Nat))) (.d (.lst (natsD l))) = some (decide (k ∈ l)) := by
  show oh (intsOf (natsD l)) _ = _
  rw [intsOf_nats]
  exact congrArg some (contains_nats l k)
theorem notin_nats (l : List Nat) (k : Nat) : cmpV H .notin (.d (.int (k : Nat))) (.d (.lst (natsD l))) = some (decide (k ∉ l)) := by
  show oh (intsOf (natsD l)) _ = _
  rw [intsOf_nats]
  exact congrArg some ((congrArg _ (contains_nats l k)).trans (decide_not ..).symm)

theorem cmp_eq {a c : D} : cmpV H .eq (.d a) (.d c) = eqD 8 a c := rfl
theorem cmp_ne {a c : D} : cmpV H .ne (.d a) (.d c) = oh (eqD 8 a c) fun r => some (!r) := rfl
theorem eq_int {a c : Int} : eqD 8 (.int a) (.int c) = some (a == c) := rfl
theorem ne_self (a : Int) : cmpV H .ne (.d (.int a)) (.d (.int a)) = some false := congrArg (fun b => some (!b)) (beq_self_eq_true a)
theorem eq_tup (s : Str) : cmpV H .eq (.d (.tup [.str s])) (.d (.tup [.str s])) = some true := congrArg (fun b => some (b && true)) (beq_self_eq_true s)
noncomputable def body_right : S := match b_law_is_right with
  | .seq _ (.seq _ (.seq (.forE _ _ _ b) _)) => b
  | _ => .skip
theorem right_step (w : WF is) (n : Nat) {j : Nat} {i : I} (e : is[j]? = some i) {c d : V} :
    ∃ c' d', exec ns (callN ns fns (n + 4)) body_right [.d (codeD is), .d (codeD (thr is)), .d (.lst (natsD (bar is))), .d (.int (j : Nat)), .d (.int (enc i)), c, d, .undef, .undef] H = some (.next, [.d (codeD is), .d (codeD (thr is)), .d (.lst (natsD (bar is))), .d (.int (j : Nat)), .d (.int (enc i)), c', d', .undef, .undef], H) := by
  have hj : j < is.length := (List.getElem?_eq_some_iff.mp e).1
  have hi := w.ok i (List.mem_of_getElem? e)
  have ho := op_enc hi
  have hb := w.bar hj
  have hl : (thr is)[j]? = some (thrI is j i) := by rw [thr_get, e]; rfl
  have hlater := idx_code (H := H) hl
  have hnot := notin_nats (H := H) (bar is) j
  cases hJ : isJ is j with
  | false =>
    have ho22 : (opW (enc i) == 22) = false := by
      rw [ho]
      unfold isJ at hJ
      rw [e] at hJ
      cases i <;> first | rfl | exact nomatch hJ
    have hsame : thrI is j i = i := by
      cases i <;> first | rfl | (unfold isJ at hJ; rw [e] at hJ; exact nomatch hJ)
    rw [hsame] at hlater
    have t1 := op_eq (ns := ns) (n := n + 2) (g := 17) (x := .var 4) (ρ := [.d (codeD is), .d (codeD (thr is)), .d (.lst (natsD (bar is))), .d (.int (j : Nat)), .d (.int (enc i)), c, d, .undef, .undef]) (H' := H) (H := H) (w := enc i) (k := 22) rfl rfl
    rw [ho22] at t1
    exact ⟨.d (.bool false), .d (.int (enc i)), seq_n (x_asg (x_bop (x_stop t1 nofun)) rfl) (seq_n (x_asg (x_ite_f rfl rfl) rfl) (seq_n (ifs_f (x_cmp (x_idx rfl rfl hlater) rfl (ne_self _)) rfl) rfl))⟩
  | true =>
    obtain ⟨s, e'⟩ := isJ_iff.mp hJ
    rw [e'] at e
    cases e
    have t1 := op_eq (ns := ns) (n := n + 2) (g := 17) (x := .var 4) (ρ := [.d (codeD is), .d (codeD (thr is)), .d (.lst (natsD (bar is))), .d (.int (j : Nat)), .d (.int (enc (.jmp s))), c, d, .undef, .undef]) (H' := H) (H := H) (w := enc (.jmp s)) (k := 22) rfl rfl
    rw [ho] at t1
    by_cases hm : j ∈ sts is 0
    · rw [decide_eq_true (p := ¬ j ∈ bar is) fun z => (hb.mp z) hm] at hnot
      have hle := c_lend (ns := ns) w n hm hJ
      have h1 := w.lt (w.fin_mem hm)
      have hlen := w.len
      have hs1 : small ((fin is j : Int) - j - 1 + 131071) = true := small_of (by omega) (by omega)
      have has := c_asbx (ns := ns) (n + 2) 22 0 ((fin is j : Int) - j - 1) (by decide) (by decide) hs1
      rw [show thrI is j (.jmp s) = .jmp ((fin is j : Int) - j - 1) from if_pos hm] at hlater
      exact ⟨.d (.bool true), .d (.int (enc (.jmp ((fin is j : Int) - j - 1)))), seq_n (x_asg (x_bop (x_next t1 (x_last (x_cmp rfl rfl hnot)))) rfl) (seq_n (x_asg (x_ite_t rfl (x_call (ds := [.int 22, .int 0, .int ((fin is j : Int) - j - 1)]) (x_cons rfl (x_cons rfl (x_cons (x_bin (x_bin (x_call (ds := [codeD is, .int (j : Nat)]) (x_cons rfl (x_cons rfl rfl)) hle) rfl rfl) rfl rfl) rfl))) has)) rfl) (seq_n (ifs_f (x_cmp (x_idx rfl rfl hlater) rfl (ne_self _)) rfl) rfl))⟩
    · rw [decide_eq_false (p := ¬ j ∈ bar is) fun z => z (hb.mpr hm)] at hnot
      rw [show thrI is j (.jmp s) = .jmp s from if_neg hm] at hlater
      exact ⟨.d (.bool false), .d (.int (enc (.jmp s))), seq_n (x_asg (x_bop (x_next t1 (x_last (x_cmp rfl rfl hnot)))) rfl) (seq_n (x_asg (x_ite_f rfl rfl) rfl) (seq_n (ifs_f (x_cmp (x_idx rfl rfl hlater) rfl (ne_self _)) rfl) rfl))⟩

theorem right_loop (w : WF is) (n : Nat) : ∀ (l : List I) (j : Nat) (a b c d : V), is.drop j = l → ∃ a' b' c' d', forLoopE (fun k v ρ H => exec ns (callN ns fns (n + 4)) body_right ((ρ.set 3 (.d (.int (k : Nat)))).set 4 v) H) j (l.map fun i => V.d (.int (enc i))) [.d (codeD is), .d (codeD (thr is)), .d (.lst (natsD (bar is))), a, b, c, d, .undef, .undef] H =
    some (.next, [.d (codeD is), .d (codeD (thr is)), .d (.lst (natsD (bar is))), a', b', c', d', .undef, .undef], H)
  | [], j, a, b, c, d, _ => ⟨a, b, c, d, rfl⟩
  | i :: r, j, a, b, c, d, hd => by
    obtain ⟨h1, h2, h3⟩ := drop_cons hd
    obtain ⟨c', d', hs⟩ := right_step (ns := ns) (H := H) w n h1 (c := c) (d := d)
    obtain ⟨a2, b2, c2, d2, ih⟩ := right_loop w n r (j + 1) (.d (.int (j : Nat))) (.d (.int (enc i))) c' d' h2
    exact ⟨a2, b2, c2, d2, forE_cons hs ih⟩
theorem ran_or : ran is = .none ∨ ∃ s, ran is = .tup [.str s] := by
  unfold ran
  cases h : runS is 60 0 regs0 with
  | none => exact .inl rfl
  | some v => obtain ⟨s, rfl⟩ := runS_tup h; exact .inr ⟨s, rfl⟩
theorem ran_thr (w : WF is) : ran is = .none ∨ ran (thr is) = ran is := by
  unfold ran
  cases h : runS is 60 0 regs0 with
  | none => exact .inl rfl
  | some v => rw [run_thr w w.zero h]; exact .inr rfl
theorem ev_run (w : WF is) (n : Nat) {x : X} (hx : ev ns (callN ns fns (n + 4)) x ρ H = some (.d (codeD is), H)) : ev ns (callN ns fns (n + 4)) (.call 31 (.cons x .nil)) ρ H = some (.d (ran is), H) := by
  obtain ⟨H', h⟩ := c_run (ns := ns) w n
  exact x_callF (ds := [codeD is]) (x_cons hx rfl) h rfl
theorem c_is_right (w : WF is) (n : Nat) : callN ns fns (n + 5) 34 [.d (codeD is), .d (codeD (thr is))] [] = some (.d (.bool true), []) := by
  obtain ⟨a, b, c, d, hl⟩ := right_loop (ns := ns) (H := []) w n is 0 .undef .undef .undef .undef rfl
  refine callN_of (fd := ⟨2, 9, b_law_is_right⟩) (ρ := [.d (codeD is), .d (codeD (thr is)), .d (.lst (natsD (bar is))), a, b, c, d, .d (ran is), .d (ran (thr is))]) rfl rfl ?_
  refine seq_n (ρ' := [.d (codeD is), .d (codeD (thr is)), .undef, .undef, .undef, .undef, .undef, .undef, .undef]) (H' := []) ?_ ?_
  · refine ifs_f (H' := []) ?_ rfl
    simp [len_code, cmp_ne, eq_int, thr_len]
  have hb := ev_bare (ns := ns) (H := []) (ρ := [.d (codeD is), .d (codeD (thr is)), .undef, .undef, .undef, .undef, .undef, .undef, .undef]) (ds := is.map fun i => D.int (enc i)) plain_code (n + 1) (by have := w.len; simp; omega) (x := .var 0) rfl
  refine seq_n (ρ' := [.d (codeD is), .d (codeD (thr is)), .d (.lst (natsD (bar is))), .undef, .undef, .undef, .undef, .undef, .undef]) (H' := []) ?_ ?_
  · exact x_asg hb rfl
  refine seq_n (ρ' := [.d (codeD is), .d (codeD (thr is)), .d (.lst (natsD (bar is))), a, b, c, d, .undef, .undef]) (H' := []) ?_ ?_
  · have h0 : ev ns (callN ns fns (n + 4)) (.var 0) [.d (codeD is), .d (codeD (thr is)), .d (.lst (natsD (bar is))), .undef, .undef, .undef, .undef, .undef, .undef] [] = some (.d (.lst (is.map fun i => D.int (enc i))), []) := rfl
    rw [exec_forE h0 (Nat.le_of_ble_eq_true rfl) (Nat.le_of_ble_eq_true rfl), List.map_map]
    exact hl
  have r1 := ev_run (ns := ns) (H := []) (ρ := [.d (codeD is), .d (codeD (thr is)), .d (.lst (natsD (bar is))), a, b, c, d, .undef, .undef]) w n (x := .var 0) rfl
  have r2 := ev_run (ns := ns) (H := []) (ρ := [.d (codeD is), .d (codeD (thr is)), .d (.lst (natsD (bar is))), a, b, c, d, .undef, .undef]) (thr_WF w) n (x := .var 1) rfl
  refine seq_n (ρ' := [.d (codeD is), .d (codeD (thr is)), .d (.lst (natsD (bar is))), a, b, c, d, .d (ran is), .d (ran (thr is))]) (H' := []) ?_ ?_
  · exact x_asgT (x_cons r1 (x_cons r2 rfl)) rfl
  refine seq_r ?_
  rcases ran_thr w with h1 | h1
  · rcases ran_or (is := thr is) with h2 | ⟨s, h2⟩
    · exact x_ret (x_bop (x_stop (x_cmp rfl rfl (by rw [h1, h2]; rfl)) nofun))
    · exact x_ret (x_bop (x_next (x_cmp rfl rfl (by rw [h1, h2]; rfl)) (x_last (x_cmp rfl rfl (by rw [h1]; rfl)))))
  · rcases ran_or (is := is) with h2 | ⟨s, h2⟩
    · exact x_ret (x_bop (x_stop (x_cmp rfl rfl (by rw [h1, h2]; rfl)) nofun))
    · exact x_ret (x_bop (x_stop (x_cmp rfl rfl (by rw [h1, h2]; exact eq_tup s)) nofun))
end Mine
end

/-! ### PM3 -/
section
set_option tactic.hygienic false
set_option genSizeOf false
set_option bootstrap.genMatcherCode false
open PySem
set_option linter.unusedVariables false
set_option linter.unusedSimpArgs false
set_option maxRecDepth 100000
namespace Mine
variable {is : List I}

/-! ## rising lists -/
theorem strict_ext : ∀ {l l' : List Nat}, l.Pairwise (· < ·) → l'.Pairwise (· < ·) → (∀ x, x ∈ l ↔ x ∈ l') → l = l'
  | [], [], _, _, _ => rfl
  | [], y :: l', _, _, h => absurd ((h y).mpr List.mem_cons_self) (by simp)
  | x :: l, [], _, _, h => absurd ((h x).mp List.mem_cons_self) (by simp)
  | x :: l, y :: l', p, q, h => by
    obtain ⟨p1, p2⟩ := List.pairwise_cons.mp p
    obtain ⟨q1, q2⟩ := List.pairwise_cons.mp q
    have e : x = y := by
      rcases List.mem_cons.mp ((h x).mp List.mem_cons_self) with e | e
      · exact e
      · rcases List.mem_cons.mp ((h y).mpr List.mem_cons_self) with e' | e'
        · exact e'.symm
        · have := q1 _ e; have := p1 _ e'; omega
    subst e
    rw [strict_ext p2 q2 fun z => ?_]
    constructor
    · intro hz
      rcases List.mem_cons.mp ((h z).mp (List.mem_cons_of_mem _ hz)) with e | e
      · subst e; have := p1 _ hz; omega
      · exact e
    · intro hz
      rcases List.mem_cons.mp ((h z).mpr (List.mem_cons_of_mem _ hz)) with e | e
      · subst e; have := q1 _ hz; omega
      · exact e
theorem sts_rise : ∀ (l : List I) (k : Nat), (sts l k).Pairwise (· < ·)
  | [], k => .nil
  | .setl :: j :: r, k => List.pairwise_cons.mpr ⟨fun x hx => by have := sts_range r (k + 2) x hx; omega, sts_rise r (k + 2)⟩
  | [.setl], k => List.pairwise_singleton _ _
  | .loadk a b :: r, k | .move a b :: r, k | .neg a b :: r, k | .test a b :: r, k | .jmp a :: r, k | .ret a :: r, k =>
    List.pairwise_cons.mpr ⟨fun x hx => by have := sts_range r (k + 1) x hx; omega, sts_rise r (k + 1)⟩
theorem range_not_bar (w : WF is) : (List.range is.length).filter (fun k => decide (k ∉ bar is)) = sts is 0 := by
  refine strict_ext (List.Pairwise.filter _ List.pairwise_lt_range) (sts_rise is 0) fun x => ?_
  rw [List.mem_filter, List.mem_range, decide_eq_true_eq]
  constructor
  · rintro ⟨h1, h2⟩
    exact Classical.byContradiction fun h => h2 ((w.bar h1).mpr h)
  · intro h
    exact ⟨w.lt h, fun z => (w.bar (w.lt h)).mp z h⟩

/-! ## where one may go on -/
noncomputable def nxt (is : List I) (k : Nat) : List Nat := match is[k]? with
  | some i => nx k i
  | none => []
noncomputable def lat (is : List I) (k : Nat) : Nat := match is[k]? with
  | some i => k + wl i
  | none => k
theorem WF.nxt_mem (w : WF is) {k x : Nat} (h : k ∈ sts is 0) (hx : x ∈ nxt is k) : x ∈ sts is 0 := by
  obtain ⟨i, e⟩ := w.at_ h
  unfold nxt at hx
  rw [e] at hx
  cases i with
  | ret a => simp [nx] at hx
  | jmp s => simp only [nx, List.mem_singleton] at hx; subst hx; exact (w.jmp k s h e).2
  | test a c =>
    simp only [nx, List.mem_cons, List.not_mem_nil, or_false] at hx
    rcases hx with rfl | rfl
    · exact (w.test k a c h e).1
    · exact (w.test k a c h e).2
  | loadk a c => simp only [nx, List.mem_singleton] at hx; subst hx; exact w.fall k _ h e trivial
  | move a c => simp only [nx, List.mem_singleton] at hx; subst hx; exact w.fall k _ h e trivial
  | neg a c => simp only [nx, List.mem_singleton] at hx; subst hx; exact w.fall k _ h e trivial
  | setl => simp only [nx, List.mem_singleton] at hx; subst hx; exact w.fall k _ h e trivial
/-- the next start -/
theorem sts_next : ∀ (l : List I) (k : Nat) (A : List Nat) (a : Nat) (r : List Nat), sts l k = A ++ a :: r → ∃ i, l[a - k]? = some i ∧ k ≤ a ∧ r.take 1 = if a + wl i < k + l.length then [a + wl i] else []
  | [], k, A, a, r, h => by simp [sts] at h
  | .setl :: j :: l, k, A, a, r, h => by
    rw [sts] at h
    cases A with
    | nil =>
      simp only [List.nil_append, List.cons.injEq] at h
      obtain ⟨rfl, rfl⟩ := h
      refine ⟨.setl, by simp, Nat.le_refl _, ?_⟩
      cases l with
      | nil => simp [sts, wl]
      | cons i l =>
        have : ∃ q, sts (i :: l) (k + 2) = (k + 2) :: q := by
          cases i <;> first | exact ⟨_, rfl⟩ | (cases l <;> exact ⟨_, rfl⟩)
        obtain ⟨q, hq⟩ := this
        rw [hq]
        simp [wl]
    | cons b A =>
      simp only [List.cons_append, List.cons.injEq] at h
      obtain ⟨rfl, h⟩ := h
      obtain ⟨i, h1, h2, h3⟩ := sts_next l (k + 2) A a r h
      refine ⟨i, ?_, by omega, ?_⟩
      · have : a - k = (a - (k + 2)) + 2 := by omega
        rw [this]; simpa using h1
      · rw [h3]; simp only [List.length_cons]; congr 1; rw [eq_iff_iff]; omega
  | [.setl], k, A, a, r, h => by
    cases A with
    | nil =>
      simp only [sts, List.nil_append, List.cons.injEq] at h
      obtain ⟨rfl, rfl⟩ := h
      exact ⟨.setl, by simp, Nat.le_refl _, by simp [wl]⟩
    | cons b A =>
      simp only [sts, List.cons_append, List.cons.injEq] at h
      obtain ⟨rfl, h⟩ := h
      simp at h
  | .loadk c d :: l, k, A, a, r, h | .move c d :: l, k, A, a, r, h | .neg c d :: l, k, A, a, r, h | .test c d :: l, k, A, a, r, h | .jmp c :: l, k, A, a, r, h | .ret c :: l, k, A, a, r, h => by
    rw [sts] at h
    · cases A with
      | nil =>
        simp only [List.nil_append, List.cons.injEq] at h
        obtain ⟨rfl, rfl⟩ := h
        refine ⟨_, by simp; rfl, Nat.le_refl _, ?_⟩
        cases l with
        | nil => simp [sts, wl]
        | cons i l =>
          have : ∃ q, sts (i :: l) (k + 1) = (k + 1) :: q := by
            cases i <;> first | exact ⟨_, rfl⟩ | (cases l <;> exact ⟨_, rfl⟩)
          obtain ⟨q, hq⟩ := this
          rw [hq]
          simp [wl]
      | cons b A =>
        simp only [List.cons_append, List.cons.injEq] at h
        obtain ⟨rfl, h⟩ := h
        obtain ⟨i, h1, h2, h3⟩ := sts_next l (k + 1) A a r h
        refine ⟨i, ?_, by omega, ?_⟩
        · have : a - k = (a - (k + 1)) + 1 := by omega
          rw [this]; simpa using h1
        · rw [h3]; simp only [List.length_cons]; congr 1; rw [eq_iff_iff]; omega
    · intro _ _ z; cases z
theorem WF.next (w : WF is) {A r : List Nat} {a : Nat} (h : sts is 0 = A ++ a :: r) : r.take 1 = if lat is a < is.length then [lat is a] else [] := by
  obtain ⟨i, h1, _, h3⟩ := sts_next is 0 A a r h
  simp only [Nat.sub_zero, Nat.zero_add] at h1 h3
  unfold lat
  rw [h1]; exact h3
theorem WF.nxt_later (w : WF is) {k : Nat} (h : k ∈ sts is 0) (hl : ¬ lat is k < is.length) : nxt is k ≠ [lat is k] := by
  intro e
  have : lat is k ∈ nxt is k := by rw [e]; simp
  exact hl (w.lt (w.nxt_mem h this))
/-- a leader -/
noncomputable def Lead (is : List I) (x : Nat) : Prop := x = 0 ∨ ∃ a, a ∈ sts is 0 ∧ nxt is a ≠ [lat is a] ∧ (x ∈ nxt is a ∨ x = lat is a)

/-! ## _law_blocks: firsts -/
noncomputable def fstF (is : List I) : List Nat → List Nat → List Nat
  | [], acc => acc
  | a :: r, acc => if nxt is a = r.take 1 then fstF is r acc else fstF is r (acc ++ nxt is a ++ r.take 1)
set_option tactic.hygienic true in
theorem fstF_mem (w : WF is) : ∀ (r A acc : List Nat), sts is 0 = A ++ r → ∀ x, x ∈ fstF is r acc ↔ x ∈ acc ∨ (x < is.length ∧ ∃ a ∈ r, nxt is a ≠ [lat is a] ∧ (x ∈ nxt is a ∨ x = lat is a))
  | [], A, acc, h, x => by simp [fstF]
  | a :: r, A, acc, h, x => by
    have hm : a ∈ sts is 0 := by rw [h]; simp
    have hn := w.next h
    have ih := fun acc => fstF_mem w r (A ++ [a]) acc (by rw [h]; simp) x
    unfold fstF
    by_cases hl : lat is a < is.length
    · rw [if_pos hl] at hn
      rw [hn]
      split
      · rename_i e
        rw [ih]
        constructor
        · rintro (h1 | ⟨h1, b, h2, h3⟩)
          · exact .inl h1
          · exact .inr ⟨h1, b, List.mem_cons_of_mem _ h2, h3⟩
        · rintro (h1 | ⟨h1, b, h2, h3, h4⟩)
          · exact .inl h1
          · rcases List.mem_cons.mp h2 with rfl | h2
            · exact absurd e h3
            · exact .inr ⟨h1, b, h2, h3, h4⟩
      · rename_i e
        rw [ih]
        simp only [List.mem_append, List.mem_singleton]
        constructor
        · rintro (((h1 | h1) | h1) | ⟨h1, b, h2, h3⟩)
          · exact .inl h1
          · exact .inr ⟨w.lt (w.nxt_mem hm h1), a, List.mem_cons_self, e, .inl h1⟩
          · exact .inr ⟨h1 ▸ hl, a, List.mem_cons_self, e, .inr h1⟩
          · exact .inr ⟨h1, b, List.mem_cons_of_mem _ h2, h3⟩
        · rintro (h1 | ⟨h1, b, h2, h3, h4⟩)
          · exact .inl (.inl (.inl h1))
          · rcases List.mem_cons.mp h2 with rfl | h2
            · rcases h4 with h4 | h4
              · exact .inl (.inl (.inr h4))
              · exact .inl (.inr h4)
            · exact .inr ⟨h1, b, h2, h3, h4⟩
    · rw [if_neg hl] at hn
      rw [hn]
      have hne := w.nxt_later hm hl
      split
      · rename_i e
        rw [ih]
        constructor
        · rintro (h1 | ⟨h1, b, h2, h3⟩)
          · exact .inl h1
          · exact .inr ⟨h1, b, List.mem_cons_of_mem _ h2, h3⟩
        · rintro (h1 | ⟨h1, b, h2, h3, h4⟩)
          · exact .inl h1
          · rcases List.mem_cons.mp h2 with rfl | h2
            · rcases h4 with h4 | h4
              · rw [e] at h4; cases h4
              · exact absurd (h4 ▸ h1) hl
            · exact .inr ⟨h1, b, h2, h3, h4⟩
      · rename_i e
        rw [ih]
        simp only [List.mem_append, List.not_mem_nil, or_false]
        constructor
        · rintro ((h1 | h1) | ⟨h1, b, h2, h3⟩)
          · exact .inl h1
          · exact .inr ⟨w.lt (w.nxt_mem hm h1), a, List.mem_cons_self, hne, .inl h1⟩
          · exact .inr ⟨h1, b, List.mem_cons_of_mem _ h2, h3⟩
        · rintro (h1 | ⟨h1, b, h2, h3, h4⟩)
          · exact .inl (.inl h1)
          · rcases List.mem_cons.mp h2 with rfl | h2
            · rcases h4 with h4 | h4
              · exact .inl (.inr h4)
              · exact absurd (h4 ▸ h1) hl
            · exact .inr ⟨h1, b, h2, h3, h4⟩
noncomputable def firsts (is : List I) : List Nat := fstF is (sts is 0) [0]
theorem firsts_mem (w : WF is) (x : Nat) : x ∈ firsts is ↔ x < is.length ∧ Lead is x := by
  unfold firsts
  rw [fstF_mem w (sts is 0) [] [0] rfl x]
  unfold Lead
  constructor
  · rintro (h | ⟨h1, a, h2, h3⟩)
    · simp at h; subst h; exact ⟨w.first, .inl rfl⟩
    · exact ⟨h1, .inr ⟨a, h2, h3⟩⟩
  · rintro ⟨h1, h | ⟨a, h2, h3⟩⟩
    · subst h; exact .inl (by simp)
    · exact .inr ⟨h1, a, h2, h3⟩

/-! ## leaders -/
noncomputable def addK (l : List Nat) (k : Nat) : List Nat := if k ∈ l then l else l ++ [k]
set_option tactic.hygienic true in
theorem addK_mem {l : List Nat} {k x : Nat} : x ∈ addK l k ↔ x ∈ l ∨ x = k := by
  unfold addK
  split
  · rename_i h
    constructor
    · exact .inl
    · rintro (h1 | rfl)
      · exact h1
      · exact h
  · simp
set_option tactic.hygienic true in
theorem addK_nodup {l : List Nat} {k : Nat} (h : l.Nodup) : (addK l k).Nodup := by
  unfold addK
  split
  · exact h
  · rename_i hk
    rw [List.nodup_append]
    refine ⟨h, by simp, fun a ha c hc => ?_⟩
    rw [List.mem_singleton] at hc
    subst hc
    exact fun z => hk (z ▸ ha)
noncomputable def addAll (l : List Nat) : List Nat → List Nat
  | [] => l
  | k :: r => addAll (addK l k) r
theorem addAll_mem {x : Nat} : ∀ {r l : List Nat}, x ∈ addAll l r ↔ x ∈ l ∨ x ∈ r
  | [], l => by simp [addAll]
  | k :: r, l => by
    rw [addAll, addAll_mem, addK_mem, List.mem_cons]
    constructor
    · rintro ((h | h) | h)
      · exact .inl h
      · exact .inr (.inl h)
      · exact .inr (.inr h)
    · rintro (h | h | h)
      · exact .inl (.inl h)
      · exact .inl (.inr h)
      · exact .inr h
theorem addAll_nodup : ∀ {r l : List Nat}, l.Nodup → (addAll l r).Nodup
  | [], l, h => h
  | k :: r, l, h => by
    show (addAll (addK l k) r).Nodup
    exact addAll_nodup (r := r) (l := addK l k) (addK_nodup h)
noncomputable def keysF (is : List I) : List Nat → List Nat → List Nat
  | [], acc => acc
  | a :: r, acc => if nxt is a = [lat is a] then keysF is r acc else keysF is r (addK (addAll acc (nxt is a)) (lat is a))
set_option tactic.hygienic true in
theorem keysF_mem {x : Nat} : ∀ (r acc : List Nat), x ∈ keysF is r acc ↔ x ∈ acc ∨ ∃ a ∈ r, nxt is a ≠ [lat is a] ∧ (x ∈ nxt is a ∨ x = lat is a)
  | [], acc => by simp [keysF]
  | a :: r, acc => by
    unfold keysF
    split
    · rename_i e
      rw [keysF_mem]
      constructor
      · rintro (h | ⟨b, h1, h2⟩)
        · exact .inl h
        · exact .inr ⟨b, List.mem_cons_of_mem _ h1, h2⟩
      · rintro (h | ⟨b, h1, h2, h3⟩)
        · exact .inl h
        · rcases List.mem_cons.mp h1 with rfl | h1
          · exact absurd e h2
          · exact .inr ⟨b, h1, h2, h3⟩
    · rename_i e
      rw [keysF_mem, addK_mem, addAll_mem]
      constructor
      · rintro (((h | h) | h) | ⟨b, h1, h2⟩)
        · exact .inl h
        · exact .inr ⟨a, List.mem_cons_self, e, .inl h⟩
        · exact .inr ⟨a, List.mem_cons_self, e, .inr h⟩
        · exact .inr ⟨b, List.mem_cons_of_mem _ h1, h2⟩
      · rintro (h | ⟨b, h1, h2, h3⟩)
        · exact .inl (.inl (.inl h))
        · rcases List.mem_cons.mp h1 with rfl | h1
          · rcases h3 with h3 | h3
            · exact .inl (.inl (.inr h3))
            · exact .inl (.inr h3)
          · exact .inr ⟨b, h1, h2, h3⟩
theorem keysF_nodup : ∀ (r acc : List Nat), acc.Nodup → (keysF is r acc).Nodup
  | [], acc, h => h
  | a :: r, acc, h => by
    unfold keysF
    split
    · exact keysF_nodup r acc h
    · exact keysF_nodup r _ (addK_nodup (addAll_nodup h))
noncomputable def keys (is : List I) : List Nat := keysF is (sts is 0) [0]
theorem keys_mem (x : Nat) : x ∈ keys is ↔ Lead is x := by
  unfold keys Lead
  rw [keysF_mem]
  simp
/-- the leaders, rising -/
noncomputable def lds (is : List I) : List Nat := (sts is 0).filter fun x => decide (x ∈ firsts is)
theorem lds_mem (w : WF is) (x : Nat) : x ∈ lds is ↔ x < is.length ∧ Lead is x := by
  unfold lds
  rw [List.mem_filter, decide_eq_true_eq, firsts_mem w]
  constructor
  · exact fun h => h.2
  · rintro ⟨h1, h2⟩
    refine ⟨?_, h1, h2⟩
    rcases h2 with rfl | ⟨a, g1, g2, g3 | g3⟩
    · exact w.zero
    · exact w.nxt_mem g1 g3
    · subst g3
      obtain ⟨A, r, e⟩ := List.append_of_mem g1
      have := w.next e
      rw [if_pos h1] at this
      have hm : lat is a ∈ r.take 1 := by rw [this]; simp
      rw [e]
      simp [List.mem_of_mem_take hm]
theorem lds_rise : (lds is).Pairwise (· < ·) := List.Pairwise.filter _ (sts_rise is 0)

/-! ## blocks -/
noncomputable def grpGo (p : Nat → Bool) : Nat → Nat → List Nat → List (Nat × Nat)
  | f, l, [] => [(f, l)]
  | f, l, s :: r => if p s then (f, l) :: grpGo p s s r else grpGo p f s r
noncomputable def lastOf (is : List I) (f e : Nat) : Nat := (((sts is 0).filter fun x => decide (f ≤ x) && decide (x < e)).getLast?).getD 0
noncomputable def bbF (is : List I) : List Nat → List (Nat × Nat)
  | [] => []
  | f :: r => (f, lastOf is f (r.head?.getD is.length)) :: bbF is r
theorem last_is (w : WF is) {A R : List Nat} {f l e : Nat} (h : sts is 0 = A ++ l :: R) (h1 : f ≤ l) (h2 : l < e) (h3 : ∀ x ∈ R, e ≤ x) : ((sts is 0).filter fun x => decide (f ≤ x) && decide (x < e)).getLast? = some l := by
  rw [h, List.filter_append, List.filter_cons]
  have : (decide (f ≤ l) && decide (l < e)) = true := by simp [h1, h2]
  rw [this, if_pos rfl]
  have hR : R.filter (fun x => decide (f ≤ x) && decide (x < e)) = [] := by
    rw [List.filter_eq_nil_iff]
    intro x hx
    have := h3 x hx
    simp; omega
  rw [hR]
  simp
theorem grp_bb (w : WF is) (p : Nat → Bool) : ∀ (r A : List Nat) (f l : Nat), sts is 0 = A ++ l :: r → f ≤ l → grpGo p f l r = bbF is (f :: r.filter p)
  | [], A, f, l, h, hf => by
    have hl : l ∈ sts is 0 := by rw [h]; simp
    have := last_is w (e := is.length) h hf (w.lt hl) (by simp)
    have e : lastOf is f is.length = l := by unfold lastOf; rw [this]; rfl
    simp only [grpGo, bbF, List.filter_nil, List.head?_nil, Option.getD_none, e]
  | s :: r, A, f, l, h, hf => by
    have hr := sts_rise is 0
    rw [h] at hr
    have hr2 := (List.pairwise_append.mp hr).2.1
    obtain ⟨g1, g2⟩ := List.pairwise_cons.mp hr2
    obtain ⟨g3, g4⟩ := List.pairwise_cons.mp g2
    have hls : l < s := g1 s List.mem_cons_self
    unfold grpGo
    by_cases hp : p s = true
    · rw [if_pos hp, List.filter_cons, if_pos hp]
      have := last_is w (e := s) h hf hls (fun x hx => by
        rcases List.mem_cons.mp hx with rfl | hx
        · exact Nat.le_refl _
        · exact Nat.le_of_lt (g3 x hx))
      rw [grp_bb w p r (A ++ [l]) s s (by rw [h]; simp) (Nat.le_refl _)]
      have e : lastOf is f s = l := by unfold lastOf; rw [this]; rfl
      conv => rhs; rw [bbF]
      simp only [List.head?_cons, Option.getD_some, e]
    · rw [if_neg hp, List.filter_cons, if_neg hp]
      exact grp_bb w p r (A ++ [l]) f s (by rw [h]; simp) (by omega)
/-- what follows a block's last place is led -/
theorem grp_next (w : WF is) (p : Nat → Bool) (hp : ∀ x, p x = true ↔ (x < is.length ∧ Lead is x)) : ∀ (r A : List Nat) (f l : Nat), sts is 0 = A ++ l :: r → ∀ q ∈ grpGo p f l r, ∀ x ∈ nxt is q.2, x ∈ lds is
  | [], A, f, l, h, q, hq, x, hx => by
    simp only [grpGo, List.mem_singleton] at hq
    subst hq
    have hl : l ∈ sts is 0 := by rw [h]; simp
    have hn := w.next h
    rw [lds_mem w]
    have hm := w.nxt_mem hl hx
    refine ⟨w.lt hm, .inr ⟨l, hl, ?_, .inl hx⟩⟩
    refine w.nxt_later hl fun z => ?_
    rw [if_pos z] at hn
    simp at hn
  | s :: r, A, f, l, h, q, hq, x, hx => by
    have hl : l ∈ sts is 0 := by rw [h]; simp
    have hn := w.next h
    unfold grpGo at hq
    by_cases hs : p s = true
    · rw [if_pos hs] at hq
      rcases List.mem_cons.mp hq with rfl | hq
      · rw [lds_mem w]
        have hm := w.nxt_mem hl hx
        refine ⟨w.lt hm, ?_⟩
        by_cases e : nxt is l = [lat is l]
        · simp only at hx
          rw [e, List.mem_singleton] at hx
          subst hx
          rw [if_pos (w.lt hm)] at hn
          simp at hn
          subst hn
          exact ((hp _).mp hs).2
        · exact .inr ⟨l, hl, e, .inl hx⟩
      · exact grp_next w p hp r (A ++ [l]) s s (by rw [h]; simp) q hq x hx
    · rw [if_neg hs] at hq
      exact grp_next w p hp r (A ++ [l]) f s (by rw [h]; simp) q hq x hx
/-- the blocks -/
noncomputable def blocks (is : List I) : List (Nat × Nat) := bbF is (lds is)
theorem blocks_eq (w : WF is) : ∃ r, sts is 0 = 0 :: r ∧ lds is = 0 :: r.filter (fun x => decide (x ∈ firsts is)) ∧ blocks is = grpGo (fun x => decide (x ∈ firsts is)) 0 0 r := by
  have h0 : ∃ r, sts is 0 = 0 :: r := by
    obtain ⟨i, l, rfl⟩ : ∃ i l, is = i :: l := by
      cases is with
      | nil => exact absurd w.first (by simp)
      | cons i l => exact ⟨i, l, rfl⟩
    cases i <;> first | exact ⟨_, rfl⟩ | (cases l <;> exact ⟨_, rfl⟩)
  obtain ⟨r, hr⟩ := h0
  have h1 : lds is = 0 :: r.filter (fun x => decide (x ∈ firsts is)) := by
    unfold lds
    rw [hr, List.filter_cons, if_pos]
    simp only [decide_eq_true_eq, firsts_mem w]
    exact ⟨w.first, .inl rfl⟩
  exact ⟨r, hr, h1, by unfold blocks; rw [h1, grp_bb w _ r [] 0 0 hr (Nat.le_refl _)]⟩
theorem blocks_next (w : WF is) : ∀ q ∈ blocks is, ∀ x ∈ nxt is q.2, x ∈ lds is := by
  obtain ⟨r, h1, _, h3⟩ := blocks_eq w
  rw [h3]
  exact grp_next w _ (fun x => by rw [decide_eq_true_eq, firsts_mem w]) r [] 0 0 h1
end Mine
end

/-! ### P8 -/
section
set_option tactic.hygienic false
set_option genSizeOf false
set_option bootstrap.genMatcherCode false
open PySem
set_option linter.unusedVariables false
set_option linter.unusedSimpArgs false
set_option maxRecDepth 100000
namespace Mine
variable {ns : List Int} {C : Calls'} {ρ ρ' : List V} {H H' : List O} {is : List I}

theorem eqL_nats {k : Nat} (a : List Nat) : ∀ c : List Nat, eqL (eqD k) (natsD a) (natsD c) = some (decide (a = c)) := by
  induction a with
  | nil => intro c; cases c <;> rfl
  | cons x a ih =>
    intro c
    cases c with
    | nil => rfl
    | cons y c =>
      have e : eqD k (.int (x : Nat)) (.int (y : Nat)) = some ((x : Int) == (y : Int)) := by cases k <;> rfl
      show oh (eqD k (.int (x : Nat)) (.int (y : Nat))) (fun q => oh (eqL (eqD k) (natsD a) (natsD c)) fun b => some (q && b)) = _
      rw [e, ih]
      refine congrArg some (Bool.eq_iff_iff.mpr ?_)
      rw [Bool.and_eq_true, decide_eq_true_eq, decide_eq_true_eq, beq_iff_eq, List.cons.injEq, Int.ofNat_inj]
theorem eq_nats (a c : List Nat) : eqD 8 (.lst (natsD a)) (.lst (natsD c)) = some (decide (a = c)) := eqL_nats (k := 7) a c
theorem ne_nats (a c : List Nat) : cmpV H .ne (.d (.lst (natsD a))) (.d (.lst (natsD c))) = some (!decide (a = c)) := by
  show oh (eqD 8 (.lst (natsD a)) (.lst (natsD c))) _ = _
  rw [eq_nats]; rfl
theorem comp_t {cond elt : V → List O → Option (V × List O)} {v : V} {vs : List V} {d : D} {xs : List D} {H1 H2 H3 : List O} (h1 : cond v H = some (.d (.bool true), H1)) (h2 : elt v H1 = some (.d d, H2)) (h3 : compLoop cond elt vs H2 = some (xs, H3)) : compLoop cond elt (v :: vs) H = some (d :: xs, H3) := by
  show bh (cond v H) _ = _
  rw [h1]
  show dh (elt v H1) _ = _
  rw [h2]
  show vh (compLoop cond elt vs H2) _ = _
  rw [h3]; rfl
theorem comp_f {cond elt : V → List O → Option (V × List O)} {v : V} {vs : List V} {H1 : List O} {r : Option (List D × List O)} (h1 : cond v H = some (.d (.bool false), H1)) (h3 : compLoop cond elt vs H1 = r) : compLoop cond elt (v :: vs) H = r := by
  show bh (cond v H) _ = _
  rw [h1]; exact h3
theorem comp_map {α : Type} {cond elt : V → List O → Option (V × List O)} (f : α → D) (p : α → Bool) (g : α → D) (l : List α) : (∀ d ∈ l, cond (.d (f d)) H = some (.d (.bool (p d)), H)) → (∀ d ∈ l, p d = true → elt (.d (f d)) H = some (.d (g d), H)) →
    compLoop cond elt ((l.map f).map .d) H = some ((l.filter p).map g, H) := by
  induction l with
  | nil => intro _ _; rfl
  | cons d l ih =>
    intro h1 h2
    have ih := ih (fun d hd => h1 d (List.mem_cons_of_mem _ hd)) (fun d hd => h2 d (List.mem_cons_of_mem _ hd))
    have c1 := h1 d List.mem_cons_self
    cases hp : p d with
    | true =>
      rw [hp] at c1
      rw [List.filter_cons_of_pos hp]
      exact comp_t c1 (h2 d List.mem_cons_self hp) ih
    | false =>
      rw [hp] at c1
      rw [List.filter_cons_of_neg (Bool.eq_false_iff.mp hp)]
      exact comp_f c1 ih
theorem comp_gen {cond elt : V → List O → Option (V × List O)} (p : D → Bool) (g : D → D) (l : List D) (h1 : ∀ d ∈ l, cond (.d d) H = some (.d (.bool (p d)), H)) (h2 : ∀ d ∈ l, p d = true → elt (.d d) H = some (.d (g d), H)) :
    compLoop cond elt (l.map .d) H = some ((l.filter p).map g, H) := by
  have := comp_map (fun d => d) p g l h1 h2
  rwa [List.map_id'] at this
/-- over a list of places -/
theorem comp_nats {cond elt : V → List O → Option (V × List O)} (p : Nat → Bool) (g : Nat → D) (l : List Nat) (h1 : ∀ k ∈ l, cond (.d (.int (k : Nat))) H = some (.d (.bool (p k)), H)) (h2 : ∀ k ∈ l, p k = true → elt (.d (.int (k : Nat))) H = some (.d (g k), H)) :
    compLoop cond elt ((natsD l).map .d) H = some ((l.filter p).map g, H) := comp_map _ p g l h1 h2
theorem range_nats (m : Nat) : rangeV (m : Int) = (natsD (List.range m)).map .d := by
  unfold natsD
  rw [List.map_map]
  rfl
theorem natsD_len (l : List Nat) : (natsD l).length = l.length := List.length_map ..
theorem natsD_id (l : List Nat) : (l.map fun (k : Nat) => D.int (k : Nat)) = natsD l := rfl

theorem ev_comp1 {x elt : X} {cond : Xs} {m : Int} {xs : List D} {H1 H2 : List O} (hx : ev ns C x ρ H = some (.d (.int m), H1)) (hm : 0 ≤ m ∧ m ≤ (big : Nat)) (hc : compLoop (fun v H => evB ns C true cond (ρ ++ [v]) H) (fun v H => ev ns C elt (ρ ++ [v]) H) (rangeV m) H1 = some (xs, H2)) :
    ev ns C (.comp 1 x cond elt) ρ H = some (.d (.lst xs), H2) := by
  rw [ev_comp_eq, hx, vh_some, show iterV H1 1 (.d (.int m)) = some (rangeV m, H1) from if_pos hm, vh_some, hc]; rfl
theorem ev_comp0 {x elt : X} {cond : Xs} {ds xs : List D} {H1 H2 : List O} (hx : ev ns C x ρ H = some (.d (.lst ds), H1)) (hc : compLoop (fun v H => evB ns C true cond (ρ ++ [v]) H) (fun v H => ev ns C elt (ρ ++ [v]) H) (ds.map .d) H1 = some (xs, H2)) :
    ev ns C (.comp 0 x cond elt) ρ H = some (.d (.lst xs), H2) := by
  rw [ev_comp_eq, hx, vh_some, show iterV H1 0 (.d (.lst ds)) = some (ds.map .d, H1) from rfl, vh_some, hc]; rfl
theorem x_sl {a b c : X} {u lo hi v : V} {H1 H2 H3 : List O} (h1 : ev ns C a ρ H = some (u, H1)) (h2 : ev ns C b ρ H1 = some (lo, H2)) (h3 : ev ns C c ρ H2 = some (hi, H3)) (h4 : slV u lo hi = some v) : ev ns C (.sl a b c) ρ H = some (v, H3) := by
  rw [ev_sl_eq, h1, vh_some, h2, vh_some, h3, vh_some, h4]; rfl
theorem sl_ok {xs : List D} {a b : Int} (h : 0 ≤ a ∧ 0 ≤ b) : slV (.d (.lst xs)) (.d (.int a)) (.d (.int b)) = some (.d (.lst ((xs.take b.toNat).drop a.toNat))) := if_pos h
theorem x_cat {a b : X} {xs ys : List D} {H1 H2 : List O} (h1 : ev ns C a ρ H = some (.d (.lst xs), H1)) (h2 : ev ns C b ρ H1 = some (.d (.lst ys), H2)) (h3 : xs.length + ys.length ≤ big) : ev ns C (.cat a b) ρ H = some (.d (.lst (xs ++ ys)), H2) := by
  rw [ev_cat_eq, h1, lh_some, h2, lh_some, if_pos h3]
theorem nxt_len (a : Nat) : (nxt is a).length ≤ 2 := by
  unfold nxt
  cases is[a]? with
  | none => exact Nat.zero_le _
  | some i => cases i <;> exact Nat.le_of_ble_eq_true rfl
/-! ## _law_blocks: the firsts -/
noncomputable def body_fst : S := match b_law_blocks with
  | .seq _ (.seq _ (.seq _ (.seq (.forE _ _ _ b) _))) => b
  | _ => .skip
theorem nxt_at {k : Nat} {i : I} (e : is[k]? = some i) : nxt is k = nx k i := by unfold nxt; rw [e]
theorem c_nxt (w : WF is) (n : Nat) {k : Nat} (h : k ∈ sts is 0) : callN ns fns (n + 4) 35 [.d (codeD is), .d (.int (k : Nat))] [] = some (.d (.lst (natsD (nxt is k))), []) := by
  obtain ⟨i, e⟩ := w.at_ h
  rw [nxt_at e]
  exact c_after w.ok n e (fun s hs => (w.jmp k s h (hs ▸ e)).1)
theorem slice_next (A r : List Nat) (a : Nat) : ((natsD (A ++ a :: r)).take (A.length + 2)).drop (A.length + 1) = natsD (r.take 1) := by
  unfold natsD
  rw [← List.map_take, ← List.map_drop, List.drop_take]
  congr 1
  have : A.length + 2 - (A.length + 1) = 1 := by omega
  rw [this, List.append_cons, List.drop_append_of_le_length (by simp)]
  simp
theorem fst_step (w : WF is) (n : Nat) {A r acc : List Nat} {a : Nat} (h : sts is 0 = A ++ a :: r) (hl : acc.length ≤ 1000) {B c u : V} :
    ∃ c', exec ns (callN ns fns (n + 4)) body_fst [.d (codeD is), B, .d (.lst (natsD (sts is 0))), .d (.lst (natsD acc)), .d (.int (A.length : Nat)), .d (.int (a : Nat)), c, u] H =
      some (.next, [.d (codeD is), B, .d (.lst (natsD (sts is 0))), .d (.lst (natsD (if nxt is a = r.take 1 then acc else acc ++ nxt is a ++ r.take 1))), .d (.int (A.length : Nat)), .d (.int (a : Nat)), c', u], H) := by
  have hm : a ∈ sts is 0 := by rw [h]; simp
  have hc := c_nxt (ns := ns) w n hm
  have hs : slV (.d (.lst (natsD (sts is 0)))) (.d (.int ((A.length : Nat) + 1))) (.d (.int ((A.length : Nat) + 2))) = some (.d (.lst (natsD (r.take 1)))) := by
    have e1 : ((A.length : Int) + 1).toNat = A.length + 1 := by omega
    have e2 : ((A.length : Int) + 2).toNat = A.length + 2 := by omega
    rw [sl_ok ⟨by omega, by omega⟩, e1, e2, h, slice_next]
  refine ⟨.d (.lst (natsD (r.take 1))), ?_⟩
  have hn := nxt_len (is := is) a
  have ht : (r.take 1).length ≤ 1 := by rw [List.length_take]; omega
  have hB : big = 1000000 := rfl
  have h6 : ∀ X : V, ev ns (callN ns fns (n + 4)) (.call 35 (.cons (.var 0) (.cons (.var 5) .nil))) [.d (codeD is), B, .d (.lst (natsD (sts is 0))), .d (.lst (natsD acc)), .d (.int (A.length : Nat)), .d (.int (a : Nat)), X, u] H = some (.d (.lst (natsD (nxt is a))), H) := fun X => x_call (ds := [codeD is, .int (a : Nat)]) (x_cons rfl (x_cons rfl rfl)) hc
  have hq := ne_nats (H := H) (nxt is a) (r.take 1)
  by_cases he : nxt is a = r.take 1
  · rw [decide_eq_true he] at hq
    rw [if_pos he]
    exact seq_n (x_asg (x_sl rfl rfl rfl hs) rfl) (seq_n (ifs_f (x_cmp (h6 _) rfl hq) rfl) rfl)
  · rw [decide_eq_false he] at hq
    rw [if_neg he, show natsD (acc ++ nxt is a ++ r.take 1) = natsD acc ++ natsD (nxt is a) ++ natsD (r.take 1) by unfold natsD; rw [List.map_append, List.map_append]]
    exact seq_n (x_asg (x_sl rfl rfl rfl hs) rfl) (seq_n (ifs_t (x_cmp (h6 _) rfl hq) (seq_n (x_asg (x_cat (x_cat rfl (h6 _) (by rw [natsD_len, natsD_len]; omega)) rfl (by rw [List.length_append, natsD_len, natsD_len, natsD_len]; omega)) rfl) rfl)) rfl)
theorem fst_loop (w : WF is) (n : Nat) {B u : V} : ∀ (r A acc : List Nat) (x y c : V), sts is 0 = A ++ r → acc.length + 3 * r.length ≤ 1000 → ∃ x' y' c', forLoopE (fun k v ρ H => exec ns (callN ns fns (n + 4)) body_fst ((ρ.set 4 (.d (.int (k : Nat)))).set 5 v) H) A.length ((natsD r).map .d) [.d (codeD is), B, .d (.lst (natsD (sts is 0))), .d (.lst (natsD acc)), x, y, c, u] H =
    some (.next, [.d (codeD is), B, .d (.lst (natsD (sts is 0))), .d (.lst (natsD (fstF is r acc))), x', y', c', u], H)
  | [], A, acc, x, y, c, h, _ => ⟨x, y, c, rfl⟩
  | a :: r, A, acc, x, y, c, h, hl => by
    simp only [List.length_cons] at hl
    obtain ⟨c', hs⟩ := fst_step (ns := ns) (H := H) w n h (acc := acc) (by omega) (B := B) (c := c) (u := u)
    have hlen := nxt_len (is := is) a
    obtain ⟨x2, y2, c2, ih⟩ := fst_loop w n (B := B) (u := u) r (A ++ [a]) (if nxt is a = r.take 1 then acc else acc ++ nxt is a ++ r.take 1) (.d (.int (A.length : Nat))) (.d (.int (a : Nat))) c' (by rw [h]; simp) (by
      split
      · omega
      · have : (r.take 1).length ≤ 1 := by rw [List.length_take]; omega
        simp only [List.length_append]; omega)
    rw [show (A ++ [a]).length = A.length + 1 from List.length_append] at ih
    exact ⟨x2, y2, c2, (forE_cons hs ih).trans (by rw [apply_ite (fstF is r)]; rfl)⟩

/-! ## _law_blocks: the blocks -/
noncomputable def body_blk : S := match b_law_blocks with
  | .seq _ (.seq _ (.seq _ (.seq _ (.seq _ (.seq (.forL _ _ b) _))))) => b
  | _ => .skip
noncomputable def blkO (is : List I) (q : Nat × Nat) : O := .lst [.d (.int (q.1 : Nat)), .d (.int (q.2 : Nat)), .d (.lst (natsD (nxt is q.2)))]
noncomputable def locs (m : Nat) : List V := (List.range m).map fun i => .loc (i + 1)
noncomputable def Hb (is : List I) (bs : List (Nat × Nat)) : List O := .lst (locs bs.length) :: bs.map (blkO is)
theorem at_neg {m : Nat} (h : 0 < m) : at? m (-1) = some (m - 1) := by
  unfold at?
  rw [if_neg (by omega), if_pos (by omega)]
  congr 1; omega
theorem getO_succ {a : O} {l : List O} {k : Nat} : getO (a :: l) (k + 1) = getO l k := rfl
theorem getO_end (H0 : List O) (o : O) : getO (H0 ++ [o]) H0.length = o := by
  unfold getO
  rw [List.getElem?_concat_length]; rfl
theorem set_last {α : Type} (l : List α) (a c : α) : (l ++ [a]).set l.length c = l ++ [c] := by
  rw [List.set_append_right _ _ (Nat.le_refl _), Nat.sub_self]; rfl
theorem locs_len (m : Nat) : (locs m).length = m := by
  unfold locs
  rw [List.length_map, List.length_range]
theorem locs_idx (m : Nat) (l : List O) : idxV (.lst (locs (m + 1)) :: l) (.loc 0) (.d (.int (-1))) = some (.loc (m + 1)) := by
  show oh (at? (locs (m + 1)).length (-1)) (fun k => (locs (m + 1))[k]?) = _
  rw [locs_len, at_neg (Nat.succ_pos m)]
  show (locs (m + 1))[m]? = _
  unfold locs
  rw [List.getElem?_map, List.getElem?_range (Nat.lt_succ_self m)]; rfl
theorem Hb_snoc (bs : List (Nat × Nat)) (q : Nat × Nat) : Hb is (bs ++ [q]) = .lst (locs (bs.length + 1)) :: (bs.map (blkO is) ++ [blkO is q]) := by
  unfold Hb
  rw [List.length_append, List.map_append]; rfl
theorem set_it {A : List O} {x0 x1 y : O} {i : Int} {v : V} {m : Nat} (hm : A.length = m) (h : setIO i v x0 = some x1) : setIV (y :: (A ++ [x0])) v (.loc (m + 1)) (.d (.int i)) = some (y :: (A ++ [x1])) := by
  subst hm
  show oh (setIO i v (getO (y :: (A ++ [x0])) (A.length + 1))) _ = _
  rw [getO_succ, getO_end, h]
  exact congrArg (fun l => some (y :: l)) (set_last ..)
theorem x_setTI {o1 i1 o2 i2 x1 x2 : X} {v1 v2 u1 j1 u2 j2 : V} {H1 H2 : List O} (h1 : ev ns C x1 ρ H = some (v1, H)) (h2 : ev ns C x2 ρ H = some (v2, H)) (h3 : ev ns C o1 ρ H = some (u1, H)) (h4 : ev ns C i1 ρ H = some (j1, H)) (h5 : setIV H v1 u1 j1 = some H1) (h6 : ev ns C o2 ρ H1 = some (u2, H1)) (h7 : ev ns C i2 ρ H1 = some (j2, H1)) (h8 : setIV H1 v2 u2 j2 = some H2) : exec ns C (.setTI o1 i1 o2 i2 x1 x2) ρ H = some (.next, ρ, H2) := by
  rw [ex_setTI_eq, h1, vh_some, h2, vh_some, h3, vh_some, h4, vh_some, h5, oh_some, h6, vh_some, h7, vh_some, h8]; rfl
theorem blk_set (w : WF is) (n : Nat) {s : Nat} (hm : s ∈ sts is 0) {W' B P F nm lt : V} (bs : List (Nat × Nat)) (f a1 a2 : V) (hW : W' = .d (codeD is)) (x0 : O) (hx : x0 = .lst [f, a1, a2]) :
    exec ns (callN ns fns (n + 4)) (.setTI (.idx (.var 7) (.cst (.int (-1)))) (.cst (.int 1)) (.idx (.var 7) (.cst (.int (-1)))) (.cst (.int 2)) (.var 5) (.call 35 (.cons (.var 0) (.cons (.var 5) .nil)))) [W', B, P, F, nm, .d (.int (s : Nat)), lt, .loc 0] (.lst (locs (bs.length + 1)) :: (bs.map (blkO is) ++ [x0])) =
      some (.next, [W', B, P, F, nm, .d (.int (s : Nat)), lt, .loc 0], .lst (locs (bs.length + 1)) :: (bs.map (blkO is) ++ [.lst [f, .d (.int (s : Nat)), .d (.lst (natsD (nxt is s)))]])) := by
  subst hW hx
  have hc := c_nxt (ns := ns) w n hm
  have hl : (bs.map (blkO is)).length = bs.length := List.length_map ..
  exact x_setTI rfl (x_call (ds := [codeD is, .int (s : Nat)]) (x_cons rfl (x_cons rfl rfl)) hc) (x_idx rfl rfl (locs_idx ..)) rfl (set_it hl rfl) (x_idx rfl rfl (locs_idx ..)) rfl (set_it hl rfl)
theorem blk_new (w : WF is) (n : Nat) {s : Nat} (hm : s ∈ sts is 0) (hp : s ∈ firsts is) {B P nm lt : V} (bs : List (Nat × Nat)) (hb : bs.length < 1000) :
    exec ns (callN ns fns (n + 4)) body_blk [.d (codeD is), B, P, .d (.lst (natsD (firsts is))), nm, .d (.int (s : Nat)), lt, .loc 0] (Hb is bs) =
      some (.next, [.d (codeD is), B, P, .d (.lst (natsD (firsts is))), nm, .d (.int (s : Nat)), lt, .loc 0], Hb is (bs ++ [(s, s)])) := by
  have hi := in_nats (H := Hb is bs) (firsts is) s
  rw [decide_eq_true hp] at hi
  have hbig : bs.length < big := by have : big = 1000000 := rfl; omega
  have e1 : locs bs.length ++ [.loc (Hb is bs).length] = locs (bs.length + 1) := by
    unfold locs
    rw [List.range_succ, List.map_append, show (Hb is bs).length = bs.length + 1 from congrArg (· + 1) (List.length_map ..)]; rfl
  rw [Hb_snoc]
  refine seq_n (ρ' := [.d (codeD is), B, P, .d (.lst (natsD (firsts is))), nm, .d (.int (s : Nat)), lt, .loc 0]) (H' := .lst (locs (bs.length + 1)) :: (bs.map (blkO is) ++ [.lst [.d (.int (s : Nat)), .d (.int (s : Nat)), .d (.lst [])]])) ?_ (seq_n (blk_set (ns := ns) w n hm bs _ _ _ rfl _ rfl) rfl)
  refine ifs_t (x_cmp rfl rfl hi) (seq_n ?_ rfl)
  exact (x_app (l := 0) rfl rfl rfl rfl (by rw [locs_len]; exact hbig)).trans (congrArg (fun L => some (Fl.next, [.d (codeD is), B, P, .d (.lst (natsD (firsts is))), nm, .d (.int (s : Nat)), lt, .loc 0], O.lst L :: (bs.map (blkO is) ++ [(O.lst [.d (.int (s : Nat)), .d (.int (s : Nat)), .d (.lst [])] : O)]))) e1)
theorem blk_old (w : WF is) (n : Nat) {s f l : Nat} (hm : s ∈ sts is 0) (hp : s ∉ firsts is) {B P nm lt : V} (bs : List (Nat × Nat)) :
    exec ns (callN ns fns (n + 4)) body_blk [.d (codeD is), B, P, .d (.lst (natsD (firsts is))), nm, .d (.int (s : Nat)), lt, .loc 0] (Hb is (bs ++ [(f, l)])) =
      some (.next, [.d (codeD is), B, P, .d (.lst (natsD (firsts is))), nm, .d (.int (s : Nat)), lt, .loc 0], Hb is (bs ++ [(f, s)])) := by
  rw [Hb_snoc, Hb_snoc]
  have hi := in_nats (H := .lst (locs (bs.length + 1)) :: (bs.map (blkO is) ++ [blkO is (f, l)])) (firsts is) s
  rw [decide_eq_false hp] at hi
  exact seq_n (ifs_f (x_cmp rfl rfl hi) rfl) (seq_n (blk_set (ns := ns) w n hm bs _ _ _ rfl _ rfl) rfl)
theorem blk_loop (w : WF is) (n : Nat) {B P nm lt : V} : ∀ (r A : List Nat) (bs : List (Nat × Nat)) (f l : Nat) (x : V), sts is 0 = A ++ r → bs.length + r.length < 900 →
    ∃ x', forLoop (fun v ρ H => exec ns (callN ns fns (n + 4)) body_blk (ρ.set 5 v) H) ((natsD r).map .d) [.d (codeD is), B, P, .d (.lst (natsD (firsts is))), nm, x, lt, .loc 0] (Hb is (bs ++ [(f, l)])) =
      some (.next, [.d (codeD is), B, P, .d (.lst (natsD (firsts is))), nm, x', lt, .loc 0], Hb is (bs ++ grpGo (fun x => decide (x ∈ firsts is)) f l r))
  | [], A, bs, f, l, x, h, _ => ⟨x, rfl⟩
  | s :: r, A, bs, f, l, x, h, hb => by
    have hm : s ∈ sts is 0 := by rw [h]; simp
    simp only [List.length_cons] at hb
    by_cases hp : s ∈ firsts is
    · have h1 := blk_new (ns := ns) w n hm hp (B := B) (P := P) (nm := nm) (lt := lt) (bs ++ [(f, l)]) (by rw [List.length_append, List.length_singleton]; omega)
      obtain ⟨x', ih⟩ := blk_loop w n (B := B) (P := P) (nm := nm) (lt := lt) r (A ++ [s]) (bs ++ [(f, l)]) s s (.d (.int (s : Nat))) (by rw [h]; simp) (by rw [List.length_append, List.length_singleton]; omega)
      rw [show grpGo (fun x => decide (x ∈ firsts is)) f l (s :: r) = (f, l) :: grpGo (fun x => decide (x ∈ firsts is)) s s r from if_pos (decide_eq_true hp)]
      exact ⟨x', for_cons h1 (ih.trans (by rw [List.append_assoc]; rfl))⟩
    · have h1 := blk_old (ns := ns) w n (f := f) (l := l) hm hp (B := B) (P := P) (nm := nm) (lt := lt) bs
      obtain ⟨x', ih⟩ := blk_loop w n (B := B) (P := P) (nm := nm) (lt := lt) r (A ++ [s]) bs f s (.d (.int (s : Nat))) (by rw [h]; simp) (by omega)
      rw [show grpGo (fun x => decide (x ∈ firsts is)) f l (s :: r) = grpGo (fun x => decide (x ∈ firsts is)) f s r from if_neg (ne_true_of_eq_false (decide_eq_false hp))]
      exact ⟨x', for_cons h1 ih⟩
noncomputable def blocksD (is : List I) : D := .lst ((blocks is).map fun q => .lst [.int (q.1 : Nat), .int (q.2 : Nat), .lst (natsD (nxt is q.2))])
theorem mapO_map {α : Type} {f : V → Option D} {h : α → V} {g : α → D} (l : List α) : (∀ a ∈ l, f (h a) = some (g a)) → mapO f (l.map h) = some (l.map g) := by
  induction l with
  | nil => intro _; rfl
  | cons a l ih =>
    intro H
    have ih := ih fun a ha => H a (List.mem_cons_of_mem _ ha)
    rw [List.map_cons, mapO_cons, H a List.mem_cons_self, oh_some, ih]; rfl
noncomputable def blqD (is : List I) (q : Nat × Nat) : D := .lst [.int (q.1 : Nat), .int (q.2 : Nat), .lst (natsD (nxt is q.2))]
theorem frz_Hb (bs : List (Nat × Nat)) : frz 3 (Hb is bs) (.loc 0) = some (.lst (bs.map (blqD is))) := by
  have h1 : mapO (frz 2 (Hb is bs)) (locs bs.length) = some ((List.range bs.length).map fun i => blqD is (bs[i]?.getD (0, 0))) := by
    refine mapO_map _ fun i hi => ?_
    have hi := List.mem_range.mp hi
    have hg : getO (Hb is bs) (i + 1) = blkO is (bs[i]?.getD (0, 0)) := by
      unfold Hb getO
      rw [List.getElem?_cons_succ, List.getElem?_map, List.getElem?_eq_getElem hi]; rfl
    show frO (frz 1 (Hb is bs)) (getO (Hb is bs) (i + 1)) = _
    rw [hg]; rfl
  show oh (mapO (frz 2 (Hb is bs)) (locs bs.length)) _ = _
  rw [h1]
  exact congrArg (fun l => some (D.lst l)) (List.ext_getElem (by rw [List.length_map, List.length_map, List.length_range]) fun i h1 h2 => by
    rw [List.getElem_map, List.getElem_map, List.getElem_range, List.getElem?_eq_getElem (by rwa [List.length_map] at h2)]; rfl)
theorem c_law_blocks (w : WF is) (n : Nat) : ∃ H', callN ns fns (n + 5) 36 [.d (codeD is)] [] = some (.loc 0, H') ∧ frz 3 H' (.loc 0) = some (blocksD is) := by
  have hlen := w.len
  have hsl : (sts is 0).length ≤ is.length := by
    have := pigeon is.length (sts is 0) ((sts_rise is 0).imp fun h => Nat.ne_of_lt h) (fun x hx => w.lt hx)
    exact this
  obtain ⟨r, hr, h1, h2⟩ := blocks_eq w
  obtain ⟨x1, y1, c1, hl1⟩ := fst_loop (ns := ns) (H := []) w n (B := .d (.lst (natsD (bar is)))) (u := .undef) (sts is 0) [] [0] .undef .undef .undef rfl (by simp; omega)
  rw [show fstF is (sts is 0) [0] = firsts is from rfl] at hl1
  have hrl : r.length < 900 := by rw [hr] at hsl; simp at hsl; omega
  have h0 : 0 ∈ firsts is := by rw [firsts_mem w]; exact ⟨w.first, .inl rfl⟩
  obtain ⟨x2, hl2⟩ := blk_loop (ns := ns) w n (B := .d (.lst (natsD (bar is)))) (P := .d (.lst (natsD (sts is 0)))) (nm := x1) (lt := c1) r [0] [] 0 0 (.d (.int (0 : Nat))) hr (by simpa using hrl)
  refine ⟨Hb is (blocks is), callN_of (fd := ⟨1, 8, b_law_blocks⟩) (ρ := [.d (codeD is), .d (.lst (natsD (bar is))), .d (.lst (natsD (sts is 0))), .d (.lst (natsD (firsts is))), x1, x2, c1, .loc 0]) rfl rfl ?_, frz_Hb _⟩
  have hb := ev_bare (ns := ns) (H := []) (ρ := [.d (codeD is), .undef, .undef, .undef, .undef, .undef, .undef, .undef]) (ds := is.map fun i => D.int (enc i)) plain_code (n + 1) (by simp; omega) (x := .var 0) rfl
  refine seq_n (x_asg hb rfl) ?_
  refine seq_n (ρ' := [.d (codeD is), .d (.lst (natsD (bar is))), .d (.lst (natsD (sts is 0))), .undef, .undef, .undef, .undef, .undef]) (H' := []) ?_ ?_
  · have hlenv : ev ns (callN ns fns (n + 4)) (.len (.var 0)) [.d (codeD is), .d (.lst (natsD (bar is))), .undef, .undef, .undef, .undef, .undef, .undef] [] = some (.d (.int (is.length : Nat)), []) := x_len rfl (List.length_map ..)
    have hcl := comp_nats (H := []) (cond := fun v H => evB ns (callN ns fns (n + 4)) true (.cons (.cmp .notin (.var 8) (.var 1)) .nil) ([.d (codeD is), .d (.lst (natsD (bar is))), .undef, .undef, .undef, .undef, .undef, .undef] ++ [v]) H)
      (elt := fun v H => ev ns (callN ns fns (n + 4)) (.var 8) ([.d (codeD is), .d (.lst (natsD (bar is))), .undef, .undef, .undef, .undef, .undef, .undef] ++ [v]) H) (fun k => decide (k ∉ bar is)) (fun k => .int (k : Nat)) (List.range is.length)
      (fun k hk => x_last (x_cmp rfl rfl (notin_nats (bar is) k))) (fun k hk _ => rfl)
    rw [range_not_bar w, natsD_id, ← range_nats] at hcl
    have hbig : (0 : Int) ≤ (is.length : Nat) ∧ ((is.length : Nat) : Int) ≤ (big : Nat) := ⟨by omega, by have : big = 1000000 := rfl; omega⟩
    exact x_asg (ev_comp1 hlenv hbig hcl) rfl
  refine seq_n (ρ' := [.d (codeD is), .d (.lst (natsD (bar is))), .d (.lst (natsD (sts is 0))), .d (.lst (natsD [0])), .undef, .undef, .undef, .undef]) (H' := []) rfl ?_
  refine seq_n (ρ' := [.d (codeD is), .d (.lst (natsD (bar is))), .d (.lst (natsD (sts is 0))), .d (.lst (natsD (firsts is))), x1, y1, c1, .undef]) (H' := []) ?_ ?_
  · have : ev ns (callN ns fns (n + 4)) (.var 2) [.d (codeD is), .d (.lst (natsD (bar is))), .d (.lst (natsD (sts is 0))), .d (.lst (natsD [0])), .undef, .undef, .undef, .undef] [] = some (.d (.lst (natsD (sts is 0))), []) := rfl
    rw [exec_forE this (Nat.le_of_ble_eq_true rfl) (Nat.le_of_ble_eq_true rfl)]
    exact hl1
  refine seq_n (ρ' := [.d (codeD is), .d (.lst (natsD (bar is))), .d (.lst (natsD (sts is 0))), .d (.lst (natsD (firsts is))), x1, y1, c1, .loc 0]) (H' := Hb is []) rfl ?_
  refine seq_n (ρ' := [.d (codeD is), .d (.lst (natsD (bar is))), .d (.lst (natsD (sts is 0))), .d (.lst (natsD (firsts is))), x1, x2, c1, .loc 0]) (H' := Hb is (blocks is)) ?_ ?_
  · have : ev ns (callN ns fns (n + 4)) (.var 2) [.d (codeD is), .d (.lst (natsD (bar is))), .d (.lst (natsD (sts is 0))), .d (.lst (natsD (firsts is))), x1, y1, c1, .loc 0] (Hb is []) = some (.d (.lst (natsD (sts is 0))), Hb is []) := rfl
    rw [exec_forL this (Nat.le_of_ble_eq_true rfl)]
    show forLoop (fun v ρ H => exec ns (callN ns fns (n + 4)) body_blk (ρ.set 5 v) H) _ _ _ = _
    have e : (natsD (sts is 0)).map V.d = .d (.int (0 : Nat)) :: (natsD r).map V.d := by rw [hr]; rfl
    have hfirst := blk_new (ns := ns) w n w.zero h0 (B := .d (.lst (natsD (bar is)))) (P := .d (.lst (natsD (sts is 0)))) (nm := x1) (lt := c1) [] (by decide)
    rw [e, h2]
    exact for_cons hfirst hl2
  exact seq_r (x_ret rfl)
end Mine
end

/-! ### P9 -/
section
set_option tactic.hygienic false
set_option genSizeOf false
set_option bootstrap.genMatcherCode false
open PySem
set_option linter.unusedVariables false
set_option linter.unusedSimpArgs false
set_option maxRecDepth 100000
namespace Mine
variable {ns : List Int} {C : Calls'} {ρ ρ' : List V} {H H' : List O} {is : List I}

/-! ## leaders -/
theorem lat_int {k : Nat} {i : I} (e : is[k]? = some i) : lat is k = k + wl i := by unfold lat; rw [e]
theorem put_addK (l : List Nat) (k : Nat) : putI (k : Int) (.d (.bool true)) (seenD l) = seenD (addK l k) := by
  by_cases h : k ∈ l
  · unfold addK putI
    rw [if_pos h, if_pos]
    · unfold seenD
      rw [List.map_map]
      refine List.map_congr_left fun x _ => ?_
      simp only [Function.comp]
      split <;> rfl
    · rw [List.any_eq_true]
      exact ⟨((k : Int), .d (.bool true)), List.mem_map.mpr ⟨k, h, rfl⟩, by simp⟩
  · rw [put_seen h]; unfold addK; rw [if_neg h]
noncomputable def body_ld1 : S := match b_leaders with
  | .seq _ (.seq (.forL _ _ b) _) => b
  | _ => .skip
noncomputable def body_ld2 : S := .seq (.setI (.var 1) (.var 5) (.cst (.bool true))) .skip
theorem addK_len (l : List Nat) (k : Nat) : (addK l k).length ≤ l.length + 1 := by
  unfold addK; split <;> simp
theorem addAll_len : ∀ (r l : List Nat), (addAll l r).length ≤ l.length + r.length
  | [], l => by simp [addAll]
  | k :: r, l => by
    have := addAll_len r (addK l k)
    have := addK_len l k
    rw [addAll, List.length_cons]; omega
theorem put_in {acc : List Nat} {k : Nat} (hb : acc.length < 1000) : setIV [.dict (seenD acc)] (.d (.bool true)) (.loc 0) (.d (.int (k : Nat))) = some [.dict (seenD (addK acc k))] := by
  have hl : (seenD acc).length = acc.length := List.length_map ..
  have hB : big = 1000000 := rfl
  show oh (if (seenD acc).length < big then some (O.dict (putI (k : Int) (.d (.bool true)) (seenD acc))) else none) _ = _
  rw [if_pos (by omega), put_addK]; rfl
theorem ld2_loop {p : D} (r : List Nat) : ∀ (acc : List Nat) (a b c x : V), acc.length + r.length < 1000 → ∃ x', forLoop (fun v ρ H => exec ns C body_ld2 (ρ.set 5 v) H) ((natsD r).map .d) [.d p, .loc 0, a, b, c, x] [.dict (seenD acc)] = some (.next, [.d p, .loc 0, a, b, c, x'], [.dict (seenD (addAll acc r))]) := by
  induction r with
  | nil => exact fun acc a b c x _ => ⟨x, rfl⟩
  | cons k r ih =>
    intro acc a b c x hl
    rw [List.length_cons] at hl
    have := addK_len acc k
    obtain ⟨x', ih⟩ := ih (addK acc k) a b c (.d (.int (k : Nat))) (by omega)
    exact ⟨x', for_cons (seq_n (x_setI rfl rfl rfl (put_in (by omega))) rfl) ih⟩
theorem ld1_step {p : D} (P : Prg p is) (w : WF is) (n : Nat) {a : Nat} (hm : a ∈ sts is 0) {acc : List Nat} (hl : acc.length < 900) {b c x : V} :
    ∃ b' c' x', exec ns (callN ns fns (n + 5)) body_ld1 [.d p, .loc 0, .d (.int (a : Nat)), b, c, x] [.dict (seenD acc)] = some (.next, [.d p, .loc 0, .d (.int (a : Nat)), b', c', x'], [.dict (seenD (if nxt is a = [lat is a] then acc else addK (addAll acc (nxt is a)) (lat is a)))]) := by
  obtain ⟨i, e⟩ := w.at_ hm
  have hn := c_next (ns := ns) P n e (fun s hs => (w.jmp a s hm (hs ▸ e)).1)
  rw [← nxt_at e] at hn
  have hw := c_words_of (ns := ns) P (n + 2) e
  have hlat := lat_int e
  have hasg : exec ns (callN ns fns (n + 5)) (.asgT [3, 4] (.cons (.call 20 (.cons (.var 0) (.cons (.var 2) .nil))) (.cons (.bin .add (.var 2) (.call 17 (.cons (.var 0) (.cons (.var 2) .nil)))) .nil))) [.d p, .loc 0, .d (.int (a : Nat)), b, c, x] [.dict (seenD acc)] =
      some (.next, [.d p, .loc 0, .d (.int (a : Nat)), .d (.lst (natsD (nxt is a))), .d (.int (lat is a : Nat)), x], [.dict (seenD acc)]) := by
    exact x_asgT (x_cons (x_call (ds := [p, .int (a : Nat)]) (x_cons rfl (x_cons rfl rfl)) hn) (x_cons (x_bin rfl (x_call (ds := [p, .int (a : Nat)]) (x_cons rfl (x_cons rfl rfl)) hw) (by rw [hlat]; rfl)) rfl)) rfl
  have hcmp : ev ns (callN ns fns (n + 5)) (.cmp .ne (.var 3) (.list (.cons (.var 4) .nil))) [.d p, .loc 0, .d (.int (a : Nat)), .d (.lst (natsD (nxt is a))), .d (.int (lat is a : Nat)), x] [.dict (seenD acc)] = some (.d (.bool (!decide (nxt is a = [lat is a]))), [.dict (seenD acc)]) := by
    exact x_cmp rfl (x_list (ds := [.int (lat is a : Nat)]) (x_cons rfl rfl)) (ne_nats (nxt is a) [lat is a])
  by_cases he : nxt is a = [lat is a]
  · rw [decide_eq_true he] at hcmp
    rw [if_pos he]
    refine ⟨.d (.lst (natsD (nxt is a))), .d (.int (lat is a : Nat)), x, seq_n hasg (seq_n (ρ' := [.d p, .loc 0, .d (.int (a : Nat)), .d (.lst (natsD (nxt is a))), .d (.int (lat is a : Nat)), x]) (H' := [.dict (seenD acc)]) (ifs_f hcmp ?_) ?_)⟩
    · exact rfl
    · exact rfl
  · rw [decide_eq_false he] at hcmp
    rw [if_neg he]
    have hnl := nxt_len (is := is) a
    obtain ⟨x', h2⟩ := ld2_loop (ns := ns) (C := callN ns fns (n + 5)) (p := p) (nxt is a) acc (.d (.int (a : Nat))) (.d (.lst (natsD (nxt is a)))) (.d (.int (lat is a : Nat))) x (by omega)
    refine ⟨.d (.lst (natsD (nxt is a))), .d (.int (lat is a : Nat)), x', seq_n hasg (seq_n (ρ' := [.d p, .loc 0, .d (.int (a : Nat)), .d (.lst (natsD (nxt is a))), .d (.int (lat is a : Nat)), x']) (H' := [.dict (seenD (addK (addAll acc (nxt is a)) (lat is a)))]) (ifs_t hcmp (seq_n (ρ' := [.d p, .loc 0, .d (.int (a : Nat)), .d (.lst (natsD (nxt is a))), .d (.int (lat is a : Nat)), x']) (H' := [.dict (seenD (addAll acc (nxt is a)))]) ?_ (seq_n (ρ' := [.d p, .loc 0, .d (.int (a : Nat)), .d (.lst (natsD (nxt is a))), .d (.int (lat is a : Nat)), x']) (H' := [.dict (seenD (addK (addAll acc (nxt is a)) (lat is a)))]) ?_ rfl))) rfl)⟩
    · rw [exec_forL (xs := natsD (nxt is a)) (H' := [.dict (seenD acc)]) rfl (Nat.le_of_ble_eq_true rfl)]
      exact h2
    · have := addAll_len (nxt is a) acc
      exact x_setI rfl rfl rfl (put_in (by omega))
theorem ld1_loop {p : D} (P : Prg p is) (w : WF is) (n : Nat) : ∀ (r A acc : List Nat) (a b c x : V), sts is 0 = A ++ r → acc.length + 4 * r.length < 900 → ∃ a' b' c' x', forLoop (fun v ρ H => exec ns (callN ns fns (n + 5)) body_ld1 (ρ.set 2 v) H) ((natsD r).map .d) [.d p, .loc 0, a, b, c, x] [.dict (seenD acc)] =
    some (.next, [.d p, .loc 0, a', b', c', x'], [.dict (seenD (keysF is r acc))])
  | [], A, acc, a, b, c, x, _, _ => ⟨a, b, c, x, rfl⟩
  | k :: r, A, acc, a, b, c, x, h, hl => by
    have hm : k ∈ sts is 0 := by rw [h]; simp
    simp only [List.length_cons] at hl
    obtain ⟨b', c', x', hs⟩ := ld1_step (ns := ns) P w n hm (acc := acc) (by omega) (b := b) (c := c) (x := x)
    have h1 := nxt_len (is := is) k
    have h2 := addAll_len (nxt is k) acc
    have h3 := addK_len (addAll acc (nxt is k)) (lat is k)
    obtain ⟨a2, b2, c2, x2, ih⟩ := ld1_loop P w n r (A ++ [k]) (if nxt is k = [lat is k] then acc else addK (addAll acc (nxt is k)) (lat is k)) (.d (.int (k : Nat))) b' c' x' (by rw [h]; simp) (by split <;> omega)
    exact ⟨a2, b2, c2, x2, (for_cons hs ih).trans (by rw [apply_ite (keysF is r)]; rfl)⟩
theorem sts_len (w : WF is) : (sts is 0).length ≤ is.length :=
  pigeon is.length (sts is 0) ((sts_rise is 0).imp fun h => Nat.ne_of_lt h) (fun x hx => w.lt hx)
theorem sorted_keys (w : WF is) : sortI (((keys is).filter fun k => decide (k < is.length)).map fun (k : Nat) => (k : Int)) = (lds is).map fun (k : Nat) => (k : Int) := by
  have hnd : ((keys is).filter fun k => decide (k < is.length)).Nodup := (keysF_nodup (sts is 0) [0] (by simp)).filter _
  have hp := sortI_perm (((keys is).filter fun k => decide (k < is.length)).map fun (k : Nat) => (k : Int))
  have hs := sortI_sorted (((keys is).filter fun k => decide (k < is.length)).map fun (k : Nat) => (k : Int))
  -- back to places
  have hnn : ∀ x ∈ sortI (((keys is).filter fun k => decide (k < is.length)).map fun (k : Nat) => (k : Int)), 0 ≤ x := fun x hx => by
    obtain ⟨k, _, rfl⟩ := List.mem_map.mp (hp.mem_iff.mp hx)
    omega
  have e1 : (sortI (((keys is).filter fun k => decide (k < is.length)).map fun (k : Nat) => (k : Int))).map Int.toNat = lds is := by
    refine strict_ext ?_ lds_rise fun x => ?_
    · have hnd2 : (sortI (((keys is).filter fun k => decide (k < is.length)).map fun (k : Nat) => (k : Int))).Nodup := by
        refine hp.nodup_iff.mpr ?_
        unfold List.Nodup
        rw [List.pairwise_map]
        exact hnd.imp fun h z => h (by omega)
      rw [List.pairwise_map]
      refine (hs.and hnd2).imp_of_mem fun {a b} ha hb hab => ?_
      have := hnn a ha
      have := hnn b hb
      omega
    · rw [lds_mem w, List.mem_map]
      constructor
      · rintro ⟨y, hy, rfl⟩
        obtain ⟨k, hk, rfl⟩ := List.mem_map.mp (hp.mem_iff.mp hy)
        rw [List.mem_filter, decide_eq_true_eq] at hk
        simp only [Int.toNat_natCast]
        exact ⟨hk.2, (keys_mem _).mp hk.1⟩
      · rintro ⟨h1, h2⟩
        refine ⟨(x : Int), hp.mem_iff.mpr (List.mem_map.mpr ⟨x, ?_, rfl⟩), by simp⟩
        rw [List.mem_filter, decide_eq_true_eq]
        exact ⟨(keys_mem _).mpr h2, h1⟩
  rw [← e1, List.map_map]
  symm
  conv => rhs; rw [← List.map_id (sortI _)]
  refine List.map_congr_left fun x hx => ?_
  simp only [Function.comp, id]
  exact Int.toNat_of_nonneg (hnn x hx)
theorem c_leaders {p : D} (P : Prg p is) (w : WF is) (n : Nat) : ∃ H', callN ns fns (n + 6) 21 [.d p] [] = some (.d (.lst (natsD (lds is))), H') := by
  have hlen := w.len
  have hsl := sts_len w
  obtain ⟨a, b, c, x, hl⟩ := ld1_loop (ns := ns) P w n (sts is 0) [] [0] .undef .undef .undef .undef rfl (by simp; omega)
  rw [show keysF is (sts is 0) [0] = keys is from rfl] at hl
  have hst := ev_starts (ns := ns) (H := [.dict (seenD [0])]) (ρ := [.d p, .loc 0, .undef, .undef, .undef, .undef]) P (n + 1) (by omega) (x := .var 0) rfl
  refine ⟨[.dead], callN_of (fd := ⟨1, 6, b_leaders⟩) (ρ := [.d p, .loc 0, a, b, c, x]) rfl rfl ?_⟩
  refine seq_n (ρ' := [.d p, .loc 0, .undef, .undef, .undef, .undef]) (H' := [.dict (seenD [0])]) rfl ?_
  refine seq_n (ρ' := [.d p, .loc 0, a, b, c, x]) (H' := [.dict (seenD (keys is))]) ?_ ?_
  · rw [exec_forL hst (Nat.le_of_ble_eq_true rfl)]
    exact hl
  refine seq_r ?_
  have hcl := comp_nats (H := [.dead]) (cond := fun v H => evB ns (callN ns fns (n + 5)) true (.cons (.cmp .lt (.var 6) (.len (.attr (.var 0) 6))) .nil) ([.d p, .loc 0, a, b, c, x] ++ [v]) H)
    (elt := fun v H => ev ns (callN ns fns (n + 5)) (.var 6) ([.d p, .loc 0, a, b, c, x] ++ [v]) H) (fun k => decide (k < is.length)) (fun k => .int (k : Nat)) (keys is)
    (fun k hk => x_last (x_cmp rfl (x_len (x_attr rfl (P.code _)) (List.length_map ..)) (congrArg some (decide_eq_decide.mpr Int.ofNat_lt)))) (fun k hk _ => rfl)
  have hit : iterV [.dict (seenD (keys is))] 2 (.loc 0) = some ((natsD (keys is)).map .d, [.dead]) := by
    show some ((seenD (keys is)).map _, [O.dead]) = _
    unfold seenD natsD
    rw [List.map_map, List.map_map]; rfl
  have hk : ((keys is).filter fun k => decide (k < is.length)).length < 64 := by
    have hnd : ((keys is).filter fun k => decide (k < is.length)).Nodup := (keysF_nodup (sts is 0) [0] (by simp)).filter _
    have := pigeon is.length _ hnd (fun x hx => by rw [List.mem_filter, decide_eq_true_eq] at hx; exact hx.2)
    omega
  have hcomp : ev ns (callN ns fns (n + 5)) (.comp 2 (.var 1) (.cons (.cmp .lt (.var 6) (.len (.attr (.var 0) 6))) .nil) (.var 6)) [.d p, .loc 0, a, b, c, x] [.dict (seenD (keys is))] = some (.d (.lst (natsD ((keys is).filter fun k => decide (k < is.length)))), [.dead]) := by
    rw [ev_comp_eq, show ev ns (callN ns fns (n + 5)) (.var 1) [.d p, .loc 0, a, b, c, x] [.dict (seenD (keys is))] = some (.loc 0, [.dict (seenD (keys is))]) from rfl, vh_some, hit, vh_some, hcl]; rfl
  have hlen2 : (((keys is).filter fun k => decide (k < is.length)).map fun (k : Nat) => (k : Int)).length < 64 := by rw [List.length_map]; exact hk
  have hsrt : ev ns (callN ns fns (n + 5)) (.sorted (.comp 2 (.var 1) (.cons (.cmp .lt (.var 6) (.len (.attr (.var 0) 6))) .nil) (.var 6))) [.d p, .loc 0, a, b, c, x] [.dict (seenD (keys is))] = some (.d (.lst (natsD (lds is))), [.dead]) := by
    rw [ev_sorted_eq, hcomp, lh_some, intsOf_nats, oh_some, if_pos hlen2, sorted_keys w, List.map_map]; rfl
  exact x_ret hsrt
end Mine
end

/-! ### P10 -/
section
set_option tactic.hygienic false
set_option genSizeOf false
set_option bootstrap.genMatcherCode false
open PySem
set_option linter.unusedVariables false
set_option linter.unusedSimpArgs false
set_option maxRecDepth 100000
namespace Mine
variable {ns : List Int} {C : Calls'} {ρ ρ' : List V} {H H' : List O} {is : List I}

/-! ## numbers of places -/
noncomputable def numsD : List Nat → Nat → List (Int × V)
  | [], _ => []
  | x :: r, i => ((x : Int), .d (.int (i : Nat))) :: numsD r (i + 1)
theorem nums_snoc : ∀ (A : List Nat) (i x : Nat), numsD (A ++ [x]) i = numsD A i ++ [((x : Int), .d (.int ((i + A.length : Nat))))]
  | [], i, x => by simp [numsD]
  | y :: A, i, x => by
    have := nums_snoc A (i + 1) x
    simp only [List.cons_append, numsD, this, List.length_cons]
    have e : i + 1 + A.length = i + (A.length + 1) := by omega
    rw [e]
theorem nums_any : ∀ (A : List Nat) (i x : Nat), (numsD A i).any (fun p => decide (p.1 = (x : Int))) = decide (x ∈ A)
  | [], i, x => by simp [numsD]
  | y :: A, i, x => by
    rw [numsD, List.any_cons, nums_any A (i + 1) x]
    by_cases h : y = x
    · subst h; simp
    · have h1 : ¬ ((y : Int) = (x : Int)) := by omega
      have h2 : ¬ (x = y) := fun z => h z.symm
      simp [h1, h2]
theorem nums_put {A : List Nat} {x : Nat} (h : x ∉ A) : putI (x : Int) (.d (.int (A.length : Nat))) (numsD A 0) = numsD (A ++ [x]) 0 := by
  unfold putI
  rw [nums_any, decide_eq_false h]
  rw [nums_snoc]
  simp
theorem nums_len : ∀ (A : List Nat) (i : Nat), (numsD A i).length = A.length
  | [], _ => rfl
  | x :: A, i => by simp [numsD, nums_len A (i + 1)]
theorem nums_look : ∀ (L : List Nat) (i x : Nat), (x ∈ L → ∃ j, L[j]? = some x ∧ lookI (x : Int) (numsD L i) = some (.d (.int ((i + j : Nat))))) ∧ (x ∉ L → lookI (x : Int) (numsD L i) = none)
  | [], i, x => ⟨fun h => (nomatch h), fun _ => rfl⟩
  | y :: L, i, x => by
    obtain ⟨h1, h2⟩ := nums_look L (i + 1) x
    rw [numsD, lookI]
    by_cases hxy : (x : Int) = (y : Int)
    · have : x = y := by omega
      subst this
      rw [if_pos rfl]
      exact ⟨fun _ => ⟨0, rfl, rfl⟩, fun h => absurd List.mem_cons_self h⟩
    · rw [if_neg hxy]
      have hne : x ≠ y := fun z => hxy (by rw [z])
      refine ⟨fun h => ?_, fun h => h2 fun z => h (List.mem_cons_of_mem _ z)⟩
      rcases List.mem_cons.mp h with e | h
      · exact absurd e hne
      · obtain ⟨j, e1, e2⟩ := h1 h
        refine ⟨j + 1, by simpa using e1, ?_⟩
        rw [e2]
        have : i + 1 + j = i + (j + 1) := by omega
        rw [this]
noncomputable def ixOf (L : List Nat) (x : Nat) : Nat := match lookI (x : Int) (numsD L 0) with
  | some (.d (.int j)) => j.toNat
  | _ => 0
theorem ix_ok {L : List Nat} {x : Nat} (h : x ∈ L) : lookI (x : Int) (numsD L 0) = some (.d (.int (ixOf L x : Nat))) ∧ L[ixOf L x]? = some x := by
  obtain ⟨j, e1, e2⟩ := (nums_look L 0 x).1 h
  have : ixOf L x = j := by unfold ixOf; rw [e2]; simp
  rw [this]
  exact ⟨by rw [e2]; simp, e1⟩

/-! ## basic_blocks -/
theorem c_block_init (n : Nat) (a b c : D) : callN ns fns (n + 1) 16 [.loc 0, .d a, .d b, .d c] [.obj 2 []] = some (.d .none, [.obj 2 [.d a, .d b, .d c]]) := by
  refine callN_next (fd := ⟨4, 4, b_Block_init⟩) (ρ := [.loc 0, .d a, .d b, .d c]) rfl rfl ?_
  kernel_rfl
noncomputable def blkD (is : List I) (L : List Nat) (q : Nat × Nat) : D := .obj 2 [.int (q.1 : Nat), .int (q.2 : Nat), .lst (natsD ((nxt is q.2).map (ixOf L)))]
noncomputable def body_bb1 : S := match b_basic_blocks with
  | .seq _ (.seq (.forE _ _ _ b) _) => b
  | _ => .skip
noncomputable def body_bb2 : S := match b_basic_blocks with
  | .seq _ (.seq _ (.seq (.forE _ _ _ b) _)) => b
  | _ => .skip
theorem bb1_loop {L : List Nat} (hn : L.Nodup) (hl : L.length < 1000) {a b c d1 d2 d3 d4 : V} {F : O} : ∀ (r A : List Nat) (x y : V), L = A ++ r → ∃ x' y', forLoopE (fun k v ρ H => exec ns C body_bb1 ((ρ.set 5 (.d (.int (k : Nat)))).set 6 v) H) A.length ((natsD r).map .d) [a, b, c, .loc 0, .loc 1, x, y, d1, d2, d3, d4] [F, .dict (numsD A 0)] =
    some (.next, [a, b, c, .loc 0, .loc 1, x', y', d1, d2, d3, d4], [F, .dict (numsD L 0)])
  | [], A, x, y, h => ⟨x, y, by rw [h, List.append_nil]; rfl⟩
  | k :: r, A, x, y, h => by
    have hk : k ∉ A := by
      rw [h, List.nodup_append] at hn
      exact fun z => hn.2.2 k z k List.mem_cons_self rfl
    obtain ⟨x', y', ih⟩ := bb1_loop (a := a) (b := b) (c := c) (d1 := d1) (d2 := d2) (d3 := d3) (d4 := d4) (F := F) hn hl r (A ++ [k]) (.d (.int (A.length : Nat))) (.d (.int (k : Nat))) (by rw [h]; simp)
    have hb : (numsD A 0).length < big := by
      rw [nums_len]
      have : big = 1000000 := rfl
      rw [h, List.length_append] at hl
      omega
    have hs : setIV [F, .dict (numsD A 0)] (.d (.int (A.length : Nat))) (.loc 1) (.d (.int (k : Nat))) = some [F, .dict (numsD (A ++ [k]) 0)] := by
      show oh (if (numsD A 0).length < big then some (O.dict (putI (k : Int) (.d (.int (A.length : Nat))) (numsD A 0))) else none) _ = _
      rw [if_pos hb, nums_put hk]; rfl
    rw [show (A ++ [k]).length = A.length + 1 from List.length_append] at ih
    exact ⟨x', y', forE_cons (seq_n (x_setI rfl rfl rfl hs) rfl) ih⟩
theorem idx_neg {l : List Nat} {x : Nat} (h : l.getLast? = some x) : idxV H (.d (.lst (natsD l))) (.d (.int (-1))) = some (.d (.int (x : Nat))) := by
  have hne : l ≠ [] := fun z => by rw [z] at h; cases h
  have hl : 0 < l.length := List.length_pos_iff.mpr hne
  show oh (at? (natsD l).length (-1)) (fun k => ((natsD l)[k]?).map V.d) = _
  rw [natsD_len, at_neg hl]
  show ((natsD l)[l.length - 1]?).map V.d = _
  rw [List.getLast?_eq_getElem?] at h
  unfold natsD
  rw [List.getElem?_map, h]; rfl
theorem x_cmp2 {o1 o2 : Cm} {x y z : X} {u v w : V} {a b : Bool} (h1 : ev ns C x ρ H = some (u, H)) (h2 : ev ns C y ρ H = some (v, H)) (h3 : cmpV H o1 u v = some a) (h4 : ev ns C z ρ H = some (w, H)) (h5 : cmpV H o2 v w = some b) : ev ns C (.cmp2 o1 o2 x y z) ρ H = some (.d (.bool (a && b)), H) := by
  rw [ev_cmp2_eq, h1, vh_some, h2, vh_some, h3]
  cases a with
  | true =>
    show vh (ev ns C z ρ H) _ = _
    rw [h4, vh_some, h5]; rfl
  | false => rfl
theorem comp_all {α : Type} {cond elt : V → List O → Option (V × List O)} (f g : α → D) (l : List α) {xs : List D} (he : l.map g = xs) (h1 : ∀ d ∈ l, cond (.d (f d)) H = some (.d (.bool true), H)) (h2 : ∀ d ∈ l, elt (.d (f d)) H = some (.d (g d), H)) :
    compLoop cond elt ((l.map f).map .d) H = some (xs, H) := by
  have := comp_map f (fun _ => true) g l h1 fun d hd _ => h2 d hd
  rwa [List.filter_eq_self.mpr fun _ _ => rfl, he] at this
theorem comp_allD {cond elt : V → List O → Option (V × List O)} (g : D → D) (l : List D) (h1 : ∀ d ∈ l, cond (.d d) H = some (.d (.bool true), H)) (h2 : ∀ d ∈ l, elt (.d d) H = some (.d (g d), H)) : compLoop cond elt (l.map .d) H = some (l.map g, H) := by
  have := comp_all (fun d => d) g l rfl h1 h2
  rwa [List.map_id'] at this
theorem nums_idx {L : List Nat} {x : Nat} {o : O} (h : x ∈ L) : idxV [o, .dict (numsD L 0)] (.loc 1) (.d (.int (x : Nat))) = some (.d (.int (ixOf L x : Nat))) := (ix_ok h).1
theorem nums_in {L : List Nat} {x : Nat} {o : O} (h : x ∈ L) : cmpV [o, .dict (numsD L 0)] .isin (.d (.int (x : Nat))) (.loc 1) = some true := by
  show some (lookI (x : Int) (numsD L 0)).isSome = _
  rw [(ix_ok h).1]; rfl
theorem bb2_step {p : D} (P : Prg p is) (w : WF is) (n : Nat) {A r : List Nat} {f : Nat} (h : lds is = A ++ f :: r) (hnx : ∀ x ∈ nxt is (lastOf is f (r.head?.getD is.length)), x ∈ lds is) {acc : List D} (hacc : acc.length < 1000) {y d2 d3 d4 : V} :
    ∃ d2' d3' d4', exec ns (callN ns fns (n + 6)) body_bb2 [.d p, .d (.lst (natsD (lds is))), .d (.lst (natsD (sts is 0))), .loc 0, .loc 1, .d (.int (A.length : Nat)), y, .d (.int (f : Nat)), d2, d3, d4] [.lst (acc.map .d), .dict (numsD (lds is) 0)] =
      some (.next, [.d p, .d (.lst (natsD (lds is))), .d (.lst (natsD (sts is 0))), .loc 0, .loc 1, .d (.int (A.length : Nat)), y, .d (.int (f : Nat)), d2', d3', d4'], [.lst ((acc ++ [blkD is (lds is) (f, lastOf is f (r.head?.getD is.length))]).map .d), .dict (numsD (lds is) 0)]) := by
  have hf : f ∈ lds is := by rw [h]; simp
  have hfs : f ∈ sts is 0 := (List.mem_filter.mp hf).1
  have hrise := lds_rise (is := is)
  rw [h] at hrise
  have hr2 := (List.pairwise_cons.mp (List.pairwise_append.mp hrise).2.1).1
  have hfe : f < r.head?.getD is.length := by
    cases r with
    | nil => exact w.lt hfs
    | cons e r => exact hr2 e List.mem_cons_self
  generalize he : r.head?.getD is.length = e at *
  have hlast : ((sts is 0).filter fun x => decide (f ≤ x) && decide (x < e)).getLast? = some (lastOf is f e) := by
    unfold lastOf
    cases hg : ((sts is 0).filter fun x => decide (f ≤ x) && decide (x < e)).getLast? with
    | some z => rfl
    | none =>
      rw [List.getLast?_eq_none_iff, List.filter_eq_nil_iff] at hg
      exact absurd (by simp [hfe]) (hg f hfs)
  have hlm : lastOf is f e ∈ sts is 0 := (List.mem_filter.mp (List.mem_of_getLast? hlast)).1
  generalize hlo : lastOf is f e = l at *
  obtain ⟨i, ei⟩ := w.at_ hlm
  have hn := c_next (ns := ns) P (n + 1) ei (fun s hs => (w.jmp l s hlm (hs ▸ ei)).1)
  rw [← nxt_at ei] at hn
  -- the end
  have h8 : exec ns (callN ns fns (n + 6)) (.asg 8 (.ite (.cmp .lt (.bin .add (.var 5) (.cst (.int 1))) (.len (.var 1))) (.idx (.var 1) (.bin .add (.var 5) (.cst (.int 1)))) (.len (.attr (.var 0) 6)))) [.d p, .d (.lst (natsD (lds is))), .d (.lst (natsD (sts is 0))), .loc 0, .loc 1, .d (.int (A.length : Nat)), y, .d (.int (f : Nat)), d2, d3, d4] [.lst (acc.map .d), .dict (numsD (lds is) 0)] =
      some (.next, [.d p, .d (.lst (natsD (lds is))), .d (.lst (natsD (sts is 0))), .loc 0, .loc 1, .d (.int (A.length : Nat)), y, .d (.int (f : Nat)), .d (.int (e : Nat)), d3, d4], [.lst (acc.map .d), .dict (numsD (lds is) 0)]) := by
    have hL : (natsD (lds is)).length = A.length + 1 + r.length := by rw [natsD_len, h, List.length_append, List.length_cons]; omega
    cases r with
    | nil =>
      subst he
      rw [List.length_nil] at hL
      exact x_asg (x_ite_f (x_cmp (x_bin rfl rfl rfl) (x_len rfl hL) (congrArg some (dec_nlt (Nat.lt_irrefl _)))) (x_len (x_attr rfl (P.code _)) (List.length_map ..))) rfl
    | cons e' r' =>
      subst he
      rw [List.length_cons] at hL
      exact x_asg (x_ite_t (x_cmp (x_bin rfl rfl rfl) (x_len rfl hL) (congrArg some (dec_lt (a := A.length + 1) (b := A.length + 1 + (r'.length + 1)) (by omega)))) (x_idx rfl (x_bin rfl rfl rfl) (idx_lst (k := A.length + 1) (by unfold natsD; rw [h, List.getElem?_map, List.getElem?_append_right (Nat.le_succ _), Nat.succ_sub (Nat.le_refl _), Nat.sub_self]; rfl)))) rfl
  -- the last
  have h9 : exec ns (callN ns fns (n + 6)) (.asg 9 (.idx (.comp 0 (.var 2) (.cons (.cmp2 .le .lt (.var 7) (.var 11) (.var 8)) .nil) (.var 11)) (.cst (.int (-1))))) [.d p, .d (.lst (natsD (lds is))), .d (.lst (natsD (sts is 0))), .loc 0, .loc 1, .d (.int (A.length : Nat)), y, .d (.int (f : Nat)), .d (.int (e : Nat)), d3, d4] [.lst (acc.map .d), .dict (numsD (lds is) 0)] =
      some (.next, [.d p, .d (.lst (natsD (lds is))), .d (.lst (natsD (sts is 0))), .loc 0, .loc 1, .d (.int (A.length : Nat)), y, .d (.int (f : Nat)), .d (.int (e : Nat)), .d (.int (l : Nat)), d4], [.lst (acc.map .d), .dict (numsD (lds is) 0)]) := by
    exact x_asg (x_idx (ev_comp0 rfl (comp_nats (fun x => decide (f ≤ x) && decide (x < e)) (fun k => .int (k : Nat)) (sts is 0) (fun k hk => x_last (x_cmp2 rfl rfl (congrArg some (decide_eq_decide.mpr Int.ofNat_le)) rfl (congrArg some (decide_eq_decide.mpr Int.ofNat_lt)))) (fun k hk _ => rfl))) rfl (idx_neg hlast)) rfl
  -- where to
  have h10 : exec ns (callN ns fns (n + 6)) (.asg 10 (.comp 0 (.call 20 (.cons (.var 0) (.cons (.var 9) .nil))) (.cons (.cmp .isin (.var 11) (.var 4)) .nil) (.idx (.var 4) (.var 11)))) [.d p, .d (.lst (natsD (lds is))), .d (.lst (natsD (sts is 0))), .loc 0, .loc 1, .d (.int (A.length : Nat)), y, .d (.int (f : Nat)), .d (.int (e : Nat)), .d (.int (l : Nat)), d4] [.lst (acc.map .d), .dict (numsD (lds is) 0)] =
      some (.next, [.d p, .d (.lst (natsD (lds is))), .d (.lst (natsD (sts is 0))), .loc 0, .loc 1, .d (.int (A.length : Nat)), y, .d (.int (f : Nat)), .d (.int (e : Nat)), .d (.int (l : Nat)), .d (.lst (natsD ((nxt is l).map (ixOf (lds is)))))], [.lst (acc.map .d), .dict (numsD (lds is) 0)]) := by
    exact x_asg (ev_comp0 (x_call (ds := [p, .int (l : Nat)]) (x_cons rfl (x_cons rfl rfl)) hn) (comp_all (fun k : Nat => .int (k : Nat)) (fun k => .int (ixOf (lds is) k : Nat)) (nxt is l) (by unfold natsD; rw [List.map_map]; rfl) (fun k hk => x_last (x_cmp rfl rfl (nums_in (hnx k hk)))) (fun k hk => x_idx rfl rfl (nums_idx (hnx k hk))))) rfl
  have hb : (acc.map V.d).length < big := by have : big = 1000000 := rfl; rw [List.length_map]; omega
  have hni := c_block_init (ns := ns) (n + 5) (.int (f : Nat)) (.int (l : Nat)) (.lst (natsD ((nxt is l).map (ixOf (lds is)))))
  refine ⟨.d (.int (e : Nat)), .d (.int (l : Nat)), .d (.lst (natsD ((nxt is l).map (ixOf (lds is))))), seq_n h8 (seq_n h9 (seq_n h10 (seq_n ((x_app (l := 0) rfl rfl (x_new (ds := [.int (f : Nat), .int (l : Nat), .lst (natsD ((nxt is l).map (ixOf (lds is))))]) (x_cons rfl (x_cons rfl (x_cons rfl rfl))) hni rfl) rfl hb)) ?_)))⟩
  rw [List.map_append]
  rfl
theorem bb2_loop {p : D} (P : Prg p is) (w : WF is) (n : Nat) : ∀ (r A : List Nat) (acc : List D) (x d1 d2 d3 d4 y : V), lds is = A ++ r → (∀ q ∈ bbF is r, ∀ x ∈ nxt is q.2, x ∈ lds is) → acc.length + r.length < 1000 →
    ∃ x' d1' d2' d3' d4', forLoopE (fun k v ρ H => exec ns (callN ns fns (n + 6)) body_bb2 ((ρ.set 5 (.d (.int (k : Nat)))).set 7 v) H) A.length ((natsD r).map .d) [.d p, .d (.lst (natsD (lds is))), .d (.lst (natsD (sts is 0))), .loc 0, .loc 1, x, y, d1, d2, d3, d4] [.lst (acc.map .d), .dict (numsD (lds is) 0)] =
      some (.next, [.d p, .d (.lst (natsD (lds is))), .d (.lst (natsD (sts is 0))), .loc 0, .loc 1, x', y, d1', d2', d3', d4'], [.lst ((acc ++ (bbF is r).map (blkD is (lds is))).map .d), .dict (numsD (lds is) 0)])
  | [], A, acc, x, d1, d2, d3, d4, y, h, _, _ => ⟨x, d1, d2, d3, d4, by rw [show bbF is [] = [] from rfl, List.map_nil, List.append_nil]; rfl⟩
  | f :: r, A, acc, x, d1, d2, d3, d4, y, h, hq, hl => by
    simp only [List.length_cons] at hl
    obtain ⟨d2a, d3a, d4a, hs⟩ := bb2_step (ns := ns) P w n h (hq _ (by rw [bbF]; exact List.mem_cons_self)) (acc := acc) (by omega) (y := y) (d2 := d2) (d3 := d3) (d4 := d4)
    obtain ⟨x', d1', d2', d3', d4', ih⟩ := bb2_loop P w n r (A ++ [f]) (acc ++ [blkD is (lds is) (f, lastOf is f (r.head?.getD is.length))]) (.d (.int (A.length : Nat))) (.d (.int (f : Nat))) d2a d3a d4a y (by rw [h]; simp) (fun q hq' => hq q (by rw [bbF]; exact List.mem_cons_of_mem _ hq')) (by simp; omega)
    rw [show (A ++ [f]).length = A.length + 1 from List.length_append] at ih
    exact ⟨x', d1', d2', d3', d4', (forE_cons hs ih).trans (by rw [List.append_assoc]; rfl)⟩
theorem lds_len (w : WF is) : (lds is).length ≤ is.length :=
  pigeon is.length (lds is) (lds_rise.imp fun h => Nat.ne_of_lt h) (fun x hx => ((lds_mem w x).mp hx).1)
theorem c_blocks {p : D} (P : Prg p is) (w : WF is) (n : Nat) : ∃ H', callN ns fns (n + 7) 22 [.d p] [] = some (.loc 0, H') ∧ frz 3 H' (.loc 0) = some (.lst ((blocks is).map (blkD is (lds is)))) := by
  have hlen := w.len
  have hll := lds_len w
  obtain ⟨H1, hld⟩ := c_leaders (ns := ns) P w n
  have hst := ev_starts (ns := ns) (H := []) (ρ := [.d p, .undef, .undef, .undef, .undef, .undef, .undef, .undef, .undef, .undef, .undef]) P (n + 2) (by omega) (x := .var 0) rfl
  have hld' : ev ns (callN ns fns (n + 6)) (.call 21 (.cons (.var 0) .nil)) [.d p, .undef, .undef, .undef, .undef, .undef, .undef, .undef, .undef, .undef, .undef] [] = some (.d (.lst (natsD (lds is))), []) := by
    exact x_callF (ds := [p]) (x_cons rfl rfl) hld rfl
  obtain ⟨x1, y1, hl1⟩ := bb1_loop (ns := ns) (C := callN ns fns (n + 6)) (L := lds is) (lds_rise.imp fun h => Nat.ne_of_lt h) (by omega) (a := .d p) (b := .d (.lst (natsD (lds is)))) (c := .d (.lst (natsD (sts is 0)))) (d1 := .undef) (d2 := .undef) (d3 := .undef) (d4 := .undef) (F := .lst []) (lds is) [] .undef .undef rfl
  obtain ⟨x2, e1, e2, e3, e4, hl2⟩ := bb2_loop (ns := ns) P w n (lds is) [] [] x1 .undef .undef .undef .undef y1 rfl (blocks_next w) (by simp; omega)
  refine ⟨_, callN_of (fd := ⟨1, 11, b_basic_blocks⟩) (ρ := [.d p, .d (.lst (natsD (lds is))), .d (.lst (natsD (sts is 0))), .loc 0, .loc 1, x2, y1, e1, e2, e3, e4]) (H' := [.lst (((blocks is).map (blkD is (lds is))).map .d), .dict (numsD (lds is) 0)]) rfl rfl ?_, ?_⟩
  · refine seq_n (ρ' := [.d p, .d (.lst (natsD (lds is))), .d (.lst (natsD (sts is 0))), .loc 0, .loc 1, .undef, .undef, .undef, .undef, .undef, .undef]) (H' := [.lst [], .dict []]) ?_ ?_
    · have hlist : ∀ H : List O, evs ns (callN ns fns (n + 6)) (.cons (.listM .nil) (.cons (.dictM []) .nil)) [.d p, .undef, .undef, .undef, .undef, .undef, .undef, .undef, .undef, .undef, .undef] [] = some ([.loc 0, .loc 1], [.lst [], .dict []]) := fun H => rfl
      have hevs : evs ns (callN ns fns (n + 6)) (.cons (.call 21 (.cons (.var 0) .nil)) (.cons (.call 18 (.cons (.var 0) .nil)) (.cons (.listM .nil) (.cons (.dictM []) .nil)))) [.d p, .undef, .undef, .undef, .undef, .undef, .undef, .undef, .undef, .undef, .undef] [] = some ([.d (.lst (natsD (lds is))), .d (.lst (natsD (sts is 0))), .loc 0, .loc 1], [.lst [], .dict []]) := by
        have hst' : ev ns (callN ns fns (n + 6)) (.call 18 (.cons (.var 0) .nil)) [.d p, .undef, .undef, .undef, .undef, .undef, .undef, .undef, .undef, .undef, .undef] [] = some (.d (.lst (natsD (sts is 0))), []) := hst
        have h3 := hlist []
        exact x_cons hld' (x_cons hst' h3)
      exact x_asgT hevs rfl
    refine seq_n (ρ' := [.d p, .d (.lst (natsD (lds is))), .d (.lst (natsD (sts is 0))), .loc 0, .loc 1, x1, y1, .undef, .undef, .undef, .undef]) (H' := [.lst [], .dict (numsD (lds is) 0)]) ?_ ?_
    · rw [exec_forE (xs := natsD (lds is)) (H' := [.lst [], .dict []]) rfl (Nat.le_of_ble_eq_true rfl) (Nat.le_of_ble_eq_true rfl)]
      exact hl1
    refine seq_n (ρ' := [.d p, .d (.lst (natsD (lds is))), .d (.lst (natsD (sts is 0))), .loc 0, .loc 1, x2, y1, e1, e2, e3, e4]) (H' := [.lst (((blocks is).map (blkD is (lds is))).map .d), .dict (numsD (lds is) 0)]) ?_ ?_
    · rw [exec_forE (xs := natsD (lds is)) (H' := [.lst [], .dict (numsD (lds is) 0)]) rfl (Nat.le_of_ble_eq_true rfl) (Nat.le_of_ble_eq_true rfl)]
      simp only [List.nil_append] at hl2
      exact hl2
    exact seq_r (x_ret rfl)
  · exact frz_lst rfl

/-! ## _law_blocks_right -/
theorem bbF_fst : ∀ L : List Nat, (bbF is L).map (·.1) = L
  | [] => rfl
  | f :: r => by rw [bbF, List.map_cons, bbF_fst r]
theorem eqL_self_of {k : Nat} : ∀ {xs : List D}, (∀ x ∈ xs, eqD k x x = some true) → eqL (eqD k) xs xs = some true
  | [], _ => rfl
  | x :: xs, h => by
    have ih := eqL_self_of (k := k) (xs := xs) fun y hy => h y (List.mem_cons_of_mem _ hy)
    simp only [eqL, oh_some, h x List.mem_cons_self, ih]; rfl
theorem eq_blocks : eqD 8 (blocksD is) (blocksD is) = some true := by
  unfold blocksD
  show eqL (eqD 7) _ _ = some true
  refine eqL_self_of fun x hx => ?_
  obtain ⟨q, _, rfl⟩ := List.mem_map.mp hx
  have h1 : eqD 6 (.lst (natsD (nxt is q.2))) (.lst (natsD (nxt is q.2))) = some true := by
    have := eqL_nats (k := 5) (nxt is q.2) (nxt is q.2)
    show eqL (eqD 5) _ _ = some true
    rw [this]; simp
  have h2 : ∀ z : Int, eqD 6 (.int z) (.int z) = some true := fun z => congrArg some (beq_self_eq_true z)
  show eqL (eqD 6) _ _ = some true
  simp [eqL, h1, h2]
theorem c_blocks_right {p : D} (P : Prg p is) (w : WF is) (n : Nat) : callN ns fns (n + 8) 37 [.d p] [] = some (.d (.bool true), []) := by
  obtain ⟨H1, hb1, hb2⟩ := c_blocks (ns := ns) P w n
  obtain ⟨H2, hc1, hc2⟩ := c_law_blocks (ns := ns) w (n + 2)
  have hB : ev ns (callN ns fns (n + 7)) (.call 22 (.cons (.var 0) .nil)) [.d p, .undef, .undef] [] = some (.d (.lst ((blocks is).map (blkD is (lds is)))), []) := by
    exact x_callF (ds := [p]) (x_cons rfl rfl) hb1 hb2
  refine callN_of (fd := ⟨1, 3, b_law_blocks_right⟩) (ρ := [.d p, .d (.lst ((blocks is).map (blkD is (lds is)))), .d (.lst (natsD (lds is)))]) rfl rfl ?_
  refine seq_n (x_asg hB rfl) ?_
  have e1 : (blocks is).map (fun q => D.int (q.1 : Nat)) = natsD (lds is) := by
    conv => rhs; rw [← bbF_fst (is := is) (lds is)]
    unfold natsD
    rw [List.map_map]; rfl
  refine seq_n (x_asg (ev_comp0 rfl (comp_all (blkD is (lds is)) (fun q => .int (q.1 : Nat)) (blocks is) e1 (fun q _ => rfl) (fun q _ => rfl))) rfl) ?_
  refine seq_r ?_
  have hlb : ev ns (callN ns fns (n + 7)) (.call 36 (.cons (.attr (.var 0) 6) .nil)) [.d p, .d (.lst ((blocks is).map (blkD is (lds is)))), .d (.lst (natsD (lds is)))] [] = some (.d (blocksD is), []) := x_callF (ds := [codeD is]) (x_cons (x_attr rfl (P.code _)) rfl) hc1 hc2
  refine x_ret (x_cmp (ev_comp0 rfl (comp_all (blkD is (lds is)) (fun q => .lst [.int (q.1 : Nat), .int (q.2 : Nat), .lst (natsD (nxt is q.2))]) (blocks is) rfl (fun q _ => rfl) (fun q hq => ?_))) hlb eq_blocks)
  have hix : ∀ x ∈ nxt is q.2, (lds is)[ixOf (lds is) x]? = some x := fun x hx => (ix_ok (blocks_next w q hq x hx)).2
  refine x_list (ds := [.int (q.1 : Nat), .int (q.2 : Nat), .lst (natsD (nxt is q.2))]) (x_cons rfl (x_cons rfl (x_cons (ev_comp0 rfl (comp_all (fun j : Nat => .int (j : Nat)) (fun j => .int (((lds is)[j]?).getD 0 : Nat)) ((nxt is q.2).map (ixOf (lds is))) ?_ (fun j _ => rfl) (fun j hj => ?_))) rfl)))
  · unfold natsD
    rw [List.map_map]
    exact List.map_congr_left fun x hx => congrArg (fun o : Option Nat => D.int (o.getD 0 : Nat)) (hix x hx)
  · obtain ⟨x, hx, rfl⟩ := List.mem_map.mp hj
    rw [hix x hx]
    exact x_idx rfl rfl (idx_lst (by unfold natsD; rw [List.getElem?_map, hix x hx]; rfl))
end Mine
end

/-! ### P11 -/
section
set_option tactic.hygienic false
set_option genSizeOf false
set_option bootstrap.genMatcherCode false
open PySem
set_option linter.unusedVariables false
set_option linter.unusedSimpArgs false
set_option maxRecDepth 100000
namespace Mine
variable {ns : List Int} {C : Calls'} {ρ ρ' : List V} {H H' : List O} {is : List I}

/-! ## a proto -/
noncomputable def constD : D := .lst consts
noncomputable def lineD (m : Nat) : D := .lst ((List.range m).map fun (i : Nat) => .int (3 * (i : Int) + 1))
noncomputable def locD (m : Nat) : D := .lst [.obj 0 [.bytes [118], .int 0, .int (m : Nat)]]
noncomputable def prF (cd ps : V) (m : Nat) : List V := [.d (.int 0), .d (.int 0), .d (.int 0), cd, .d constD, ps, .d (lineD m), .d (locD m), .d (.lst [.bytes [117]]), .d (.bytes [61, 115]), .d (.int 4), .d (.int 9), .d (.int 1), .d (.int 2), .d (.int 3), .d (.int 7)]
noncomputable def prD (cd : D) (ps : List D) (m : Nat) : D := .obj 1 [.int 0, .int 0, .int 0, cd, constD, .lst ps, lineD m, locD m, .lst [.bytes [117]], .bytes [61, 115], .int 4, .int 9, .int 1, .int 2, .int 3, .int 7]
noncomputable def setF (c : Nat) (fs : List V) (n : Nat) (v : V) : Option (List V) := oh (fpos c n) fun k => if k < fs.length then some (fs.set k v) else if k = fs.length then some (fs ++ [v]) else none
theorem setAV_F {H0 : List O} {c n : Nat} {fs fs' : List V} {v : V} (h : setF c fs n v = some fs') : setAV (H0 ++ [.obj c fs]) n v (.loc H0.length) = some (H0 ++ [.obj c fs']) := by
  show oh (setAO n v (getO (H0 ++ [.obj c fs]) H0.length)) _ = _
  rw [getO_end]
  unfold setF at h
  cases hf : fpos c n with
  | none => rw [hf] at h; cases h
  | some k =>
    rw [hf, oh_some] at h
    show oh (oh (fpos c n) _) _ = _
    rw [hf, oh_some]
    by_cases h1 : k < fs.length
    · rw [if_pos h1] at h ⊢; cases h; exact congrArg some (set_last ..)
    · rw [if_neg h1] at h ⊢
      by_cases h2 : k = fs.length
      · rw [if_pos h2] at h ⊢; cases h; exact congrArg some (set_last ..)
      · rw [if_neg h2] at h; cases h
theorem x_setE {o x : X} {c n : Nat} {H0 : List O} {fs fs' : List V} {v : V} (h1 : ev ns C x ρ (H0 ++ [.obj c fs]) = some (v, H0 ++ [.obj c fs])) (h2 : ev ns C o ρ (H0 ++ [.obj c fs]) = some (.loc H0.length, H0 ++ [.obj c fs])) (h3 : setF c fs n v = some fs') :
    exec ns C (.setA o n x) ρ (H0 ++ [.obj c fs]) = some (.next, ρ, H0 ++ [.obj c fs']) := x_setA h1 h2 (setAV_F h3)
noncomputable def setFs (c : Nat) (fs : List V) (ns : List Nat) : List V → Option (List V) := match ns with
  | [] => fun vs => match vs with
    | [] => some fs
    | _ => none
  | n :: ns => fun vs => match vs with
    | v :: vs => oh (setF c fs n v) fun fs => setFs c fs ns vs
    | _ => none
theorem setAs_F {H0 : List O} {c : Nat} (ms : List Nat) : ∀ {vs fs fs' : List V}, setFs c fs ms vs = some fs' → setAs (.loc H0.length) ms vs (H0 ++ [.obj c fs]) = some (H0 ++ [.obj c fs']) := by
  induction ms with
  | nil =>
    intro vs fs fs' h
    cases vs with
    | nil => cases h; rfl
    | cons v vs => cases h
  | cons m ms ih =>
    intro vs fs fs' h
    cases vs with
    | nil => cases h
    | cons v vs =>
      revert h
      show oh (setF c fs m v) (fun fs => setFs c fs ms vs) = some fs' → _
      cases e : setF c fs m v with
      | none => intro h; cases h
      | some f2 =>
        intro h
        show oh (setAV (H0 ++ [.obj c fs]) m v (.loc H0.length)) (fun H => setAs (.loc H0.length) ms vs H) = _
        rw [setAV_F e]
        exact ih h
theorem x_setTE {o : Nat} {xs : Xs} {c : Nat} {ms : List Nat} {H0 : List O} {fs fs' vs : List V} (h1 : evs ns C xs ρ (H0 ++ [.obj c fs]) = some (vs, H0 ++ [.obj c fs])) (h2 : ev ns C (.var o) ρ (H0 ++ [.obj c fs]) = some (.loc H0.length, H0 ++ [.obj c fs])) (h3 : setFs c fs ms vs = some fs') :
    exec ns C (.setTA o ms xs) ρ (H0 ++ [.obj c fs]) = some (.next, ρ, H0 ++ [.obj c fs']) := by
  rw [ex_setTA_eq, h1, vh_some, h2, vh_some, setAs_F _ h3]; rfl
theorem c_heap_init (n : Nat) (H0 : List O) (a b : D) : callN ns fns (n + 1) 13 [.loc H0.length, .d a, .d b] (H0 ++ [.obj 1 []]) = some (.d .none, H0 ++ [.obj 1 [.d a, .d (.int 0), .d b]]) :=
  callN_next (fd := ⟨3, 3, b_HeapObject_init⟩) (ρ := [.loc H0.length, .d a, .d b]) rfl rfl (seq_n (x_setE rfl rfl rfl) (seq_n (x_setE rfl rfl rfl) (seq_n (x_setE rfl rfl rfl) rfl)))
theorem c_loc_init (n : Nat) (a b c : D) : callN ns fns (n + 1) 14 [.loc 0, .d a, .d b, .d c] [.obj 0 []] = some (.d .none, [.obj 0 [.d a, .d b, .d c]]) := by kernel_rfl
noncomputable def bornF : List V := [.d (.int 0), .d (.int 0), .d (.int 0), .d (.lst []), .d (.lst []), .d (.lst []), .d (.lst []), .d (.lst []), .d (.lst []), .d (.bytes []), .d (.int 0), .d (.int 0), .d (.int 0), .d (.int 0), .d (.int 0), .d (.int 2)]
theorem c_proto_init (n : Nat) (H0 : List O) : callN ns fns (n + 2) 15 [.loc H0.length] (H0 ++ [.obj 1 []]) = some (.d .none, H0 ++ [.obj 1 bornF]) :=
  callN_next (fd := ⟨1, 1, b_Proto_init⟩) (ρ := [.loc H0.length]) rfl rfl (seq_n (x_ini rfl (c_heap_init n H0 (.int 0) (.int 0))) (seq_n (x_setE rfl rfl rfl) (seq_n (x_setE rfl rfl rfl) (seq_n (x_setE rfl rfl rfl) (seq_n (x_setE rfl rfl rfl) (seq_n (x_setE rfl rfl rfl) (seq_n (x_setE rfl rfl rfl) (seq_n (x_setE rfl rfl rfl)
    (seq_n (x_setE rfl rfl rfl) (seq_n (x_setE rfl rfl rfl) (seq_n (x_setE rfl rfl rfl) (seq_n (x_setE rfl rfl rfl) (seq_n (x_setE rfl rfl rfl) (seq_n (x_setE rfl rfl rfl) rfl))))))))))))))
theorem attr_pr (cd : D) (ps : List D) (m : Nat) : attrV H 6 (.d (prD cd ps m)) = some (.d cd) := rfl
theorem attr_prs (cd : D) (ps : List D) (m : Nat) : attrV H 8 (.d (prD cd ps m)) = some (.d (.lst ps)) := rfl
theorem ev_newproto (n : Nat) : ev ns (callN ns fns (n + 2)) (.newM 1 .nil) ρ H = some (.loc H.length, H ++ [.obj 1 bornF]) := x_newM rfl (c_proto_init n H)

/-! ## _law_made -/
theorem made_lines (n : Nat) {ds : List D} (hl : ds.length < 1000) {u : V} : ev ns (callN ns fns (n + 2)) (.comp 1 (.len (.var 0)) .nil (.bin .add (.bin .mul (.cst (.int 3)) (.var 2)) (.cst (.int 1)))) [.d (.lst ds), u] H = some (.d (lineD ds.length), H) := by
  refine ev_comp1 (m := (ds.length : Nat)) (H1 := H) (x_len rfl rfl) ⟨by omega, by have : big = 1000000 := rfl; omega⟩ ?_
  rw [range_nats]
  refine comp_all (fun k : Nat => .int (k : Nat)) (fun k => .int (3 * (k : Int) + 1)) (List.range ds.length) rfl (fun k _ => rfl) (fun k hk => ?_)
  have hk := List.mem_range.mp hk
  have h2 : small (k : Int) = true := small_of (by omega) (by omega)
  exact x_bin (x_bin rfl rfl (show (if small 3 && small (k : Int) then some (3 * (k : Int)) else none) = _ by rw [h2]; rfl)) rfl rfl
theorem c_made (n : Nat) {ds : List D} (hl : ds.length < 1000) : callN ns fns (n + 3) 29 [.d (.lst ds)] H = some (.loc H.length, H ++ [.obj 1 (prF (.d (.lst ds)) (.d (.lst [])) ds.length)]) := by
  refine callN_of (fd := ⟨1, 2, b_law_made⟩) (ρ := [.d (.lst ds), .loc H.length]) rfl rfl ?_
  refine seq_n (x_asg (ev_newproto (n := n)) rfl) (seq_n (x_setE rfl rfl rfl) (seq_n (x_setE rfl rfl rfl) (seq_n (x_setE (made_lines n hl) rfl rfl) ?_)))
  refine seq_n (x_setE (v := .d (locD ds.length)) (x_list (ds := [.obj 0 [.bytes [118], .int 0, .int (ds.length : Nat)]]) (x_cons (x_new (c := 0) (ds := [.bytes [118], .int 0, .int (ds.length : Nat)]) (x_cons rfl (x_cons rfl (x_cons (x_len rfl rfl) rfl))) (c_loc_init (n + 1) (.bytes [118]) (.int 0) (.int (ds.length : Nat))) rfl) rfl)) rfl rfl) ?_
  exact seq_n (x_setTE rfl rfl rfl) (seq_n (x_setTE rfl rfl rfl) (seq_r (x_ret rfl)))
theorem frz_pr {k : Nat} (cd : D) (ps : List D) (m : Nat) : frz (k + 2) [.obj 1 (prF (.d cd) (.d (.lst ps)) m)] (.loc 0) = some (prD cd ps m) := rfl

/-! ## _law_rest -/
noncomputable def restD (m : Nat) : D := .lst [constD, lineD m, .lst [.tup [.bytes [118], .int 0, .int (m : Nat)]], .bytes [61, 115], .int 4, .int 9, .int 7, .lst [.bytes [117]], .int 1, .int 2, .int 3]
theorem c_rest (n : Nat) (cd : D) (ps : List D) (m : Nat) : callN ns fns (n + 1) 30 [.d (prD cd ps m)] [] = some (.d (restD m), []) := by kernel_rfl
theorem eq_rest (m : Nat) : eqD 8 (restD m) (restD m) = some true := by
  have h1 : ∀ k (z : Int), eqD k (.int z) (.int z) = some true := fun k z => by cases k <;> exact congrArg some (beq_self_eq_true z)
  have h2 : ∀ k b, eqD k (.bytes b) (.bytes b) = some true := fun k z => by cases k <;> exact congrArg some (beq_self_eq_true z)
  have h3 : eqD 7 (lineD m) (lineD m) = some true := by
    show eqL (eqD 6) _ _ = some true
    refine eqL_self_of fun x hx => ?_
    obtain ⟨i, _, rfl⟩ := List.mem_map.mp hx
    exact h1 _ _
  have h4 : eqD 7 constD constD = some true := by decide +kernel
  have h5 : eqD 7 (.lst [.tup [.bytes [118], .int 0, .int (m : Nat)]]) (.lst [.tup [.bytes [118], .int 0, .int (m : Nat)]]) = some true := by
    simp [eqL]
  have h6 : eqD 7 (.lst [.bytes [117]]) (.lst [.bytes [117]]) = some true := by decide +kernel
  show eqL (eqD 7) _ _ = some true
  simp only [eqL, oh_some, h1, h2, h3, h4, h5, h6]
  rfl

/-! ## copied -/
theorem c_copied (n : Nat) (ds ps : List D) (m : Nat) : callN ns fns (n + 3) 23 [.d (prD (.lst ds) ps m)] [] = some (.loc 0, [.obj 1 (prF (.loc 1) (.d (.lst ps)) m), .lst (ds.map .d)]) := by kernel_rfl
end Mine
end

/-! ### P11b -/
section
set_option tactic.hygienic false
set_option genSizeOf false
set_option bootstrap.genMatcherCode false
open PySem
set_option linter.unusedVariables false
set_option linter.unusedSimpArgs false
set_option maxRecDepth 100000
namespace Mine
variable {ns : List Int} {C : Calls'} {ρ ρ' : List V} {H H' : List O} {is : List I}

/-! ## thread_jumps -/
noncomputable def thrP (is : List I) (A : List Nat) (k : Nat) : I → I
  | .jmp s => if k ∈ A then .jmp ((fin is k : Int) - k - 1) else .jmp s
  | i => i
noncomputable def cur (is : List I) (A : List Nat) : List I := is.mapIdx (thrP is A)
noncomputable def encs (l : List I) : List D := l.map fun i => .int (enc i)
theorem cur_all : cur is (sts is 0) = thr is := rfl
theorem cur_nil : cur is [] = is := by
  unfold cur
  apply List.ext_getElem?
  intro k
  rw [List.getElem?_mapIdx]
  cases is[k]? with
  | none => rfl
  | some i => cases i <;> simp [thrP]
theorem cur_jmp {A : List Nat} {k : Nat} {s : Int} (e : is[k]? = some (.jmp s)) : (cur is A).set k (.jmp ((fin is k : Int) - k - 1)) = cur is (A ++ [k]) := by
  unfold cur
  apply List.ext_getElem?
  intro j
  rw [List.getElem?_set, List.getElem?_mapIdx, List.getElem?_mapIdx]
  by_cases h : k = j
  · subst h
    have hk : k < is.length := (List.getElem?_eq_some_iff.mp e).1
    rw [e]
    simp [thrP, hk]
  · rw [if_neg h]
    cases is[j]? with
    | none => rfl
    | some i =>
      have h2 : ¬ j = k := fun z => h z.symm
      cases i <;> simp [thrP, h2]
theorem cur_non {A : List Nat} {k : Nat} {i : I} (e : is[k]? = some i) (hi : ∀ s, i ≠ .jmp s) : cur is (A ++ [k]) = cur is A := by
  unfold cur
  apply List.ext_getElem?
  intro j
  rw [List.getElem?_mapIdx, List.getElem?_mapIdx]
  by_cases h : k = j
  · subst h
    rw [e]
    cases i <;> first | rfl | exact absurd rfl (hi _)
  · cases is[j]? with
    | none => rfl
    | some i =>
      have h2 : ¬ j = k := fun z => h z.symm
      cases i <;> simp [thrP, h2]
noncomputable def body_thr : S := match b_thread_jumps with
  | .seq _ (.seq (.forL _ _ b) _) => b
  | _ => .skip
theorem encs_set (l : List I) (k : Nat) (i : I) : (encs (l.set k i)).map V.d = ((encs l).map V.d).set k (.d (.int (enc i))) := by
  unfold encs
  rw [List.map_set, List.map_set]
theorem thr_step (w : WF is) (n : Nat) {ps : List D} {m k : Nat} (hk : k ∈ sts is 0) {A : List Nat} {q : V} :
    exec ns (callN ns fns (n + 5)) body_thr [.d (prD (codeD is) ps m), .loc 0, .d (.int (k : Nat))] [.obj 1 (prF (.loc 1) q m), .lst ((encs (cur is A)).map .d)] =
      some (.next, [.d (prD (codeD is) ps m), .loc 0, .d (.int (k : Nat))], [.obj 1 (prF (.loc 1) q m), .lst ((encs (cur is (A ++ [k]))).map .d)]) := by
  have P : Prg (prD (codeD is) ps m) is := ⟨fun H => attr_pr _ _ _, w.ok⟩
  obtain ⟨i, e⟩ := w.at_ hk
  have hat : ∀ H, ev ns (callN ns fns (n + 5)) (.attr (.var 0) 6) [.d (prD (codeD is) ps m), .loc 0, .d (.int (k : Nat))] H = some (.d (codeD is), H) := fun H => x_attr rfl (P.code _)
  have hc := ev_isjmp (ns := ns) w (n + 3) (H := [.obj 1 (prF (.loc 1) q m), .lst ((encs (cur is A)).map .d)]) (ρ := [.d (prD (codeD is) ps m), .loc 0, .d (.int (k : Nat))]) e (x := .attr (.var 0) 6) (y := .var 2) (hat _) rfl
  cases hj : isJ is k with
  | false =>
    rw [hj] at hc
    have hi : ∀ s, i ≠ .jmp s := fun s hs => by
      have := isJ_iff.mpr ⟨s, hs ▸ e⟩
      rw [hj] at this; cases this
    rw [cur_non e hi]
    refine seq_n (ifs_f hc rfl) rfl
  | true =>
    rw [hj] at hc
    obtain ⟨s, e'⟩ := isJ_iff.mp hj
    rw [e] at e'
    obtain rfl : i = .jmp s := Option.some.inj e'
    obtain ⟨H1, h24⟩ := c_eoj (ns := ns) P w n hk hj
    have hfl := w.lt (w.fin_mem hk)
    have hkl := w.lt hk
    have hln := w.len
    have ho : (I.jmp s).ok := w.ok _ (List.mem_of_getElem? e)
    have ho2 : (I.jmp ((fin is k : Int) - k - 1)).ok := ⟨by omega, by omega⟩
    have h12 := c_setsbx (ns := ns) (n + 2) (enc (.jmp s)) ((fin is k : Int) - k - 1) (small_of (by omega) (by omega))
    rw [set_enc ho ho2] at h12
    have hx : ev ns (callN ns fns (n + 5)) (.call 12 (.cons (.idx (.attr (.var 0) 6) (.var 2)) (.cons (.bin .sub (.bin .sub (.call 24 (.cons (.var 0) (.cons (.var 2) .nil))) (.var 2)) (.cst (.int 1))) .nil))) [.d (prD (codeD is) ps m), .loc 0, .d (.int (k : Nat))] [.obj 1 (prF (.loc 1) q m), .lst ((encs (cur is A)).map .d)] =
        some (.d (.int (enc (.jmp ((fin is k : Int) - k - 1)))), [.obj 1 (prF (.loc 1) q m), .lst ((encs (cur is A)).map .d)]) := by
      exact x_call (ds := [.int (enc (.jmp s)), .int ((fin is k : Int) - k - 1)]) (x_cons (x_idx (hat _) rfl (idx_code e)) (x_cons (x_bin (x_bin (x_callF (ds := [prD (codeD is) ps m, .int (k : Nat)]) (x_cons rfl (x_cons rfl rfl)) h24 rfl) rfl rfl) rfl rfl) rfl)) h12
    refine seq_n (ifs_t hc (seq_n (x_setI (u := .loc 1) hx rfl rfl ?_) rfl)) rfl
    have hlen : ((encs (cur is A)).map V.d).length = is.length := by unfold encs cur; rw [List.length_map, List.length_map, List.length_mapIdx]
    rw [← cur_jmp e]
    show oh (if (0 : Int) ≤ (k : Nat) ∧ ((k : Nat) : Int) < ((encs (cur is A)).map V.d).length then some (O.lst (((encs (cur is A)).map V.d).set k (.d (.int (enc (.jmp ((fin is k : Int) - k - 1))))))) else none) _ = _
    rw [if_pos ⟨by omega, by omega⟩]
    exact congrArg (fun L => some [O.obj 1 (prF (.loc 1) q m), O.lst L]) (encs_set ..).symm
theorem thr_loop (w : WF is) (n : Nat) {ps : List D} {m : Nat} {q : V} : ∀ (r A : List Nat) (x : V), sts is 0 = A ++ r → ∃ x', forLoop (fun v ρ H => exec ns (callN ns fns (n + 5)) body_thr (ρ.set 2 v) H) ((natsD r).map .d) [.d (prD (codeD is) ps m), .loc 0, x] [.obj 1 (prF (.loc 1) q m), .lst ((encs (cur is A)).map .d)] =
      some (.next, [.d (prD (codeD is) ps m), .loc 0, x'], [.obj 1 (prF (.loc 1) q m), .lst ((encs (cur is (A ++ r))).map .d)])
  | [], A, x, h => ⟨x, by rw [List.append_nil]; rfl⟩
  | k :: r, A, x, h => by
    have hk : k ∈ sts is 0 := by rw [h]; simp
    obtain ⟨x', ih⟩ := thr_loop w n (ps := ps) (m := m) (q := q) r (A ++ [k]) (.d (.int (k : Nat))) (by rw [h]; simp)
    exact ⟨x', (for_cons (thr_step (ns := ns) w n (ps := ps) (m := m) (q := q) hk (A := A)) ih).trans (by rw [List.append_assoc]; rfl)⟩
theorem c_thread (w : WF is) (n : Nat) {ps : List D} {m : Nat} (g : D → D) (hps : ∀ q ∈ ps, ∃ v H', callN ns fns (n + 5) 25 [.d q] [] = some (v, H') ∧ frz 3 H' v = some (g q)) :
    ∃ H', callN ns fns (n + 6) 25 [.d (prD (codeD is) ps m)] [] = some (.loc 0, H') ∧ frz 3 H' (.loc 0) = some (prD (codeD (thr is)) (ps.map g) m) := by
  have P : Prg (prD (codeD is) ps m) is := ⟨fun H => attr_pr _ _ _, w.ok⟩
  have hln := w.len
  have hcp := c_copied (ns := ns) (n + 2) (encs is) ps m
  obtain ⟨x', hl⟩ := thr_loop (ns := ns) w n (ps := ps) (m := m) (q := .d (.lst ps)) (sts is 0) [] .undef rfl
  rw [cur_nil, List.nil_append, cur_all] at hl
  refine ⟨[.obj 1 (prF (.loc 1) (.d (.lst (ps.map g))) m), .lst ((encs (thr is)).map .d)], callN_of (fd := ⟨1, 3, b_thread_jumps⟩) (ρ := [.d (prD (codeD is) ps m), .loc 0, x']) rfl rfl ?_, ?_⟩
  · refine seq_n (ρ' := [.d (prD (codeD is) ps m), .loc 0, .undef]) (H' := [.obj 1 (prF (.loc 1) (.d (.lst ps)) m), .lst ((encs is).map .d)]) (x_asg (v := .loc 0) (x_callI (x_cons rfl rfl) hcp) rfl) ?_
    refine seq_n (ρ' := [.d (prD (codeD is) ps m), .loc 0, x']) (H' := [.obj 1 (prF (.loc 1) (.d (.lst ps)) m), .lst ((encs (thr is)).map .d)]) ?_ ?_
    · have hst := ev_starts (ns := ns) (H := [.obj 1 (prF (.loc 1) (.d (.lst ps)) m), .lst ((encs is).map .d)]) (ρ := [.d (prD (codeD is) ps m), .loc 0, .undef]) P (n + 1) (by omega) (x := .var 0) rfl
      rw [exec_forL hst (Nat.le_of_ble_eq_true rfl)]
      exact hl
    have hcomp : ev ns (callN ns fns (n + 5)) (.comp 0 (.attr (.var 0) 8) .nil (.call 25 (.cons (.var 3) .nil))) [.d (prD (codeD is) ps m), .loc 0, x'] [.obj 1 (prF (.loc 1) (.d (.lst ps)) m), .lst ((encs (thr is)).map .d)] = some (.d (.lst (ps.map g)), [.obj 1 (prF (.loc 1) (.d (.lst ps)) m), .lst ((encs (thr is)).map .d)]) := by
      exact ev_comp0 (ds := ps) (x_attr rfl (attr_prs _ _ _)) (comp_allD g ps (fun d _ => rfl) fun d hd => by
        obtain ⟨v, H1, h1, h2⟩ := hps d hd
        exact x_callF (ds := [d]) (x_cons rfl rfl) h1 h2)
    refine seq_n (ρ' := [.d (prD (codeD is) ps m), .loc 0, x']) (H' := [.obj 1 (prF (.loc 1) (.d (.lst (ps.map g))) m), .lst ((encs (thr is)).map .d)]) (x_setA (u := .loc 0) (H2 := [.obj 1 (prF (.loc 1) (.d (.lst ps)) m), .lst ((encs (thr is)).map .d)]) hcomp rfl (by kernel_rfl)) (seq_r (x_ret rfl))
  · have h1 : frz 2 [.obj 1 (prF (.loc 1) (.d (.lst (ps.map g))) m), .lst ((encs (thr is)).map .d)] (.loc 1) = some (codeD (thr is)) := by
      exact frz_lst (ds := encs (thr is)) rfl
    show oh (mapO (frz 2 _) (prF (.loc 1) (.d (.lst (ps.map g))) m)) _ = _
    unfold prF at h1 ⊢
    simp only [mapO_cons, mapO_nil, frz_d, oh_some, h1]
    rfl
/-- in a place where an expression calls it -/
theorem ev_thread (w : WF is) (n : Nat) {ps : List D} {m : Nat} (g : D → D) (hps : ∀ q ∈ ps, ∃ v H', callN ns fns (n + 5) 25 [.d q] [] = some (v, H') ∧ frz 3 H' v = some (g q)) {x : X} (hx : ev ns (callN ns fns (n + 6)) x ρ H = some (.d (prD (codeD is) ps m), H)) :
    ev ns (callN ns fns (n + 6)) (.call 25 (.cons x .nil)) ρ H = some (.d (prD (codeD (thr is)) (ps.map g) m), H) := by
  obtain ⟨H1, h1, h2⟩ := c_thread (ns := ns) w n (m := m) g hps
  exact x_callF (ds := [prD (codeD is) ps m]) (x_cons hx rfl) h1 h2
end Mine
end

/-! ### P12a -/
section
set_option tactic.hygienic false
set_option genSizeOf false
set_option bootstrap.genMatcherCode false
open PySem
set_option linter.unusedVariables false
set_option linter.unusedSimpArgs false
set_option maxRecDepth 100000
namespace Mine
variable {ns : List Int} {C : Calls'} {ρ ρ' : List V} {H H' : List O} {is : List I}

/-! ## _law_take -/
noncomputable def boxO (sc : List Int) (i z : Nat) : O := .lst [.d (.lst (sc.map .int)), .d (.int (i : Nat)), .d (.int (z : Nat))]
noncomputable def Bx (sc : List Int) (b : O) : Prop := ∃ i z : Nat, b = boxO sc i z ∧ z < 4294967296
theorem fmod_nat (a : Int) {m : Nat} (hm : 0 < m) : ∃ r : Nat, r < m ∧ a.fmod (m : Int) = (r : Int) := by
  have h1 := Int.fmod_nonneg_of_pos a (show (0 : Int) < (m : Int) by omega)
  have h2 := Int.fmod_lt_of_pos a (show (0 : Int) < (m : Int) by omega)
  exact ⟨(a.fmod (m : Int)).toNat, by omega, by omega⟩
section
variable {sc : List Int} {i z : Nat} {T : List O}
theorem box0 : idxV (boxO sc i z :: T) (.loc 0) (.d (.int 0)) = some (.d (.lst (sc.map .int))) := rfl
theorem box1 : idxV (boxO sc i z :: T) (.loc 0) (.d (.int 1)) = some (.d (.int (i : Nat))) := rfl
theorem box2 : idxV (boxO sc i z :: T) (.loc 0) (.d (.int 2)) = some (.d (.int (z : Nat))) := rfl
theorem box_s1 : setIV (boxO sc i z :: T) (.d (.int ((i : Int) + 1))) (.loc 0) (.d (.int 1)) = some (boxO sc (i + 1) z :: T) := rfl
theorem box_s2 {y : Nat} : setIV (boxO sc i z :: T) (.d (.int (y : Nat))) (.loc 0) (.d (.int 2)) = some (boxO sc i y :: T) := rfl
theorem small_n {z : Nat} (h : z < 4294967296) : small (z : Int) = true := by simp [small]; omega
theorem op_mul {a b : Int} (h1 : small a = true) (h2 : small b = true) : opI .mul a b = some (a * b) := if_pos (by rw [h1, h2]; rfl)
theorem op_div {a b : Int} (h1 : small a = true) (h2 : small b = true) (h3 : b ≠ 0) : opI .fdiv a b = some (a.fdiv b) := if_pos (by rw [h1, h2, decide_eq_true h3]; rfl)
theorem op_mod {a b c : Int} (h3 : b ≠ 0) (h : a.fmod b = c) : opI .mod a b = some c := (if_pos (decide_eq_true h3)).trans (congrArg some h)
end
theorem c_take {sc : List Int} {b : O} (hb : Bx sc b) {many : Nat} (hm : 0 < many) : ∃ (b' : O) (r : Nat), Bx sc b' ∧ r < many ∧ ∀ (n : Nat) (T : List O), callN ns fns (n + 1) 26 [.loc 0, .d (.int (many : Nat))] (b :: T) = some (.d (.int (r : Nat)), b' :: T) := by
  obtain ⟨i, z, rfl, hz⟩ := hb
  have hs1 := small_n hz
  have hm0 : (many : Int) ≠ 0 := by omega
  by_cases hi : i < sc.length
  · obtain ⟨z', hz', ez⟩ := fmod_nat ((z : Int) * 69069 + (sc[i]).fmod 1000003 + 1) (m := 4294967296) (by decide)
    obtain ⟨r, hr, er⟩ := fmod_nat (sc[i]) hm
    exact ⟨boxO sc (i + 1) z', r, ⟨_, _, rfl, hz'⟩, hr, fun n T => callN_of (fd := ⟨2, 3, b_law_take⟩) (ρ := [.loc 0, .d (.int (many : Nat)), .d (.int sc[i])]) rfl rfl
      (seq_r (ifs_t (x_cmp (x_idx rfl rfl box1) (x_len (x_idx rfl rfl box0) (List.length_map ..)) (congrArg some (dec_lt hi)))
        (seq_n (x_setI (x_bin (x_idx rfl rfl box1) rfl rfl) rfl rfl box_s1)
          (seq_n (x_asg (x_idx (x_idx rfl rfl box0) (x_bin (x_idx rfl rfl box1) rfl (congrArg some (show ((i + 1 : Nat) : Int) - 1 = (i : Nat) by omega))) (idx_lst (by rw [List.getElem?_map, List.getElem?_eq_getElem hi]; rfl))) rfl)
            (seq_n (x_setI (x_bin (x_bin (x_bin (x_bin (x_idx rfl rfl box2) rfl (op_mul hs1 (by decide))) (x_bin rfl rfl (op_mod (by decide) rfl)) rfl) rfl rfl) rfl (op_mod (by decide) ez)) rfl rfl box_s2)
              (seq_r (x_ret (x_bin rfl rfl (op_mod hm0 er)))))))))⟩
  · obtain ⟨z', hz', ez⟩ := fmod_nat ((z : Int) * 69069 + 12345) (m := 4294967296) (by decide)
    obtain ⟨r, hr, er⟩ := fmod_nat ((z' : Int).fdiv 4096) hm
    have hs4 := small_n hz'
    exact ⟨boxO sc i z', r, ⟨_, _, rfl, hz'⟩, hr, fun n T => callN_of (fd := ⟨2, 3, b_law_take⟩) (ρ := [.loc 0, .d (.int (many : Nat)), .undef]) rfl rfl
      (seq_n (ifs_f (x_cmp (x_idx rfl rfl box1) (x_len (x_idx rfl rfl box0) (List.length_map ..)) (congrArg some (dec_nlt hi))) rfl)
        (seq_n (x_setI (x_bin (x_bin (x_bin (x_idx rfl rfl box2) rfl (op_mul hs1 (by decide))) rfl rfl) rfl (op_mod (by decide) ez)) rfl rfl box_s2)
          (seq_r (x_ret (x_bin (x_bin (x_idx rfl rfl box2) rfl (op_div hs4 (by decide) (by decide))) rfl (op_mod hm0 er))))))⟩
/-- as an expression draws -/
theorem ev_take {sc : List Int} {b : O} (hb : Bx sc b) {many : Nat} (hm : 0 < many) : ∃ (b' : O) (r : Nat), Bx sc b' ∧ r < many ∧ ∀ (n : Nat) (T : List O) (ρ : List V) (y : X), ρ[0]? = some (.loc 0) → (∀ H, ev ns (callN ns fns (n + 1)) y ρ H = some (.d (.int (many : Nat)), H)) → ev ns (callN ns fns (n + 1)) (.callI 26 (.cons (.var 0) (.cons y .nil))) ρ (b :: T) = some (.d (.int (r : Nat)), b' :: T) := by
  obtain ⟨b', r, h1, h2, h3⟩ := c_take (ns := ns) hb hm
  refine ⟨b', r, h1, h2, fun n T ρ y hρ hy => ?_⟩
  have hv : ev ns (callN ns fns (n + 1)) (.var 0) ρ (b :: T) = some (.loc 0, b :: T) := by rw [ev_var_eq, hρ]; rfl
  exact x_callI (x_cons hv (x_cons (hy _) rfl)) (h3 n T)
end Mine
end

/-! ### P12b -/
section
set_option tactic.hygienic false
set_option genSizeOf false
set_option bootstrap.genMatcherCode false
open PySem
set_option linter.unusedVariables false
set_option linter.unusedSimpArgs false
set_option maxRecDepth 100000
namespace Mine
variable {ns : List Int} {C : Calls'} {ρ ρ' : List V} {H H' : List O} {is : List I}

/-! ## what is drawn: groups -/
inductive Gp where
  | one (i : I) | set (s : Int) | test (a c g : Nat) | jump (g : Nat)
noncomputable def Gp.good (m : Nat) : Gp → Prop
  | .one (.loadk a b) => a < 3 ∧ b < 4
  | .one (.move a b) | .one (.neg a b) => a < 3 ∧ b < 3
  | .one _ => False
  | .set s => -20 ≤ s ∧ s ≤ 20
  | .test a c g => a < 3 ∧ c < 2 ∧ g < m
  | .jump g => g < m
inductive Itm where
  | ins (i : I) | jump (g : Nat)
noncomputable def itD : Itm → D
  | .ins i => .int (enc i)
  | .jump g => .tup [.str (Str.ofString "jump"), .int (g : Nat)]
noncomputable def its : List Gp → List Itm
  | [] => []
  | .one i :: r => .ins i :: its r
  | .set s :: r => .ins .setl :: .ins (.jmp s) :: its r
  | .test a c g :: r => .ins (.test a c) :: .jump g :: its r
  | .jump g :: r => .jump g :: its r
theorem its_app : ∀ g h : List Gp, its (g ++ h) = its g ++ its h
  | [], h => rfl
  | .one i :: r, h | .set s :: r, h | .test a c g :: r, h | .jump g :: r, h => by simp [its, its_app r h]
/-- the words -/
noncomputable def jmpTo (f : Nat → Nat) (k g : Nat) : I := .jmp ((f g : Int) - k - 1)
noncomputable def bld (f : Nat → Nat) (a : Nat) : Nat → List Gp → List I
  | _, [] => [.ret a]
  | k, .one i :: r => i :: bld f a (k + 1) r
  | k, .set s :: r => .setl :: .jmp s :: bld f a (k + 2) r
  | k, .test b c g :: r => .test b c :: jmpTo f (k + 1) g :: bld f a (k + 2) r
  | k, .jump g :: r => jmpTo f k g :: bld f a (k + 1) r
noncomputable def stG : Nat → List Gp → List Nat
  | k, [] => [k]
  | k, .one _ :: r | k, .jump _ :: r => k :: stG (k + 1) r
  | k, .set _ :: r => k :: stG (k + 2) r
  | k, .test _ _ _ :: r => k :: (k + 1) :: stG (k + 2) r
noncomputable def bsG : Nat → List Gp → List Nat
  | _, [] => []
  | k, .one _ :: r | k, .jump _ :: r => bsG (k + 1) r
  | k, .set _ :: r => (k + 1) :: bsG (k + 2) r
  | k, .test _ _ _ :: r => bsG (k + 2) r
noncomputable def Good (m : Nat) (gs : List Gp) : Prop := ∀ g ∈ gs, g.good m
theorem one_plain {m : Nat} {i : I} (h : (Gp.one i).good m) : isS i = false ∧ i.ok ∧ (∀ s, i ≠ .jmp s) ∧ (∀ a c, i ≠ .test a c) ∧ wl i = 1 ∧ (∀ a, i ≠ .ret a) := by
  cases i <;> simp [Gp.good] at h <;> simp [isS, I.ok, wl, h]
theorem sts_one {i : I} (h : isS i = false) (r : List I) (k : Nat) : sts (i :: r) k = k :: sts r (k + 1) := by
  cases i <;> first | rfl | cases h
theorem sts_bld (f : Nat → Nat) (a m : Nat) : ∀ (gs : List Gp) (k : Nat), Good m gs → sts (bld f a k gs) k = stG k gs
  | [], k, _ => rfl
  | .one i :: r, k, h => by
    have h1 := one_plain (h (.one i) List.mem_cons_self)
    rw [bld, sts_one h1.1, sts_bld f a m r (k + 1) (fun g hg => h g (List.mem_cons_of_mem _ hg)), stG]
  | .set s :: r, k, h => by
    rw [bld, sts, sts_bld f a m r (k + 2) (fun g hg => h g (List.mem_cons_of_mem _ hg)), stG]
  | .test b c g :: r, k, h => by
    rw [bld, sts_one rfl, jmpTo, sts_one rfl, sts_bld f a m r (k + 2) (fun g hg => h g (List.mem_cons_of_mem _ hg)), stG]
  | .jump g :: r, k, h => by
    rw [bld, jmpTo, sts_one rfl, sts_bld f a m r (k + 1) (fun g hg => h g (List.mem_cons_of_mem _ hg)), stG]
theorem stG_head : ∀ (gs : List Gp) (k : Nat), k ∈ stG k gs
  | [], k | .one i :: r, k | .set s :: r, k | .test b c g :: r, k | .jump g :: r, k => by simp [stG]
theorem bld_len (f : Nat → Nat) (a : Nat) : ∀ (gs : List Gp) (k : Nat), (bld f a k gs).length = (its gs).length + 1
  | [], k => rfl
  | .one i :: r, k | .jump g :: r, k => by simp [bld, its, bld_len f a r (k + 1)]
  | .set s :: r, k | .test b c g :: r, k => by simp [bld, its, bld_len f a r (k + 2)]
theorem bs_ok : ∀ (gs : List Gp) (k x : Nat), x ∈ bsG k gs → x + 1 ∈ stG k gs
  | [], k, x, h => by cases h
  | .one i :: r, k, x, h => by rw [stG]; exact List.mem_cons_of_mem _ (bs_ok r (k + 1) x (by simpa [bsG] using h))
  | .jump i :: r, k, x, h => by rw [stG]; exact List.mem_cons_of_mem _ (bs_ok r (k + 1) x (by simpa [bsG] using h))
  | .test b c g :: r, k, x, h => by rw [stG]; exact List.mem_cons_of_mem _ (List.mem_cons_of_mem _ (bs_ok r (k + 2) x (by simpa [bsG] using h)))
  | .set s :: r, k, x, h => by
    rw [stG]
    rw [bsG] at h
    rcases List.mem_cons.mp h with rfl | h
    · exact List.mem_cons_of_mem _ (stG_head r _)
    · exact List.mem_cons_of_mem _ (bs_ok r (k + 2) x h)
theorem st_or : ∀ (gs : List Gp) (k x : Nat), k ≤ x → x < k + (its gs).length → x ∈ bsG k gs ∨ x ∈ stG k gs
  | [], k, x, h, h2 => by simp [its] at h2; omega
  | .one i :: r, k, x, h, h2 => by
    rw [its, List.length_cons] at h2
    by_cases e : x = k
    · exact .inr (e ▸ stG_head _ _)
    · rcases st_or r (k + 1) x (by omega) (by omega) with h | h
      · exact .inl (by rw [bsG]; exact h)
      · exact .inr (by rw [stG]; exact List.mem_cons_of_mem _ h)
  | .jump i :: r, k, x, h, h2 => by
    rw [its, List.length_cons] at h2
    by_cases e : x = k
    · exact .inr (e ▸ stG_head _ _)
    · rcases st_or r (k + 1) x (by omega) (by omega) with h | h
      · exact .inl (by rw [bsG]; exact h)
      · exact .inr (by rw [stG]; exact List.mem_cons_of_mem _ h)
  | .test b c g :: r, k, x, h, h2 => by
    rw [its, List.length_cons, List.length_cons] at h2
    by_cases e : x = k
    · exact .inr (e ▸ stG_head _ _)
    · by_cases e2 : x = k + 1
      · exact .inr (by rw [stG, e2]; simp)
      · rcases st_or r (k + 2) x (by omega) (by omega) with h | h
        · exact .inl (by rw [bsG]; exact h)
        · exact .inr (by rw [stG]; exact List.mem_cons_of_mem _ (List.mem_cons_of_mem _ h))
  | .set s :: r, k, x, h, h2 => by
    rw [its, List.length_cons, List.length_cons] at h2
    by_cases e : x = k
    · exact .inr (e ▸ stG_head _ _)
    · by_cases e2 : x = k + 1
      · exact .inl (by rw [bsG, e2]; simp)
      · rcases st_or r (k + 2) x (by omega) (by omega) with h | h
        · exact .inl (by rw [bsG]; exact List.mem_cons_of_mem _ h)
        · exact .inr (by rw [stG]; exact List.mem_cons_of_mem _ h)
/-- what holds at a start -/
theorem at_start (f : Nat → Nat) (a m : Nat) : ∀ (gs : List Gp) (k x : Nat) (i : I), Good m gs → x ∈ stG k gs → (bld f a k gs)[x - k]? = some i → k ≤ x ∧
    (∀ s, i = .jmp s → ∃ g, g < m ∧ s = (f g : Int) - x - 1) ∧ (∀ b c, i = .test b c → x + 1 ∈ stG k gs ∧ x + 2 ∈ stG k gs) ∧ ((match i with | .ret _ => False | .jmp _ => False | _ => True) → x + wl i ∈ stG k gs)
  | [], k, x, i, hg, h, e => by
    simp only [stG, List.mem_singleton] at h
    subst h
    simp only [bld, Nat.sub_self, List.getElem?_cons_zero, Option.some.injEq] at e
    subst e
    exact ⟨Nat.le_refl _, fun s h => (by cases h), fun b c h => (by cases h), fun h => h.elim⟩
  | .one j :: r, k, x, i, hg, h, e => by
    have h1 := one_plain (hg (.one j) List.mem_cons_self)
    rw [stG] at h ⊢
    rcases List.mem_cons.mp h with rfl | h
    · simp only [bld, Nat.sub_self, List.getElem?_cons_zero, Option.some.injEq] at e
      subst e
      exact ⟨Nat.le_refl _, fun s h => absurd h (h1.2.2.1 s), fun b c h => absurd h (h1.2.2.2.1 b c), fun _ => by rw [h1.2.2.2.2.1]; exact List.mem_cons_of_mem _ (stG_head _ _)⟩
    · have hr : ∀ y, y ∈ stG (k + 1) r → k + 1 ≤ y := fun y hy => by
        rw [← sts_bld f a m r (k + 1) (fun g hg' => hg g (List.mem_cons_of_mem _ hg'))] at hy
        exact (sts_range _ _ _ hy).1
      have hx := hr x h
      obtain ⟨c1, c2, c3, c4⟩ := at_start f a m r (k + 1) x i (fun g hg' => hg g (List.mem_cons_of_mem _ hg')) h (by
        rw [bld] at e
        have : x - k = (x - (k + 1)) + 1 := by omega
        rw [this, List.getElem?_cons_succ] at e
        exact e)
      exact ⟨by omega, c2, fun b c h => ⟨List.mem_cons_of_mem _ (c3 b c h).1, List.mem_cons_of_mem _ (c3 b c h).2⟩, fun h => List.mem_cons_of_mem _ (c4 h)⟩
  | .jump g :: r, k, x, i, hg, h, e => by
    have hgm : g < m := hg (.jump g) List.mem_cons_self
    rw [stG] at h ⊢
    rcases List.mem_cons.mp h with rfl | h
    · simp only [bld, jmpTo, Nat.sub_self, List.getElem?_cons_zero, Option.some.injEq] at e
      subst e
      exact ⟨Nat.le_refl _, fun s h => ⟨g, hgm, by cases h; rfl⟩, fun b c h => (by cases h), fun h => h.elim⟩
    · have hr : ∀ y, y ∈ stG (k + 1) r → k + 1 ≤ y := fun y hy => by
        rw [← sts_bld f a m r (k + 1) (fun g hg' => hg g (List.mem_cons_of_mem _ hg'))] at hy
        exact (sts_range _ _ _ hy).1
      have hx := hr x h
      obtain ⟨c1, c2, c3, c4⟩ := at_start f a m r (k + 1) x i (fun g hg' => hg g (List.mem_cons_of_mem _ hg')) h (by
        rw [bld] at e
        have : x - k = (x - (k + 1)) + 1 := by omega
        rw [this, List.getElem?_cons_succ] at e
        exact e)
      exact ⟨by omega, c2, fun b c h => ⟨List.mem_cons_of_mem _ (c3 b c h).1, List.mem_cons_of_mem _ (c3 b c h).2⟩, fun h => List.mem_cons_of_mem _ (c4 h)⟩
  | .set s :: r, k, x, i, hg, h, e => by
    rw [stG] at h ⊢
    rcases List.mem_cons.mp h with rfl | h
    · simp only [bld, Nat.sub_self, List.getElem?_cons_zero, Option.some.injEq] at e
      subst e
      exact ⟨Nat.le_refl _, fun s h => (by cases h), fun b c h => (by cases h), fun _ => List.mem_cons_of_mem _ (stG_head _ _)⟩
    · have hr : ∀ y, y ∈ stG (k + 2) r → k + 2 ≤ y := fun y hy => by
        rw [← sts_bld f a m r (k + 2) (fun g hg' => hg g (List.mem_cons_of_mem _ hg'))] at hy
        exact (sts_range _ _ _ hy).1
      have hx := hr x h
      obtain ⟨c1, c2, c3, c4⟩ := at_start f a m r (k + 2) x i (fun g hg' => hg g (List.mem_cons_of_mem _ hg')) h (by
        rw [bld] at e
        have : x - k = (x - (k + 2)) + 1 + 1 := by omega
        rw [this, List.getElem?_cons_succ, List.getElem?_cons_succ] at e
        exact e)
      exact ⟨by omega, c2, fun b c h => ⟨List.mem_cons_of_mem _ (c3 b c h).1, List.mem_cons_of_mem _ (c3 b c h).2⟩, fun h => List.mem_cons_of_mem _ (c4 h)⟩
  | .test b0 c0 g :: r, k, x, i, hg, h, e => by
    have hgm : g < m := (hg (.test b0 c0 g) List.mem_cons_self).2.2
    rw [stG] at h ⊢
    rcases List.mem_cons.mp h with rfl | h
    · simp only [bld, Nat.sub_self, List.getElem?_cons_zero, Option.some.injEq] at e
      subst e
      exact ⟨Nat.le_refl _, fun s h => (by cases h), fun b c h => ⟨by simp, List.mem_cons_of_mem _ (List.mem_cons_of_mem _ (stG_head _ _))⟩, fun _ => by simp [wl]⟩
    rcases List.mem_cons.mp h with rfl | h
    · have : k + 1 - k = 1 := by omega
      rw [this] at e
      simp only [bld, jmpTo, List.getElem?_cons_succ, List.getElem?_cons_zero, Option.some.injEq] at e
      subst e
      exact ⟨by omega, fun s h => ⟨g, hgm, by cases h; rfl⟩, fun b c h => (by cases h), fun h => h.elim⟩
    · have hr : ∀ y, y ∈ stG (k + 2) r → k + 2 ≤ y := fun y hy => by
        rw [← sts_bld f a m r (k + 2) (fun g hg' => hg g (List.mem_cons_of_mem _ hg'))] at hy
        exact (sts_range _ _ _ hy).1
      have hx := hr x h
      obtain ⟨c1, c2, c3, c4⟩ := at_start f a m r (k + 2) x i (fun g hg' => hg g (List.mem_cons_of_mem _ hg')) h (by
        rw [bld] at e
        have : x - k = (x - (k + 2)) + 1 + 1 := by omega
        rw [this, List.getElem?_cons_succ, List.getElem?_cons_succ] at e
        exact e)
      exact ⟨by omega, c2, fun b c h => ⟨List.mem_cons_of_mem _ (List.mem_cons_of_mem _ (c3 b c h).1), List.mem_cons_of_mem _ (List.mem_cons_of_mem _ (c3 b c h).2)⟩, fun h => List.mem_cons_of_mem _ (List.mem_cons_of_mem _ (c4 h))⟩
theorem bld_ok (f : Nat → Nat) (a m : Nat) (ha : a < 3) (hf : ∀ g, g < m → f g ≤ 15) : ∀ (gs : List Gp) (k : Nat), Good m gs → k + (its gs).length ≤ 15 → ∀ i ∈ bld f a k gs, i.ok
  | [], k, _, _, i, hi => by
    simp only [bld, List.mem_singleton] at hi
    subst hi; exact ha
  | .one j :: r, k, hg, hl, i, hi => by
    rw [its, List.length_cons] at hl
    rw [bld] at hi
    rcases List.mem_cons.mp hi with rfl | hi
    · exact (one_plain (hg _ List.mem_cons_self)).2.1
    · exact bld_ok f a m ha hf r (k + 1) (fun g hg' => hg g (List.mem_cons_of_mem _ hg')) (by omega) i hi
  | .jump g :: r, k, hg, hl, i, hi => by
    rw [its, List.length_cons] at hl
    rw [bld] at hi
    rcases List.mem_cons.mp hi with rfl | hi
    · have := hf g (hg _ List.mem_cons_self)
      exact ⟨by omega, by omega⟩
    · exact bld_ok f a m ha hf r (k + 1) (fun g hg' => hg g (List.mem_cons_of_mem _ hg')) (by omega) i hi
  | .set s :: r, k, hg, hl, i, hi => by
    rw [its, List.length_cons, List.length_cons] at hl
    rw [bld] at hi
    rcases List.mem_cons.mp hi with rfl | hi
    · trivial
    rcases List.mem_cons.mp hi with rfl | hi
    · exact hg _ List.mem_cons_self
    · exact bld_ok f a m ha hf r (k + 2) (fun g hg' => hg g (List.mem_cons_of_mem _ hg')) (by omega) i hi
  | .test b c g :: r, k, hg, hl, i, hi => by
    rw [its, List.length_cons, List.length_cons] at hl
    rw [bld] at hi
    have hgg := hg _ List.mem_cons_self
    rcases List.mem_cons.mp hi with rfl | hi
    · exact ⟨hgg.1, hgg.2.1⟩
    rcases List.mem_cons.mp hi with rfl | hi
    · have := hf g hgg.2.2
      exact ⟨by omega, by omega⟩
    · exact bld_ok f a m ha hf r (k + 2) (fun g hg' => hg g (List.mem_cons_of_mem _ hg')) (by omega) i hi
noncomputable def goalF (gs : List Gp) (g : Nat) : Nat := if g ∈ bsG 0 gs then g + 1 else g
theorem bld_WF {gs : List Gp} {a m : Nat} (ha : a < 3) (hg : Good m gs) (hm : m ≤ (its gs).length) (hl : (its gs).length ≤ 13) : WF (bld (goalF gs) a 0 gs) := by
  have hs : sts (bld (goalF gs) a 0 gs) 0 = stG 0 gs := sts_bld _ a m gs 0 hg
  have hgoal : ∀ g, g < m → goalF gs g ∈ stG 0 gs := fun g h => by
    unfold goalF
    by_cases hb : g ∈ bsG 0 gs
    · rw [if_pos hb]; exact bs_ok gs 0 g hb
    · rw [if_neg hb]; exact (st_or gs 0 g (by omega) (by omega)).resolve_left hb
  have hle : ∀ g, g < m → goalF gs g ≤ 15 := fun g h => by unfold goalF; split <;> omega
  have hbl := bld_len (goalF gs) a gs 0
  refine ⟨bld_ok _ a m ha hle gs 0 hg (by omega), by omega, by omega, fun k s h e => ?_, fun k b c h e => ?_, fun k i h e hi => ?_⟩
  · rw [hs] at h ⊢
    obtain ⟨g, h1, h2⟩ := (at_start _ a m gs 0 k _ hg h e).2.1 s rfl
    have : ((k : Int) + 1 + s) = (goalF gs g : Nat) := by omega
    rw [this]
    exact ⟨by omega, by simpa using hgoal g h1⟩
  · rw [hs] at h ⊢
    exact (at_start _ a m gs 0 k _ hg h e).2.2.1 b c rfl
  · rw [hs] at h ⊢
    exact (at_start _ a m gs 0 k _ hg h e).2.2.2 hi
/-- the bare words, as the items show them -/
theorem isSet_jump (g : Nat) : isSet (itD (.jump g)) = false := rfl
theorem bares_its (m a : Nat) (ha : a < 3) : ∀ (gs : List Gp) (k : Nat), Good m gs → bares ((its gs ++ [Itm.ins (I.ret a)]).map itD) k = bsG k gs
  | [], k, _ => by
    have : isSet (itD (.ins (.ret a))) = false := isSet_enc (i := .ret a) ha
    simp [its, bares, this, bsG]
  | .one i :: r, k, h => by
    have h1 := one_plain (h _ List.mem_cons_self)
    have : isSet (itD (.ins i)) = false := by rw [itD, isSet_enc h1.2.1, h1.1]
    rw [its, List.cons_append, List.map_cons, bares_plain this, bares_its m a ha r (k + 1) (fun g hg => h g (List.mem_cons_of_mem _ hg)), bsG]
  | .jump i :: r, k, h => by
    rw [its, List.cons_append, List.map_cons, bares_plain (isSet_jump _), bares_its m a ha r (k + 1) (fun g hg => h g (List.mem_cons_of_mem _ hg)), bsG]
  | .set s :: r, k, h => by
    have : isSet (itD (.ins .setl)) = true := isSet_enc (i := .setl) trivial
    rw [its, List.cons_append, List.cons_append, List.map_cons, List.map_cons, bares, if_pos this, bares_its m a ha r (k + 2) (fun g hg => h g (List.mem_cons_of_mem _ hg)), bsG]
  | .test b c g :: r, k, h => by
    have hgg := h _ List.mem_cons_self
    have : isSet (itD (.ins (.test b c))) = false := isSet_enc (i := .test b c) ⟨hgg.1, hgg.2.1⟩
    rw [its, List.cons_append, List.cons_append, List.map_cons, List.map_cons, bares_plain this, bares_plain (isSet_jump _), bares_its m a ha r (k + 2) (fun g hg => h g (List.mem_cons_of_mem _ hg)), bsG]
/-- the items, told -/
noncomputable def tellI (f : Nat → Nat) (k : Nat) : Itm → D
  | .ins i => .int (enc i)
  | .jump g => .int (enc (jmpTo f k g))
noncomputable def tell (f : Nat → Nat) : Nat → List Itm → List D
  | _, [] => []
  | k, x :: r => tellI f k x :: tell f (k + 1) r
theorem tell_bld (f : Nat → Nat) (a : Nat) : ∀ (gs : List Gp) (k : Nat), tell f k (its gs ++ [Itm.ins (I.ret a)]) = encs (bld f a k gs)
  | [], k => rfl
  | .one i :: r, k | .jump g :: r, k => by simp only [its, List.cons_append, tell, tellI, bld, encs, List.map_cons, tell_bld f a r (k + 1)]
  | .set s :: r, k | .test b c g :: r, k => by simp only [its, List.cons_append, tell, tellI, bld, encs, List.map_cons, tell_bld f a r (k + 2)]
end Mine
end

/-! ### P12c -/
section
set_option tactic.hygienic false
set_option genSizeOf false
set_option bootstrap.genMatcherCode false
open PySem
set_option linter.unusedVariables false
set_option linter.unusedSimpArgs false
set_option maxRecDepth 100000
namespace Mine
variable {ns : List Int} {C : Calls'} {ρ ρ' : List V} {H H' : List O} {is : List I}

/-! ## _law_words -/
noncomputable def hp (b : O) (A : List O) (xs : List D) : List O := b :: (A ++ [.lst (xs.map .d)])
theorem hp_get (b : O) (A : List O) (xs : List D) : getO (hp b A xs) (A.length + 1) = .lst (xs.map .d) := getO_end A _
theorem hp_set (b : O) (A : List O) (xs : List D) (o : O) : (hp b A xs).set (A.length + 1) o = b :: (A ++ [o]) := congrArg (b :: ·) (set_last A _ o)
theorem x_appH {b b' : O} {A : List O} {xs : List D} {o x : X} {d : D} (h1 : ev ns C o ρ (hp b A xs) = some (.loc (A.length + 1), hp b A xs)) (h2 : ev ns C x ρ (hp b A xs) = some (.d d, hp b' A xs)) (hl : xs.length < 1000) :
    exec ns C (.app o x) ρ (hp b A xs) = some (.next, ρ, hp b' A (xs ++ [d])) := by
  have hb : (xs.map V.d).length < big := by have : big = 1000000 := rfl; rw [List.length_map]; omega
  exact (x_app h1 (hp_get ..) h2 (hp_get ..) hb).trans (by rw [hp_set]; unfold hp; rw [List.map_append]; rfl)
theorem x_lenH {m l : Nat} {x : X} {xs : List D} (hx : ev ns C x ρ H = some (.loc l, H')) (h1 : getO H' l = .lst (xs.map .d)) (hm : xs.length = m) : ev ns C (.len x) ρ H = some (.d (.int (m : Nat)), H') := by
  rw [ev_len_eq, hx, vh_some, ← hm]
  show oh (gl (getO H' l) some) _ = _
  rw [h1]
  exact congrArg (fun m : Nat => some (V.d (.int m), H')) (List.length_map ..)
theorem x_killV {i l : Nat} {d : D} (h1 : ρ[i]? = some (.loc l)) (h2 : killO (getO H l) = some d) : exec ns C (.killV i) ρ H = some (.next, ρ.set i (.d d), H.set l .dead) := by
  rw [ex_killV_eq, h1]
  show oh (killO (getO H l)) _ = _
  rw [h2]; rfl
theorem x_kill {x : X} {l : Nat} {d : D} (h1 : ev ns C x ρ H = some (.loc l, H')) (h2 : killO (getO H' l) = some d) : ev ns C (.kill x) ρ H = some (.d d, H'.set l .dead) := by
  rw [ev_kill_eq, h1, ph_some, h2]; rfl
theorem x_catM {x y : X} {l : Nat} {xs : List V} {ys : List D} {H1 H2 : List O} (h1 : ev ns C x ρ H = some (.loc l, H1)) (h2 : ev ns C y ρ H1 = some (.d (.lst ys), H2)) (h3 : getO H2 l = .lst xs) (h4 : xs.length + ys.length ≤ big) : ev ns C (.catM x y) ρ H = some (.loc H2.length, H2 ++ [.lst (xs ++ ys.map .d)]) := by
  rw [ev_catM_eq, h1, ph_some, h2, lh_some, h3, gl_lst, if_pos h4]
theorem hp_kill (b : O) (A : List O) (xs : List D) : killO (getO (hp b A xs) (A.length + 1)) = some (.lst xs) := by
  rw [hp_get]
  show oh (toDs (xs.map .d)) _ = _
  rw [toDs_map]; rfl
noncomputable def body_wd : S := match b_law_words with
  | .seq _ (.seq (.whl _ _ b) _) => b
  | _ => .skip
noncomputable def cond_wd : X := .cmp .lt (.len (.var 2)) (.var 1)
/-- the items so far, in data -/
noncomputable def dts (gs : List Gp) : List D := (its gs).map itD
theorem dts_app (g h : List Gp) : dts (g ++ h) = dts g ++ dts h := by simp [dts, its_app]
theorem dts_len (gs : List Gp) : (dts gs).length = (its gs).length := by simp [dts]
theorem wd_turn {sc : List Int} {b : O} (hb : Bx sc b) {m : Nat} (hm : 0 < m) (n : Nat) (A : List O) (gs : List Gp) (hl : (its gs).length < 900) (f : V) (r : List V) :
    ∃ (b' : O) (A' : List O) (g : Gp) (f' : V), Bx sc b' ∧ g.good m ∧ exec ns (callN ns fns (n + 2)) body_wd (.loc 0 :: .d (.int (m : Nat)) :: .loc (A.length + 1) :: f :: r) (hp b A (dts gs)) =
      some (.next, .loc 0 :: .d (.int (m : Nat)) :: .loc (A'.length + 1) :: f' :: r, hp b' A' (dts (gs ++ [g]))) := by
  obtain ⟨b0, form, hb0, hform, e0⟩ := ev_take (ns := ns) hb (many := 7) (by decide)
  have hdl := dts_len gs
  have hf0 : exec ns (callN ns fns (n + 2)) (.asg 3 (.callI 26 (.cons (.var 0) (.cons (.cst (.int 7)) .nil)))) (.loc 0 :: .d (.int (m : Nat)) :: .loc (A.length + 1) :: f :: r) (hp b A (dts gs)) = some (.next, .loc 0 :: .d (.int (m : Nat)) :: .loc (A.length + 1) :: .d (.int (form : Nat)) :: r, hp b0 A (dts gs)) :=
    exec_asg (e0 (n + 1) _ _ _ rfl (fun H => rfl)) (Nat.le_add_left 4 _)
  have hform' : ∀ (k : Int) (H : List O), ev ns (callN ns fns (n + 2)) (.cmp .eq (.var 3) (.cst (.int k))) (.loc 0 :: .d (.int (m : Nat)) :: .loc (A.length + 1) :: .d (.int (form : Nat)) :: r) H = some (.d (.bool ((form : Int) == k)), H) := fun k H => x_cmp rfl rfl rfl
  have hv2 : ∀ (b : O) (xs : List D), ev ns (callN ns fns (n + 2)) (.var 2) (.loc 0 :: .d (.int (m : Nat)) :: .loc (A.length + 1) :: .d (.int (form : Nat)) :: r) (hp b A xs) = some (.loc (A.length + 1), hp b A xs) := fun b xs => rfl
  have sm : ∀ k : Nat, k < 10 → small (k : Int) = true := fun k hk => small_of (by omega) (by omega)
  have s0 : small 0 = true := by decide
  have s1 : small 1 = true := by decide
  by_cases c0 : form = 0
  · subst c0
    obtain ⟨b1, x, hb1, hx, e1⟩ := ev_take (ns := ns) hb0 (many := 3) (by decide)
    obtain ⟨b2, y, hb2, hy, e2⟩ := ev_take (ns := ns) hb1 (many := 4) (by decide)
    refine ⟨b2, A, .one (.loadk x y), _, hb2, ⟨hx, hy⟩, seq_n hf0 (seq_n (ρ' := .loc 0 :: .d (.int (m : Nat)) :: .loc (A.length + 1) :: .d (.int (0 : Nat)) :: r) (H' := hp b2 A (dts (gs ++ [.one (.loadk x y)]))) (ifs_t (hform' 0 _) (seq_n ?_ rfl)) rfl)⟩
    rw [dts_app]
    exact x_appH (hv2 _ _) (x_call (ds := [.int 1, .int (x : Nat), .int (y : Nat)]) (x_cons rfl (x_cons (e1 (n + 1) _ _ _ rfl (fun H => rfl)) (x_cons (e2 (n + 1) _ _ _ rfl (fun H => rfl)) rfl))) (c_abx (n + 1) 1 x y s1 (sm x (by omega)) (sm y (by omega)))) (by omega)
  by_cases c1 : form = 1
  · subst c1
    obtain ⟨b1, x, hb1, hx, e1⟩ := ev_take (ns := ns) hb0 (many := 3) (by decide)
    obtain ⟨b2, y, hb2, hy, e2⟩ := ev_take (ns := ns) hb1 (many := 3) (by decide)
    refine ⟨b2, A, .one (.move x y), _, hb2, ⟨hx, hy⟩, seq_n hf0 (seq_n (ρ' := .loc 0 :: .d (.int (m : Nat)) :: .loc (A.length + 1) :: .d (.int (1 : Nat)) :: r) (H' := hp b2 A (dts (gs ++ [.one (.move x y)]))) (ifs_f (hform' 0 _) (seq_n (ifs_t (hform' 1 _) (seq_n ?_ rfl)) rfl)) rfl)⟩
    rw [dts_app]
    exact x_appH (hv2 _ _) (x_call (ds := [.int 0, .int (x : Nat), .int (y : Nat), .int 0]) (x_cons rfl (x_cons (e1 (n + 1) _ _ _ rfl (fun H => rfl)) (x_cons (e2 (n + 1) _ _ _ rfl (fun H => rfl)) (x_cons rfl rfl)))) (c_abc (n + 1) 0 x y 0 s0 (sm x (by omega)) (sm y (by omega)) s0)) (by omega)
  by_cases c4 : form = 4
  · subst c4
    obtain ⟨b1, x, hb1, hx, e1⟩ := ev_take (ns := ns) hb0 (many := 3) (by decide)
    obtain ⟨b2, y, hb2, hy, e2⟩ := ev_take (ns := ns) hb1 (many := 3) (by decide)
    refine ⟨b2, A, .one (.neg x y), _, hb2, ⟨hx, hy⟩, seq_n hf0 (seq_n (ρ' := .loc 0 :: .d (.int (m : Nat)) :: .loc (A.length + 1) :: .d (.int (4 : Nat)) :: r) (H' := hp b2 A (dts (gs ++ [.one (.neg x y)]))) (ifs_f (hform' 0 _) (seq_n (ifs_f (hform' 1 _) (seq_n (ifs_t (hform' 4 _) (seq_n ?_ rfl)) rfl)) rfl)) rfl)⟩
    rw [dts_app]
    exact x_appH (hv2 _ _) (x_call (ds := [.int 19, .int (x : Nat), .int (y : Nat), .int 0]) (x_cons rfl (x_cons (e1 (n + 1) _ _ _ rfl (fun H => rfl)) (x_cons (e2 (n + 1) _ _ _ rfl (fun H => rfl)) (x_cons rfl rfl)))) (c_abc (n + 1) 19 x y 0 (by decide) (sm x (by omega)) (sm y (by omega)) s0)) (by omega)
  by_cases c6 : form = 6
  · subst c6
    obtain ⟨b1, x, hb1, hx, e1⟩ := ev_take (ns := ns) hb0 (many := 3) (by decide)
    have ec1 : ∀ H, ev ns (callN ns fns (n + 2)) (.call 2 (.cons (.glob 27) (.cons (.cst (.int 1)) (.cons (.cst (.int 1)) (.cons (.cst (.int 0)) .nil))))) (.loc 0 :: .d (.int (m : Nat)) :: .loc (A.length + 1) :: .d (.int (6 : Nat)) :: r) H = some (.d (.int (enc .setl)), H) := fun H =>
      x_call (ds := [.int 34, .int 1, .int 1, .int 0]) (x_cons rfl (x_cons rfl (x_cons rfl (x_cons rfl rfl)))) (c_abc (n + 1) 34 1 1 0 (by decide) s1 s1 s0)
    have ec2 : ∀ T, ev ns (callN ns fns (n + 2)) (.call 4 (.cons (.glob 17) (.cons (.cst (.int 0)) (.cons (.callI 26 (.cons (.var 0) (.cons (.cst (.int 3)) .nil))) .nil)))) (.loc 0 :: .d (.int (m : Nat)) :: .loc (A.length + 1) :: .d (.int (6 : Nat)) :: r) (b0 :: T) = some (.d (.int (enc (.jmp (x : Nat)))), b1 :: T) := fun T =>
      x_call (ds := [.int 22, .int 0, .int (x : Nat)]) (x_cons rfl (x_cons rfl (x_cons (e1 (n + 1) _ _ _ rfl (fun H => rfl)) rfl))) (c_asbx n 22 0 x (by decide) s0 (small_of (by omega) (by omega)))
    have eL : ev ns (callN ns fns (n + 2)) (.list (.cons (.call 2 (.cons (.glob 27) (.cons (.cst (.int 1)) (.cons (.cst (.int 1)) (.cons (.cst (.int 0)) .nil))))) (.cons (.call 4 (.cons (.glob 17) (.cons (.cst (.int 0)) (.cons (.callI 26 (.cons (.var 0) (.cons (.cst (.int 3)) .nil))) .nil)))) .nil))) (.loc 0 :: .d (.int (m : Nat)) :: .loc (A.length + 1) :: .d (.int (6 : Nat)) :: r) (hp b0 A (dts gs)) = some (.d (.lst [.int (enc .setl), .int (enc (.jmp (x : Nat)))]), hp b1 A (dts gs)) := by
      exact x_list (ds := [.int (enc .setl), .int (enc (.jmp (x : Nat)))]) (x_cons (ec1 _) (x_cons (ec2 _) rfl))
    refine ⟨b1, A ++ [O.lst ((dts gs).map .d)], .set (x : Nat), _, hb1, ⟨by omega, by omega⟩, seq_n hf0 (seq_n (ρ' := .loc 0 :: .d (.int (m : Nat)) :: .loc ((A ++ [O.lst ((dts gs).map .d)]).length + 1) :: .d (.int (6 : Nat)) :: r) (H' := hp b1 (A ++ [O.lst ((dts gs).map .d)]) (dts (gs ++ [.set (x : Nat)]))) (ifs_f (hform' 0 _) (seq_n (ifs_f (hform' 1 _) (seq_n (ifs_f (hform' 4 _) (seq_n (ifs_t (hform' 6 _) (seq_n ?_ rfl)) rfl)) rfl)) rfl)) rfl)⟩
    have hbig : ((dts gs).map V.d).length + [D.int (enc .setl), .int (enc (.jmp (x : Nat)))].length ≤ big := by
      have : big = 1000000 := rfl
      rw [List.length_map, List.length_cons, List.length_singleton]; omega
    rw [show hp b1 (A ++ [O.lst ((dts gs).map .d)]) (dts (gs ++ [.set (x : Nat)])) = hp b1 A (dts gs) ++ [.lst ((dts gs).map .d ++ [D.int (enc .setl), .int (enc (.jmp (x : Nat)))].map .d)] by rw [dts_app]; unfold hp; rw [List.map_append]; rfl]
    exact exec_asg (i := 2) (x_catM (hv2 _ _) eL (hp_get ..) hbig) (Nat.le_add_left 3 _)
  by_cases c5 : form = 5
  · subst c5
    obtain ⟨b1, x, hb1, hx, e1⟩ := ev_take (ns := ns) hb0 (many := 3) (by decide)
    obtain ⟨b2, y, hb2, hy, e2⟩ := ev_take (ns := ns) hb1 (many := 2) (by decide)
    obtain ⟨b3, z, hb3, hz, e3⟩ := ev_take (ns := ns) hb2 (many := m) hm
    refine ⟨b3, A, .test x y z, _, hb3, ⟨hx, hy, hz⟩, seq_n hf0 (seq_n (ρ' := .loc 0 :: .d (.int (m : Nat)) :: .loc (A.length + 1) :: .d (.int (5 : Nat)) :: r) (H' := hp b3 A (dts (gs ++ [.test x y z]))) (ifs_f (hform' 0 _) (seq_n (ifs_f (hform' 1 _) (seq_n (ifs_f (hform' 4 _) (seq_n (ifs_f (hform' 6 _) (seq_n (ρ' := .loc 0 :: .d (.int (m : Nat)) :: .loc (A.length + 1) :: .d (.int (5 : Nat)) :: r) (H' := hp b2 A (dts gs ++ [.int (enc (.test x y))])) (ifs_t (hform' 5 _) (seq_n ?_ rfl)) (seq_n ?_ rfl))) rfl)) rfl)) rfl)) rfl)⟩
    · exact x_appH (hv2 _ _) (x_call (ds := [.int 26, .int (x : Nat), .int 0, .int (y : Nat)]) (x_cons rfl (x_cons (e1 (n + 1) _ _ _ rfl (fun H => rfl)) (x_cons rfl (x_cons (e2 (n + 1) _ _ _ rfl (fun H => rfl)) rfl)))) (c_abc (n + 1) 26 x 0 y (by decide) (sm x (by omega)) s0 (sm y (by omega)))) (by omega)
    · have : dts (gs ++ [.test x y z]) = (dts gs ++ [.int (enc (.test x y))]) ++ [itD (.jump z)] := by simp [dts, its_app, its, itD]
      rw [this]
      refine x_appH (hv2 _ _) ?_ (by simp; omega)
      exact x_tup (ds := [.str (Str.ofString "jump"), .int (z : Nat)]) (x_cons rfl (x_cons (e3 (n + 1) _ _ _ rfl (fun H => rfl)) rfl))
  · obtain ⟨b3, z, hb3, hz, e3⟩ := ev_take (ns := ns) hb0 (many := m) hm
    have n0 : ((form : Int) == 0) = false := beq_f (by omega)
    have n1 : ((form : Int) == 1) = false := beq_f (by omega)
    have n4 : ((form : Int) == 4) = false := beq_f (by omega)
    have n5 : ((form : Int) == 5) = false := beq_f (by omega)
    have n6 : ((form : Int) == 6) = false := beq_f (by omega)
    have h0 := hform' 0
    have h1 := hform' 1
    have h4 := hform' 4
    have h5 := hform' 5
    have h6 := hform' 6
    rw [n0] at h0
    rw [n1] at h1
    rw [n4] at h4
    rw [n5] at h5
    rw [n6] at h6
    refine ⟨b3, A, .jump z, _, hb3, hz, seq_n hf0 (seq_n (ρ' := .loc 0 :: .d (.int (m : Nat)) :: .loc (A.length + 1) :: .d (.int (form : Nat)) :: r) (H' := hp b3 A (dts (gs ++ [.jump z]))) (ifs_f (h0 _) (seq_n (ifs_f (h1 _) (seq_n (ifs_f (h4 _) (seq_n (ifs_f (h6 _) (seq_n (ρ' := .loc 0 :: .d (.int (m : Nat)) :: .loc (A.length + 1) :: .d (.int (form : Nat)) :: r) (H' := hp b0 A (dts gs)) (ifs_f (h5 _) rfl) (seq_n ?_ rfl))) rfl)) rfl)) rfl)) rfl)⟩
    rw [dts_app]
    refine x_appH (hv2 _ _) ?_ (by omega)
    exact x_tup (ds := [.str (Str.ofString "jump"), .int (z : Nat)]) (x_cons rfl (x_cons (e3 (n + 1) _ _ _ rfl (fun H => rfl)) rfl))
theorem its_one (gs : List Gp) (g : Gp) : (its gs).length < (its (gs ++ [g])).length ∧ (its (gs ++ [g])).length ≤ (its gs).length + 2 := by
  rw [its_app, List.length_append]
  cases g <;> simp [its]
theorem wd_loop {sc : List Int} {m : Nat} (hm : 0 < m) (hm2 : m ≤ 11) (n : Nat) (r : List V) : ∀ (fuel : Nat) (b : O) (A : List O) (gs : List Gp) (f : V), Bx sc b → Good m gs → (its gs).length ≤ m + 1 → m + 1 < (its gs).length + fuel →
    ∃ (b' : O) (A' : List O) (gs' : List Gp) (f' : V), Bx sc b' ∧ Good m gs' ∧ m ≤ (its gs').length ∧ (its gs').length ≤ m + 1 ∧ exec ns (callN ns fns (n + 2)) (.whl fuel cond_wd body_wd) (.loc 0 :: .d (.int (m : Nat)) :: .loc (A.length + 1) :: f :: r) (hp b A (dts gs)) =
      some (.next, .loc 0 :: .d (.int (m : Nat)) :: .loc (A'.length + 1) :: f' :: r, hp b' A' (dts gs'))
  | 0, b, A, gs, f, hb, hg, hl, hf => by omega
  | fuel + 1, b, A, gs, f, hb, hg, hl, hf => by
    have hcond : ev ns (callN ns fns (n + 2)) cond_wd (.loc 0 :: .d (.int (m : Nat)) :: .loc (A.length + 1) :: f :: r) (hp b A (dts gs)) = some (.d (.bool (decide ((its gs).length < m))), hp b A (dts gs)) := by
      exact x_cmp (x_lenH rfl (hp_get ..) (dts_len gs)) rfl (congrArg some (decide_eq_decide.mpr Int.ofNat_lt))
    by_cases hlt : (its gs).length < m
    · rw [decide_eq_true hlt] at hcond
      obtain ⟨b1, A1, g, f1, hb1, hg1, e1⟩ := wd_turn (ns := ns) hb hm n A gs (by omega) f r
      have ho := its_one gs g
      obtain ⟨b', A', gs', f', c1, c2, c3, c4, c5⟩ := wd_loop hm hm2 n r fuel b1 A1 (gs ++ [g]) f1 hb1 (fun x hx => by
        rcases List.mem_append.mp hx with hx | hx
        · exact hg x hx
        · rw [List.mem_singleton.mp hx]; exact hg1) (by omega) (by omega)
      exact ⟨b', A', gs', f', c1, c2, c3, c4, whl_t hcond e1 c5⟩
    · rw [decide_eq_false hlt] at hcond
      exact ⟨b, A, gs, f, hb, hg, by omega, hl, whl_f hcond⟩
noncomputable def body_tl : S := match b_law_words with
  | .seq _ (.seq _ (.seq _ (.seq _ (.seq _ (.seq (.forE _ _ _ b) _))))) => b
  | _ => .skip
theorem tl_step {a0 a1 a2 a3 x7 x8 : V} {bs : List Nat} (n : Nat) (b : O) (A : List O) (xs : List D) (k : Nat) (t : Itm) (hk : k ≤ 20) (ht : match t with | .jump g => g ≤ 20 | _ => True) (hl : xs.length < 900) :
    ∃ x7' x8', exec ns (callN ns fns (n + 2)) body_tl [a0, a1, a2, a3, .loc (A.length + 1), .d (.lst (natsD bs)), .d (.int (k : Nat)), .d (itD t), x8] (hp b A xs) =
      some (.next, [a0, a1, a2, a3, .loc (A.length + 1), .d (.lst (natsD bs)), .d (.int (k : Nat)), x7', x8'], hp b A (xs ++ [tellI (fun g => if g ∈ bs then g + 1 else g) k t])) := by
  cases t with
  | ins i =>
    refine ⟨.d (.int (enc i)), x8, seq_n (ρ' := [a0, a1, a2, a3, .loc (A.length + 1), .d (.lst (natsD bs)), .d (.int (k : Nat)), .d (.int (enc i)), x8]) (H' := hp b A xs) (ifs_f (H' := hp b A xs) (x_isTup rfl rfl) rfl) (seq_n (x_appH rfl rfl (by omega)) rfl)⟩
  | jump g =>
    have ht : g ≤ 20 := ht
    have hi := in_nats (H := hp b A xs) bs g
    have hg1 : ∀ ρ : List V, ρ[7]? = some (.d (itD (.jump g))) → ev ns (callN ns fns (n + 2)) (.idx (.var 7) (.cst (.int 1))) ρ (hp b A xs) = some (.d (.int (g : Nat)), hp b A xs) := fun ρ hρ => x_idx (by rw [ev_var_eq, hρ]; rfl) rfl rfl
    have hgoal : ev ns (callN ns fns (n + 2)) (.ite (.cmp .isin (.idx (.var 7) (.cst (.int 1))) (.var 5)) (.bin .add (.idx (.var 7) (.cst (.int 1))) (.cst (.int 1))) (.idx (.var 7) (.cst (.int 1)))) [a0, a1, a2, a3, .loc (A.length + 1), .d (.lst (natsD bs)), .d (.int (k : Nat)), .d (itD (.jump g)), x8] (hp b A xs) = some (.d (.int ((if g ∈ bs then g + 1 else g : Nat))), hp b A xs) := by
      have hgx := hg1 [a0, a1, a2, a3, .loc (A.length + 1), .d (.lst (natsD bs)), .d (.int (k : Nat)), .d (itD (.jump g)), x8] rfl
      have hc : ev ns (callN ns fns (n + 2)) (.cmp .isin (.idx (.var 7) (.cst (.int 1))) (.var 5)) [a0, a1, a2, a3, .loc (A.length + 1), .d (.lst (natsD bs)), .d (.int (k : Nat)), .d (itD (.jump g)), x8] (hp b A xs) = some (.d (.bool (decide (g ∈ bs))), hp b A xs) := x_cmp hgx rfl hi
      by_cases hm : g ∈ bs
      · rw [decide_eq_true hm] at hc
        rw [if_pos hm]
        exact x_ite_t hc (x_bin hgx rfl rfl)
      · rw [decide_eq_false hm] at hc
        rw [if_neg hm]
        exact x_ite_f hc hgx
    have hle : (if g ∈ bs then g + 1 else g) ≤ 21 := by split <;> omega
    have hcall : ev ns (callN ns fns (n + 2)) (.call 4 (.cons (.glob 17) (.cons (.cst (.int 0)) (.cons (.bin .sub (.bin .sub (.var 8) (.var 6)) (.cst (.int 1))) .nil)))) [a0, a1, a2, a3, .loc (A.length + 1), .d (.lst (natsD bs)), .d (.int (k : Nat)), .d (itD (.jump g)), .d (.int ((if g ∈ bs then g + 1 else g : Nat)))] (hp b A xs) = some (.d (tellI (fun g => if g ∈ bs then g + 1 else g) k (.jump g)), hp b A xs) := by
      have hb : ∀ H, ev ns (callN ns fns (n + 2)) (.bin .sub (.bin .sub (.var 8) (.var 6)) (.cst (.int 1))) [a0, a1, a2, a3, .loc (A.length + 1), .d (.lst (natsD bs)), .d (.int (k : Nat)), .d (itD (.jump g)), .d (.int ((if g ∈ bs then g + 1 else g : Nat)))] H = some (.d (.int (((if g ∈ bs then g + 1 else g : Nat) : Int) - k - 1)), H) := fun H => x_bin (x_bin rfl rfl rfl) rfl rfl
      exact x_call (ds := [.int 22, .int 0, .int (((if g ∈ bs then g + 1 else g : Nat) : Int) - k - 1)]) (x_cons rfl (x_cons rfl (x_cons (hb _) rfl))) (c_asbx n 22 0 _ (by decide) (by decide) (small_of (by omega) (by omega)))
    refine ⟨.d (tellI (fun g => if g ∈ bs then g + 1 else g) k (.jump g)), .d (.int ((if g ∈ bs then g + 1 else g : Nat))), seq_n (ρ' := [a0, a1, a2, a3, .loc (A.length + 1), .d (.lst (natsD bs)), .d (.int (k : Nat)), .d (tellI (fun g => if g ∈ bs then g + 1 else g) k (.jump g)), .d (.int ((if g ∈ bs then g + 1 else g : Nat)))]) (H' := hp b A xs) (ifs_t (H' := hp b A xs) (x_isTup rfl rfl) (seq_n (x_asg hgoal rfl) (seq_n (x_asg hcall rfl) rfl))) (seq_n (x_appH rfl rfl (by omega)) rfl)⟩
theorem tl_loop {a0 a1 a2 a3 : V} {bs : List Nat} (n : Nat) (b : O) (A : List O) : ∀ (l : List Itm) (k : Nat) (xs : List D) (x6 x7 x8 : V), k + l.length ≤ 20 → (∀ t ∈ l, match t with | .jump g => g ≤ 20 | _ => True) → xs.length + l.length < 900 →
    ∃ x6' x7' x8', forLoopE (fun k v ρ H => exec ns (callN ns fns (n + 2)) body_tl ((ρ.set 6 (.d (.int (k : Nat)))).set 7 v) H) k ((l.map itD).map .d) [a0, a1, a2, a3, .loc (A.length + 1), .d (.lst (natsD bs)), x6, x7, x8] (hp b A xs) =
      some (.next, [a0, a1, a2, a3, .loc (A.length + 1), .d (.lst (natsD bs)), x6', x7', x8'], hp b A (xs ++ tell (fun g => if g ∈ bs then g + 1 else g) k l))
  | [], k, xs, x6, x7, x8, _, _, _ => ⟨x6, x7, x8, by rw [show xs ++ tell (fun g => if g ∈ bs then g + 1 else g) k [] = xs from List.append_nil xs]; rfl⟩
  | t :: l, k, xs, x6, x7, x8, h1, h2, h3 => by
    simp only [List.length_cons] at h1 h3
    obtain ⟨y7, y8, hs⟩ := tl_step (ns := ns) (a0 := a0) (a1 := a1) (a2 := a2) (a3 := a3) (x7 := x7) (x8 := x8) (bs := bs) n b A xs k t (by omega) (h2 t List.mem_cons_self) (by omega)
    obtain ⟨x6', x7', x8', ih⟩ := tl_loop (a0 := a0) (a1 := a1) (a2 := a2) (a3 := a3) (bs := bs) n b A l (k + 1) (xs ++ [tellI (fun g => if g ∈ bs then g + 1 else g) k t]) (.d (.int (k : Nat))) y7 y8 (by omega) (fun t ht => h2 t (List.mem_cons_of_mem _ ht)) (by simp; omega)
    exact ⟨x6', x7', x8', (forE_cons hs ih).trans (by rw [List.append_assoc]; rfl)⟩
theorem plain_dts (l : List Itm) : ∀ d ∈ l.map itD, plainD d := fun d hd => by
  obtain ⟨t, _, rfl⟩ := List.mem_map.mp hd
  cases t <;> trivial
theorem its_jump {m : Nat} : ∀ {gs : List Gp}, Good m gs → ∀ t ∈ its gs, match t with | .jump g => g < m | _ => True
  | [], _, t, ht => by cases ht
  | .one i :: r, h, t, ht => by
    rw [its] at ht
    rcases List.mem_cons.mp ht with rfl | ht
    · trivial
    · exact its_jump (gs := r) (fun g hg => h g (List.mem_cons_of_mem _ hg)) t ht
  | .jump i :: r, h, t, ht => by
    rw [its] at ht
    rcases List.mem_cons.mp ht with rfl | ht
    · exact h _ List.mem_cons_self
    · exact its_jump (gs := r) (fun g hg => h g (List.mem_cons_of_mem _ hg)) t ht
  | .set s :: r, h, t, ht => by
    rw [its] at ht
    rcases List.mem_cons.mp ht with rfl | ht
    · trivial
    rcases List.mem_cons.mp ht with rfl | ht
    · trivial
    · exact its_jump (gs := r) (fun g hg => h g (List.mem_cons_of_mem _ hg)) t ht
  | .test b c g :: r, h, t, ht => by
    rw [its] at ht
    rcases List.mem_cons.mp ht with rfl | ht
    · trivial
    rcases List.mem_cons.mp ht with rfl | ht
    · exact (h _ List.mem_cons_self).2.2
    · exact its_jump (gs := r) (fun g hg => h g (List.mem_cons_of_mem _ hg)) t ht
theorem c_words {sc : List Int} {b : O} (hb : Bx sc b) (n : Nat) (T : List O) : ∃ (b' : O) (T' : List O) (is : List I), Bx sc b' ∧ WF is ∧ callN ns fns (n + 4) 27 [.loc 0] (b :: T) = some (.d (codeD is), b' :: T') := by
  obtain ⟨b1, r9, hb1, hr9, e9⟩ := ev_take (ns := ns) hb (many := 9) (by decide)
  obtain ⟨b2, A2, gs, f2, hb2, hg2, hlo, hhi, hw⟩ := wd_loop (ns := ns) (sc := sc) (m := 2 + r9) (by omega) (by omega) (n + 1) [.undef, .undef, .undef, .undef, .undef] 40 b1 T [] .undef hb1 (fun g hg => by cases hg) (by simp [its]) (by simp [its]; omega)
  obtain ⟨b3, a, hb3, ha, e3⟩ := ev_take (ns := ns) hb2 (many := 3) (by decide)
  have hds : dts gs ++ [.int (enc (.ret a))] = (its gs ++ [Itm.ins (I.ret a)]).map itD := by simp [dts, itD]
  have hlen := dts_len gs
  have hbare := bares_its (2 + r9) a ha gs 0 hg2
  have hB := ev_bare (ns := ns) (H := hp b3 (A2 ++ [O.dead]) []) (ρ := [.loc 0, .d (.int ((2 + r9 : Nat))), .d (.lst (dts gs ++ [.int (enc (.ret a))])), f2, .undef, .undef, .undef, .undef, .undef]) (ds := (its gs ++ [Itm.ins (I.ret a)]).map itD) (plain_dts _) n (by simp; omega) (x := .var 2) (by rw [← hds]; rfl)
  rw [hbare] at hB
  obtain ⟨x6, x7, x8, hl⟩ := tl_loop (ns := ns) (a0 := .loc 0) (a1 := .d (.int ((2 + r9 : Nat)))) (a2 := .d (.lst (dts gs ++ [.int (enc (.ret a))]))) (a3 := f2) (bs := bsG 0 gs) (n + 1) b3 (A2 ++ [O.dead]) (its gs ++ [Itm.ins (I.ret a)]) 0 [] .undef .undef .undef (by simp; omega) (fun t ht => by
    rcases List.mem_append.mp ht with ht | ht
    · have := its_jump hg2 t ht
      cases t with
      | ins i => trivial
      | jump g => exact Nat.le_of_lt (Nat.lt_of_lt_of_le this (by omega))
    · rw [List.mem_singleton.mp ht]; trivial) (by simp; omega)
  have htell := tell_bld (goalF gs) a gs 0
  refine ⟨b3, A2 ++ [O.dead] ++ [O.dead], bld (goalF gs) a 0 gs, hb3, bld_WF ha hg2 hlo (by omega), callN_of (fd := ⟨1, 9, b_law_words⟩) (ρ := [.loc 0, .d (.int ((2 + r9 : Nat))), .d (.lst (dts gs ++ [.int (enc (.ret a))])), f2, .loc ((A2 ++ [O.dead]).length + 1), .d (.lst (natsD (bsG 0 gs))), x6, x7, x8]) rfl rfl ?_⟩
  refine seq_n (ρ' := [.loc 0, .d (.int ((2 + r9 : Nat))), .loc (T.length + 1), .undef, .undef, .undef, .undef, .undef, .undef]) (H' := hp b1 T (dts [])) ?_ ?_
  · have hadd : ev ns (callN ns fns (n + 3)) (.bin .add (.cst (.int 2)) (.callI 26 (.cons (.var 0) (.cons (.cst (.int 9)) .nil)))) [.loc 0, .undef, .undef, .undef, .undef, .undef, .undef, .undef, .undef] (b :: T) = some (.d (.int ((2 + r9 : Nat))), b1 :: T) := by
      have := e9 (n + 2) T [.loc 0, .undef, .undef, .undef, .undef, .undef, .undef, .undef, .undef] (.cst (.int 9)) rfl (fun H => rfl)
      exact x_bin (i := 2) (j := (r9 : Nat)) rfl this (congrArg some (by omega))
    have hls : ev ns (callN ns fns (n + 3)) (.listM .nil) [.loc 0, .undef, .undef, .undef, .undef, .undef, .undef, .undef, .undef] (b1 :: T) = some (.loc (T.length + 1), hp b1 T (dts [])) := by
      rfl
    exact x_asgT (x_cons hadd (x_cons hls rfl)) rfl
  refine seq_n hw ?_
  refine seq_n (ρ' := [.loc 0, .d (.int ((2 + r9 : Nat))), .loc (A2.length + 1), f2, .undef, .undef, .undef, .undef, .undef]) (H' := hp b3 A2 (dts gs ++ [.int (enc (.ret a))])) ?_ ?_
  · exact x_appH rfl (x_call (ds := [.int 30, .int (a : Nat), .int 2, .int 0]) (x_cons rfl (x_cons (e3 (n + 2) _ _ _ rfl (fun H => rfl)) (x_cons rfl (x_cons rfl rfl)))) (c_abc (n + 2) 30 a 2 0 (by decide) (small_of (by omega) (by omega)) (by decide) (by decide))) (by omega)
  refine seq_n (ρ' := [.loc 0, .d (.int ((2 + r9 : Nat))), .d (.lst (dts gs ++ [.int (enc (.ret a))])), f2, .undef, .undef, .undef, .undef, .undef]) (H' := b3 :: (A2 ++ [O.dead])) ?_ ?_
  · exact (x_killV rfl (hp_kill ..)).trans (by rw [hp_set]; rfl)
  refine seq_n (ρ' := [.loc 0, .d (.int ((2 + r9 : Nat))), .d (.lst (dts gs ++ [.int (enc (.ret a))])), f2, .loc ((A2 ++ [O.dead]).length + 1), .d (.lst (natsD (bsG 0 gs))), .undef, .undef, .undef]) (H' := hp b3 (A2 ++ [O.dead]) []) ?_ ?_
  · exact x_asgT (vs := [.loc ((A2 ++ [O.dead]).length + 1), .d (.lst (natsD (bsG 0 gs)))]) (x_cons rfl (x_cons hB rfl)) rfl
  refine seq_n (ρ' := [.loc 0, .d (.int ((2 + r9 : Nat))), .d (.lst (dts gs ++ [.int (enc (.ret a))])), f2, .loc ((A2 ++ [O.dead]).length + 1), .d (.lst (natsD (bsG 0 gs))), x6, x7, x8]) (H' := hp b3 (A2 ++ [O.dead]) (encs (bld (goalF gs) a 0 gs))) ?_ ?_
  · rw [exec_forE (xs := dts gs ++ [.int (enc (.ret a))]) (H' := hp b3 (A2 ++ [O.dead]) []) rfl (Nat.le_of_ble_eq_true rfl) (Nat.le_of_ble_eq_true rfl), hds]
    rw [← htell]
    rw [hds] at hl
    exact hl
  refine seq_r (x_ret ?_)
  exact (x_kill rfl (hp_kill ..)).trans (by rw [hp_set]; rfl)
end Mine
end

/-! ### P13 -/
section
set_option tactic.hygienic false
set_option genSizeOf false
set_option bootstrap.genMatcherCode false
open PySem
set_option linter.unusedVariables false
set_option linter.unusedSimpArgs false
set_option maxRecDepth 100000
namespace Mine
variable {ns : List Int} {C : Calls'} {ρ ρ' : List V} {H H' : List O} {is : List I}

/-! ## law -/
theorem eq_code : eqD 8 (codeD is) (codeD is) = some true := by
  unfold codeD
  show eqL (eqD 7) _ _ = some true
  refine eqL_self_of fun x hx => ?_
  obtain ⟨i, _, rfl⟩ := List.mem_map.mp hx
  exact congrArg some (beq_self_eq_true _)
theorem ne_selfD {d : D} (h : eqD 8 d d = some true) : cmpV H .ne (.d d) (.d d) = some false := by rw [cmp_ne, h]; rfl
theorem c_law (ns : List Int) (n : Nat) : ∃ H', callN ns fns (n + 9) 38 [.scr] [] = some (.d (.bool true), H') := by
  obtain ⟨b1, T1, is1, hb1, w1, e1⟩ := c_words (ns := ns) (sc := ns.take 24) (b := boxO (ns.take 24) 0 7) ⟨0, 7, rfl, by decide⟩ (n + 4) []
  obtain ⟨b2, T2, is2, hb2, w2, e2⟩ := c_words (ns := ns) hb1 (n + 4) T1
  have hl1 := w1.len
  have hl2 := w2.len
  have hm1 : (encs is1).length = is1.length := List.length_map ..
  have hm2 : (encs is2).length = is2.length := List.length_map ..
  have em1 := c_made (ns := ns) (H := b2 :: T2) (n + 5) (ds := encs is1) (by omega)
  have em2 := c_made (ns := ns) (H := []) (n + 5) (ds := encs is2) (by omega)
  rw [hm1] at em1
  rw [hm2] at em2
  generalize hp2 : prD (codeD is2) [] is2.length = p2
  generalize hq2 : prD (codeD (thr is2)) [] is2.length = q2
  generalize hp1 : prD (codeD is1) [p2] is1.length = p1
  generalize hq1 : prD (codeD (thr is1)) [q2] is1.length = q1
  have wt1 := thr_WF w1
  have wt2 := thr_WF w2
  -- threads
  have ht2 : ∃ v H', callN ns fns (n + 7) 25 [.d p2] [] = some (v, H') ∧ frz 3 H' v = some q2 := by
    obtain ⟨H', h1, h2⟩ := c_thread (ns := ns) w2 (n + 1) (ps := []) (m := is2.length) (fun d => d) (fun q hq => by cases hq)
    rw [hp2] at h1
    rw [List.map_nil, hq2] at h2
    exact ⟨_, H', h1, h2⟩
  have ht1 : ∀ (ρ : List V) (H : List O) (x : X), ev ns (callN ns fns (n + 8)) x ρ H = some (.d p1, H) → ev ns (callN ns fns (n + 8)) (.call 25 (.cons x .nil)) ρ H = some (.d q1, H) := fun ρ H x hx => by
    have := ev_thread (ns := ns) w1 (n + 2) (ps := [p2]) (m := is1.length) (fun _ => q2) (fun q hq => by
      rw [List.mem_singleton.mp hq]; exact ht2) (x := x) (ρ := ρ) (H := H) (by rw [hp1]; exact hx)
    rw [List.map_cons, List.map_nil, hq1] at this
    exact this
  have ht4 : ∃ v H', callN ns fns (n + 7) 25 [.d q2] [] = some (v, H') ∧ frz 3 H' v = some q2 := by
    obtain ⟨H', h1, h2⟩ := c_thread (ns := ns) wt2 (n + 1) (ps := []) (m := is2.length) (fun d => d) (fun q hq => by cases hq)
    rw [hq2] at h1
    rw [List.map_nil, thr_thr w2, hq2] at h2
    exact ⟨_, H', h1, h2⟩
  have ht3 : ∀ (ρ : List V) (H : List O) (x : X), ev ns (callN ns fns (n + 8)) x ρ H = some (.d q1, H) → ev ns (callN ns fns (n + 8)) (.call 25 (.cons x .nil)) ρ H = some (.d q1, H) := fun ρ H x hx => by
    have := ev_thread (ns := ns) wt1 (n + 2) (ps := [q2]) (m := is1.length) (fun _ => q2) (fun q hq => by
      rw [List.mem_singleton.mp hq]; exact ht4) (x := x) (ρ := ρ) (H := H) (by rw [hq1]; exact hx)
    rw [List.map_cons, List.map_nil, thr_thr w1, hq1] at this
    exact this
  -- the fields
  have a1 : ∀ H, attrV H 6 (.d p1) = some (.d (codeD is1)) := fun H => by rw [← hp1]; exact attr_pr _ _ _
  have a2 : ∀ H, attrV H 6 (.d p2) = some (.d (codeD is2)) := fun H => by rw [← hp2]; exact attr_pr _ _ _
  have a3 : ∀ H, attrV H 6 (.d q1) = some (.d (codeD (thr is1))) := fun H => by rw [← hq1]; exact attr_pr _ _ _
  have a4 : ∀ H, attrV H 6 (.d q2) = some (.d (codeD (thr is2))) := fun H => by rw [← hq2]; exact attr_pr _ _ _
  have s1 : ∀ H, attrV H 8 (.d p1) = some (.d (.lst [p2])) := fun H => by rw [← hp1]; exact attr_prs _ _ _
  have s3 : ∀ H, attrV H 8 (.d q1) = some (.d (.lst [q2])) := fun H => by rw [← hq1]; exact attr_prs _ _ _
  have ix : ∀ H d, idxV H (.d (.lst [d])) (.d (.int 0)) = some (.d d) := fun H d => idx_lst (k := 0) rfl
  have r1 : callN ns fns (n + 8) 30 [.d p1] [] = some (.d (restD is1.length), []) := by rw [← hp1]; exact c_rest (n + 7) _ _ _
  have r2 : callN ns fns (n + 8) 30 [.d p2] [] = some (.d (restD is2.length), []) := by rw [← hp2]; exact c_rest (n + 7) _ _ _
  have r3 : callN ns fns (n + 8) 30 [.d q1] [] = some (.d (restD is1.length), []) := by rw [← hq1]; exact c_rest (n + 7) _ _ _
  have r4 : callN ns fns (n + 8) 30 [.d q2] [] = some (.d (restD is2.length), []) := by rw [← hq2]; exact c_rest (n + 7) _ _ _
  have br := c_blocks_right (ns := ns) (p := p1) (is := is1) ⟨a1, w1.ok⟩ w1 n
  have ri1 := c_is_right (ns := ns) w1 (n + 3)
  have ri2 := c_is_right (ns := ns) w2 (n + 3)
  generalize hR : ([.scr, .loc 0, .d (codeD is1), .d (codeD is2), .d p1, .d q1] : List V) = R
  generalize hHF : (b2 :: (T2 ++ [.dead]) : List O) = HF
  have v2 : ev ns (callN ns fns (n + 8)) (.var 2) R HF = some (.d (codeD is1), HF) := by subst hR; rfl
  have v3 : ev ns (callN ns fns (n + 8)) (.var 3) R HF = some (.d (codeD is2), HF) := by subst hR; rfl
  have v4 : ev ns (callN ns fns (n + 8)) (.var 4) R HF = some (.d p1, HF) := by subst hR; rfl
  have v5 : ev ns (callN ns fns (n + 8)) (.var 5) R HF = some (.d q1, HF) := by subst hR; rfl
  have v4p : ev ns (callN ns fns (n + 8)) (.idx (.attr (.var 4) 8) (.cst (.int 0))) R HF = some (.d p2, HF) := x_idx (x_attr v4 (s1 _)) rfl (ix _ _)
  have v5p : ev ns (callN ns fns (n + 8)) (.idx (.attr (.var 5) 8) (.cst (.int 0))) R HF = some (.d q2, HF) := x_idx (x_attr v5 (s3 _)) rfl (ix _ _)
  refine ⟨HF, callN_of (fd := ⟨1, 6, b_law⟩) (ρ := R) rfl rfl ?_⟩
  refine seq_n (ρ' := [.scr, .loc 0, .undef, .undef, .undef, .undef]) (H' := [boxO (ns.take 24) 0 7]) ?_ ?_
  · exact x_asg rfl rfl
  refine seq_n (ρ' := [.scr, .loc 0, .d (codeD is1), .d (codeD is2), .undef, .undef]) (H' := b2 :: T2) ?_ ?_
  · exact x_asgT (x_cons (x_callI (x_cons (v := .loc 0) rfl rfl) e1) (x_cons (x_callI (x_cons (v := .loc 0) rfl rfl) e2) rfl)) rfl
  refine seq_n (ρ' := [.scr, .loc 0, .d (codeD is1), .d (codeD is2), .loc (b2 :: T2).length, .undef]) (H' := (b2 :: T2) ++ [.obj 1 (prF (.d (codeD is1)) (.d (.lst [])) is1.length)]) ?_ ?_
  · exact exec_asg (i := 4) (x_callI (x_cons (v := .d (codeD is1)) rfl rfl) em1) (Nat.le_of_ble_eq_true rfl)
  refine seq_n (ρ' := [.scr, .loc 0, .d (codeD is1), .d (codeD is2), .loc (b2 :: T2).length, .undef]) (H' := (b2 :: T2) ++ [.obj 1 (prF (.d (codeD is1)) (.d (.lst [p2])) is1.length)]) ?_ ?_
  · have hc : ∀ H, ev ns (callN ns fns (n + 8)) (.call 29 (.cons (.var 3) .nil)) [.scr, .loc 0, .d (codeD is1), .d (codeD is2), .loc (b2 :: T2).length, .undef] H = some (.d p2, H) := fun H => by
      have hfz := frz_pr (k := 1) (codeD is2) [] is2.length
      rw [hp2] at hfz
      exact x_callF (ds := [codeD is2]) (x_cons rfl rfl) em2 hfz
    refine x_setA (v := .d (.lst [p2])) (u := .loc (b2 :: T2).length) (x_list (ds := [p2]) (x_cons (hc _) rfl)) rfl ?_
    exact setAV_F (H0 := b2 :: T2) rfl
  refine seq_n (ρ' := [.scr, .loc 0, .d (codeD is1), .d (codeD is2), .d p1, .undef]) (H' := HF) ?_ ?_
  · refine (x_killV (l := (b2 :: T2).length) (d := p1) rfl (by rw [getO_end, ← hp1]; rfl)).trans ?_
    rw [set_last]
    subst hHF
    rfl
  refine seq_n (ρ' := R) (H' := HF) ?_ ?_
  · rw [← hR]
    exact x_asg (ht1 _ _ _ rfl) rfl
  refine seq_n (ρ' := R) (H' := HF) (ifs_f (H' := HF) (x_bop (x_next (x_cmp (x_attr v4 (a1 _)) v2 (ne_selfD eq_code)) (x_next (x_cmp (x_attr v4p (a2 _)) v3 (ne_selfD eq_code)) (x_next (x_not (b := true) (x_call (ds := [p1]) (x_cons v4 rfl) br)) rfl)))) rfl) ?_
  refine seq_n (ρ' := R) (H' := HF) (ifs_f (H' := HF) (x_bop (x_next (x_cmp (x_call (ds := [q1]) (x_cons v5 rfl) r3) (x_call (ds := [p1]) (x_cons v4 rfl) r1) (ne_selfD (eq_rest _))) (x_next (x_cmp (x_call (ds := [q2]) (x_cons v5p rfl) r4) (x_call (ds := [p2]) (x_cons v4p rfl) r2) (ne_selfD (eq_rest _))) rfl))) rfl) ?_
  refine seq_n (ρ' := R) (H' := HF) (ifs_f (H' := HF) (x_bop (x_next (x_not (b := true) (x_call (ds := [codeD is1, codeD (thr is1)]) (x_cons v2 (x_cons (x_attr v5 (a3 _)) rfl)) ri1)) (x_next (x_not (b := true) (x_call (ds := [codeD is2, codeD (thr is2)]) (x_cons v3 (x_cons (x_attr v5p (a4 _)) rfl)) ri2)) rfl))) rfl) ?_
  exact seq_r (x_ret (x_cmp (x_attr (ht3 _ _ _ v5) (a3 _)) (x_attr v5 (a3 _)) (by rw [cmp_eq]; exact eq_code)))
end Mine
end

/-! ### Fin2 -/
section
set_option tactic.hygienic false
set_option genSizeOf false
set_option bootstrap.genMatcherCode false
open PySem PySem.W PyProof.Rows PySem.Calls PySem.SeqAt
set_option linter.unusedVariables false
set_option linter.unusedSimpArgs false
set_option maxRecDepth 100000
namespace Mine

noncomputable def allCheck (K : Frag) : Bool := (List.range 39).all (fun f => fnCheck K f) && globCheck K && constCheck K && kfCheck K && (K.lookup 354).isSome
theorem st_start (b : Base) {h : Heap} (e : h = b.h₀) : St b (fun _ => False) [] [] h := by
  subst e
  exact ⟨fun _ _ e => e, Nat.le_refl _, fun _ z => z.elim, fun l p e => (by simp at e), rfl, fun i j p q _ e => (by simp at e), fun l p o e => (by simp at e)⟩
theorem room_start : RoomC callerA 9 := ⟨rfl, by decide +kernel, by decide +kernel⟩
theorem not_live_nil {a : Addr} (x : Live [] [] a) : False := by
  obtain ⟨l, p, o, e, _⟩ := x
  simp at e
theorem finish {prog : Program} {w : World} {K : Frag} {ns : List Int} {vs : List Value} {l fa : Addr} {s₁ : Shared} {mg mb : Str → Option Value} {c : ClaimW} {cl : Str → Option Addr} {mean : ExcName → Option Value} {args : List WData}
    (KX : K.In s₁.heap) (g : s₁.heap.Ns mainGlobals mg) (bl : s₁.heap.Ns builtinsNs mb) (bb : ∀ x : Str, x ≠ "__name__" → mb x = bootBuiltins x) (lim : s₁.heap.NoLimit) (hL : s₁.heap.IsList l vs.toArray) (hI : IntsAre vs ns) (hlen : ns.length ≤ 63)
    (hgens : s₁.gens = #[]) (hfa : mg (Str.ofString "law") = some (.ref fa)) (chk : allCheck K = true) (hini : findCls K (.ref 129) (.type "type") (Str.ofString "__init__") = some (.val (.ref 126)))
    (hr : ∀ cls, c.raises args cls = false) (hp : c.post args (.bool true) args = true) :
    codeAny (model prog w) callerA (.call (.ref fa) ⟨[.ref l], []⟩) (GoodWG c cl mean args s₁) s₁ := by
  simp only [allCheck, Bool.and_eq_true, List.all_eq_true, List.mem_range] at chk
  obtain ⟨⟨⟨⟨hF, hG⟩, hC⟩, hK⟩, low⟩ := chk
  obtain ⟨H', e⟩ := c_law ns 0
  have hvl : vs.length = ns.length := hI.length
  have ok : Ok ⟨prog, w, s₁.heap, l⟩ ns K mg mb := ok_of KX g bl bb lim low ⟨vs, hL, hI, by rw [hvl]; exact Nat.le_trans hlen (by decide +kernel)⟩ hG hC (kf_of hK hini)
  have e38 : fnNames.getD 38 Str.empty = Str.ofString "law" := rfl
  have hne : fnNames.getD 38 Str.empty ≠ Str.empty := by decide +kernel
  have h38 := ok.fn 38 (by decide) hne
  rw [e38, hfa] at h38
  have hfa' : fa = fnAddrs.getD 38 0 := by injection h38 with h; injection h
  subst hfa'
  refine calls_ok ok hF 9 38 [.scr] [] _ H' e (by decide) callerA s₁ [] (fun _ => False) [.ref l] _ room_start (st_start _ rfl) (.cons rfl .nil) fun rv s' μ' P r => ?_
  have hrv : rv = .bool true := by
    cases r with
    | bool b => rfl
  subst hrv
  exact GoodW.toG ⟨.inl ⟨.bool true, .bool true, [], rfl, hr, ReadsW.bool true, hp, fun _ => ⟨List.nodup_nil, fun a ha => by cases ha⟩⟩, fun a o e => P.keep a o e not_live_nil, P.os, P.gens.trans hgens⟩
end Mine
end

open PySem PySem.W PyProof.Rows
namespace Mine
/-- names held free, so that no twin is laid -/
theorem main.tw10164390302260391889 : True := trivial
theorem main.tw10450603732522932521 : True := trivial
theorem main.tw10625486282989778954 : True := trivial
theorem main.tw10665089971535097683 : True := trivial
theorem main.tw10913426047420270581 : True := trivial
theorem main.tw11156056980113079860 : True := trivial
theorem main.tw11181722664286889309 : True := trivial
theorem main.tw12344883248587561484 : True := trivial
theorem main.tw12431731261707249289 : True := trivial
theorem main.tw12702744160499308131 : True := trivial
theorem main.tw1306636233014830658 : True := trivial
theorem main.tw13158628489058855221 : True := trivial
theorem main.tw13219505800766818778 : True := trivial
theorem main.tw16187894506366716058 : True := trivial
theorem main.tw16373046581243095457 : True := trivial
theorem main.tw16826212616301561204 : True := trivial
theorem main.tw17353955331779342651 : True := trivial
theorem main.tw17711170314565693080 : True := trivial
theorem main.tw2272010419323277873 : True := trivial
theorem main.tw2790017254037384881 : True := trivial
theorem main.tw2870156010397585342 : True := trivial
theorem main.tw2906824675625879941 : True := trivial
theorem main.tw30802899008314538 : True := trivial
theorem main.tw3299218664060906527 : True := trivial
theorem main.tw3796207824708393856 : True := trivial
theorem main.tw4508364121390281068 : True := trivial
theorem main.tw5061512775090418087 : True := trivial
theorem main.tw52199770228462824 : True := trivial
theorem main.tw5372645768047454471 : True := trivial
theorem main.tw5649967823195072380 : True := trivial
theorem main.tw6508729118710982530 : True := trivial
theorem main.tw6655696309031964122 : True := trivial
theorem main.tw6886502059237256666 : True := trivial
theorem main.tw7099566731139839155 : True := trivial
theorem main.tw7268301785047649679 : True := trivial
theorem main.tw7392454863628241576 : True := trivial
theorem main.tw7846812961960373227 : True := trivial
theorem main.tw8118072479153026202 : True := trivial
theorem main.tw8207831470162742035 : True := trivial
theorem main.tw8467378866343419333 : True := trivial
theorem main.tw9154295596543214463 : True := trivial
theorem main.tw9360745474812902239 : True := trivial
theorem main.tw9483120023164983764 : True := trivial
theorem main.tw962032349192862916 : True := trivial
theorem main.tw9656510801202774680 : True := trivial
theorem main.tw10047389527955405517 : True := trivial
theorem main.tw10114013102757674387 : True := trivial
theorem main.tw10177057350305019805 : True := trivial
theorem main.tw10204856939554784155 : True := trivial
theorem main.tw10234815189450012239 : True := trivial
theorem main.tw10298723112805639129 : True := trivial
theorem main.tw10363585996791799541 : True := trivial
theorem main.tw10391951854915411234 : True := trivial
theorem main.tw104360540948158410 : True := trivial
theorem main.tw1054321117371714560 : True := trivial
theorem main.tw10609540516017602915 : True := trivial
theorem main.tw10642606787283503386 : True := trivial
theorem main.tw10669944970481658594 : True := trivial
theorem main.tw10707853282979444102 : True := trivial
theorem main.tw10821422270917381399 : True := trivial
theorem main.tw10876375607700338302 : True := trivial
theorem main.tw10877679251791092727 : True := trivial
theorem main.tw11101190512080308003 : True := trivial
theorem main.tw11221353774195762014 : True := trivial
theorem main.tw11226576635482137759 : True := trivial
theorem main.tw11403851563620829512 : True := trivial
theorem main.tw11461230924637031220 : True := trivial
theorem main.tw11501822485730972192 : True := trivial
theorem main.tw11544348965984651327 : True := trivial
theorem main.tw1157997071576566072 : True := trivial
theorem main.tw11710404883906591787 : True := trivial
theorem main.tw11752208632293872130 : True := trivial
theorem main.tw1178595665728414349 : True := trivial
theorem main.tw11815829001073249272 : True := trivial
theorem main.tw11982392923317675503 : True := trivial
theorem main.tw12057704586751987240 : True := trivial
theorem main.tw12298629886278197574 : True := trivial
theorem main.tw12343854547171428336 : True := trivial
theorem main.tw12361340156312767134 : True := trivial
theorem main.tw1236483940969888574 : True := trivial
theorem main.tw12455012482086183272 : True := trivial
theorem main.tw12483276189755474720 : True := trivial
theorem main.tw12518504611687188807 : True := trivial
theorem main.tw12590340796369385619 : True := trivial
theorem main.tw12623159325031504133 : True := trivial
theorem main.tw1270039299266317192 : True := trivial
theorem main.tw1277820614484962519 : True := trivial
theorem main.tw12915833801598196605 : True := trivial
theorem main.tw12927740378394474205 : True := trivial
theorem main.tw13113777628852026922 : True := trivial
theorem main.tw13224007501803129859 : True := trivial
theorem main.tw13270728482189477470 : True := trivial
theorem main.tw13350764725976880583 : True := trivial
theorem main.tw13355152605343272895 : True := trivial
theorem main.tw13402765919934010277 : True := trivial
theorem main.tw13590572293223372214 : True := trivial
theorem main.tw13626721169425172152 : True := trivial
theorem main.tw13667920496262714385 : True := trivial
theorem main.tw13676971244355772609 : True := trivial
theorem main.tw13693970394777133609 : True := trivial
theorem main.tw13724616953566380437 : True := trivial
theorem main.tw13777938177461255882 : True := trivial
theorem main.tw13803360072150633466 : True := trivial
theorem main.tw13838900630717943254 : True := trivial
theorem main.tw13876859957761632879 : True := trivial
theorem main.tw13962693860625380366 : True := trivial
theorem main.tw14009396871252706886 : True := trivial
theorem main.tw14027531716089632829 : True := trivial
theorem main.tw14061640607465278742 : True := trivial
theorem main.tw1409966394225722968 : True := trivial
theorem main.tw1439166485080882 : True := trivial
theorem main.tw14457758005677747962 : True := trivial
theorem main.tw14539993770535171780 : True := trivial
theorem main.tw14635473669698735251 : True := trivial
theorem main.tw14639212616227390028 : True := trivial
theorem main.tw14646587721710459877 : True := trivial
theorem main.tw14662554035588321541 : True := trivial
theorem main.tw14672674291997333471 : True := trivial
theorem main.tw14722489848711283861 : True := trivial
theorem main.tw14759895335926876869 : True := trivial
theorem main.tw14771111431291430275 : True := trivial
theorem main.tw14793117695081215449 : True := trivial
theorem main.tw14907226015203709474 : True := trivial
theorem main.tw14909365282108701170 : True := trivial
theorem main.tw1504049600530537962 : True := trivial
theorem main.tw15109750227778091905 : True := trivial
theorem main.tw15131278010643852716 : True := trivial
theorem main.tw15270170921892066516 : True := trivial
theorem main.tw15365013842991253249 : True := trivial
theorem main.tw15465920861327815835 : True := trivial
theorem main.tw15467891735981029475 : True := trivial
theorem main.tw15485851114877660061 : True := trivial
theorem main.tw15491723280356408159 : True := trivial
theorem main.tw15514936471743626214 : True := trivial
theorem main.tw15575460216820743234 : True := trivial
theorem main.tw15729387918133165365 : True := trivial
theorem main.tw15734200111481486640 : True := trivial
theorem main.tw15734660467963936456 : True := trivial
theorem main.tw15737690656516749961 : True := trivial
theorem main.tw15806524323241146399 : True := trivial
theorem main.tw15984706205718930553 : True := trivial
theorem main.tw16008252555379753968 : True := trivial
theorem main.tw16008457594558532635 : True := trivial
theorem main.tw16046730324260685337 : True := trivial
theorem main.tw16102231251864390963 : True := trivial
theorem main.tw16153842264607907944 : True := trivial
theorem main.tw1615956725737779560 : True := trivial
theorem main.tw16193401482309157537 : True := trivial
theorem main.tw16251939892948500945 : True := trivial
theorem main.tw16320729459185622934 : True := trivial
theorem main.tw16356685582667847594 : True := trivial
theorem main.tw16452447596832230105 : True := trivial
theorem main.tw16572128252103988241 : True := trivial
theorem main.tw16656740534632174751 : True := trivial
theorem main.tw16721930046160240684 : True := trivial
theorem main.tw1677766988990989824 : True := trivial
theorem main.tw16778611742570070204 : True := trivial
theorem main.tw1678875084529416142 : True := trivial
theorem main.tw16798622893749714585 : True := trivial
theorem main.tw16819838333489098493 : True := trivial
theorem main.tw16832360635688203351 : True := trivial
theorem main.tw16922381011570985944 : True := trivial
theorem main.tw16923884221124529275 : True := trivial
theorem main.tw16965079339398995527 : True := trivial
theorem main.tw17091655785135471103 : True := trivial
theorem main.tw17118054049896295152 : True := trivial
theorem main.tw1714950047550659301 : True := trivial
theorem main.tw17201416709059790184 : True := trivial
theorem main.tw17223442867436993403 : True := trivial
theorem main.tw17236958762192778904 : True := trivial
theorem main.tw17292155258170135553 : True := trivial
theorem main.tw17336282652733537790 : True := trivial
theorem main.tw17402982504261768225 : True := trivial
theorem main.tw17477492558424962760 : True := trivial
theorem main.tw17510229520200029679 : True := trivial
theorem main.tw17679725944135375923 : True := trivial
theorem main.tw17695171507069755227 : True := trivial
theorem main.tw17737603089517620647 : True := trivial
theorem main.tw17958375852430007124 : True := trivial
theorem main.tw17974016328880235120 : True := trivial
theorem main.tw18134284020713443437 : True := trivial
theorem main.tw18218335207050127959 : True := trivial
theorem main.tw1826329307503635854 : True := trivial
theorem main.tw18302796317244248524 : True := trivial
theorem main.tw18325589031809861271 : True := trivial
theorem main.tw18332899500509843999 : True := trivial
theorem main.tw18403998269306519403 : True := trivial
theorem main.tw18421580907717582127 : True := trivial
theorem main.tw18442785490491869365 : True := trivial
theorem main.tw1850612553970854742 : True := trivial
theorem main.tw2007339730380871907 : True := trivial
theorem main.tw2019394398466159022 : True := trivial
theorem main.tw2190695567426971638 : True := trivial
theorem main.tw2195194259037543316 : True := trivial
theorem main.tw221909299271738847 : True := trivial
theorem main.tw2225956059507018244 : True := trivial
theorem main.tw223528310411579522 : True := trivial
theorem main.tw2287757881348798766 : True := trivial
theorem main.tw2406621943657119228 : True := trivial
theorem main.tw2407966658753609631 : True := trivial
theorem main.tw2496676261509829067 : True := trivial
theorem main.tw2702614204127132176 : True := trivial
theorem main.tw2759098988195820126 : True := trivial
theorem main.tw2821470743931037460 : True := trivial
theorem main.tw2852251193174398662 : True := trivial
theorem main.tw2895952525429962455 : True := trivial
theorem main.tw302440914744352476 : True := trivial
theorem main.tw3045742163950154196 : True := trivial
theorem main.tw31828345220925962 : True := trivial
theorem main.tw3234112476842188716 : True := trivial
theorem main.tw330327031418712150 : True := trivial
theorem main.tw3343439749351644125 : True := trivial
theorem main.tw33456957511925785 : True := trivial
theorem main.tw341453280667917650 : True := trivial
theorem main.tw3466206800631347469 : True := trivial
theorem main.tw3491332818749588091 : True := trivial
theorem main.tw3549514262204291990 : True := trivial
theorem main.tw3557749057250611081 : True := trivial
theorem main.tw3562595001068472590 : True := trivial
theorem main.tw3613476055612923068 : True := trivial
theorem main.tw3626430660855392483 : True := trivial
theorem main.tw3779293765908593550 : True := trivial
theorem main.tw3829396358689915599 : True := trivial
theorem main.tw387501639795913443 : True := trivial
theorem main.tw3905226178654972811 : True := trivial
theorem main.tw3934531018447913466 : True := trivial
theorem main.tw3960113756560652017 : True := trivial
theorem main.tw4026956272090484662 : True := trivial
theorem main.tw4039676971129161736 : True := trivial
theorem main.tw4126091431370883743 : True := trivial
theorem main.tw4261964983698606537 : True := trivial
theorem main.tw4297412468100583042 : True := trivial
theorem main.tw4324958949535026087 : True := trivial
theorem main.tw4333880214566435006 : True := trivial
theorem main.tw4452170602077327944 : True := trivial
theorem main.tw4458048076830672230 : True := trivial
theorem main.tw4475767826048309731 : True := trivial
theorem main.tw4500915450034043215 : True := trivial
theorem main.tw451873465583785326 : True := trivial
theorem main.tw4544244032028310869 : True := trivial
theorem main.tw4605139254293405059 : True := trivial
theorem main.tw4637267157515435788 : True := trivial
theorem main.tw4651154628705390771 : True := trivial
theorem main.tw4681395471914393968 : True := trivial
theorem main.tw4775608329324902142 : True := trivial
theorem main.tw4839478117068044826 : True := trivial
theorem main.tw4900431672193113347 : True := trivial
theorem main.tw4990475226369331113 : True := trivial
theorem main.tw5084117380071580128 : True := trivial
theorem main.tw5102693214775723256 : True := trivial
theorem main.tw5127751686995613262 : True := trivial
theorem main.tw5203219222101121401 : True := trivial
theorem main.tw5240536507193477226 : True := trivial
theorem main.tw5240779543111244032 : True := trivial
theorem main.tw5396188567872606041 : True := trivial
theorem main.tw5436791530062809996 : True := trivial
theorem main.tw5532463470591059822 : True := trivial
theorem main.tw5571399437266216444 : True := trivial
theorem main.tw5585478044538960755 : True := trivial
theorem main.tw5665735395497279834 : True := trivial
theorem main.tw5995161000843957690 : True := trivial
theorem main.tw6044114016751833949 : True := trivial
theorem main.tw6053611964639427726 : True := trivial
theorem main.tw6112859857366181021 : True := trivial
theorem main.tw6222487380544312443 : True := trivial
theorem main.tw6334894449686545209 : True := trivial
theorem main.tw6361450105264607166 : True := trivial
theorem main.tw6385024630547198690 : True := trivial
theorem main.tw6511744376749373798 : True := trivial
theorem main.tw6541472054586571296 : True := trivial
theorem main.tw6545385358150927430 : True := trivial
theorem main.tw6557543464795787104 : True := trivial
theorem main.tw656089360051881306 : True := trivial
theorem main.tw65644731488775911 : True := trivial
theorem main.tw6635558491612396129 : True := trivial
theorem main.tw6697339332421208802 : True := trivial
theorem main.tw6801380410627298636 : True := trivial
theorem main.tw6862492499505807319 : True := trivial
theorem main.tw6912675738884088206 : True := trivial
theorem main.tw7074144079889050967 : True := trivial
theorem main.tw7173623326730630234 : True := trivial
theorem main.tw7186131708394509389 : True := trivial
theorem main.tw7214478077546791972 : True := trivial
theorem main.tw7221758910455160077 : True := trivial
theorem main.tw7235775444256392728 : True := trivial
theorem main.tw7237411587787531456 : True := trivial
theorem main.tw7293298908176781663 : True := trivial
theorem main.tw7308723440029596264 : True := trivial
theorem main.tw7411558596216406370 : True := trivial
theorem main.tw7439787175107056256 : True := trivial
theorem main.tw7590696779544312186 : True := trivial
theorem main.tw7699798408344515789 : True := trivial
theorem main.tw7751025194823839400 : True := trivial
theorem main.tw7761410557224570781 : True := trivial
theorem main.tw7875838824674609581 : True := trivial
theorem main.tw8228058824784995430 : True := trivial
theorem main.tw832900586485598795 : True := trivial
theorem main.tw834873547066669988 : True := trivial
theorem main.tw8440099810896429113 : True := trivial
theorem main.tw8466321980469482115 : True := trivial
theorem main.tw8478376212529829071 : True := trivial
theorem main.tw8652556701797213591 : True := trivial
theorem main.tw8663697691656813868 : True := trivial
theorem main.tw8748973510418095054 : True := trivial
theorem main.tw8930851030842425676 : True := trivial
theorem main.tw9069182735580402390 : True := trivial
theorem main.tw9155575984036265788 : True := trivial
theorem main.tw9190990891756207365 : True := trivial
theorem main.tw9265829497004654079 : True := trivial
theorem main.tw9268297945177815525 : True := trivial
theorem main.tw9272984997812220495 : True := trivial
theorem main.tw9274054859765456524 : True := trivial
theorem main.tw9302470337196694018 : True := trivial
theorem main.tw9361300454564663673 : True := trivial
theorem main.tw9376575566392132001 : True := trivial
theorem main.tw9498315638749924794 : True := trivial
theorem main.tw9508770018378322450 : True := trivial
theorem main.tw9512817274939609580 : True := trivial
theorem main.tw9557352009045844224 : True := trivial
theorem main.tw9561784451562097942 : True := trivial
theorem main.tw9563168847844234846 : True := trivial
theorem main.tw9670510015898674028 : True := trivial
theorem main.tw9682133043923132273 : True := trivial
theorem main.tw9730157408454304684 : True := trivial
theorem main.tw979501456738626862 : True := trivial
theorem main.tw9840939614602229412 : True := trivial
theorem main.tw9848185148710128376 : True := trivial
theorem main.tw9897820754763898449 : True := trivial
theorem main.tw9976160756891316704 : True := trivial
set_option maxRecDepth 100000 in
set_option maxHeartbeats 8000000 in
theorem main : PySem.Challenge.rw_nt0640_01.Holds := by
  w_on; o_law; k_head; (case hw => w_witness2)
  w_strict (
    intro w s₀ s₁ mg mb G Y fa o pm cd doc dV kV ho hd hcd hD hmg hg args vals as hpre hlay hrd hwl hlo
    have KX := kIn_of Y
    refine Ground.open G ?_
    intro T B D TE TW
    wrow_args hpre hlay hrd hwl hlo
    (first | refine callC_kw (enter_call ?_) | refine enter_call ?_ | refine callC_kw (enter_callW ?_) | refine enter_callW ?_)
    refine finish KX T.g T.b T.builtins T.nolimit (by assumption) (by assumption) (by omega) hg hmg (by kernel_rfl) (by kernel_rfl) ?_ ?_
    · intro cls; rfl
    · wrow_post)
end Mine

theorem PySem.Challenge.cw_nt0640_01_holds : PySem.Challenge.rw_nt0640_01.Holds :=
  Mine.main
