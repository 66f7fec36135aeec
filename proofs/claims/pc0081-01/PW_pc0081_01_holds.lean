import PyProof.Rows.All
import Wide.All
import OpenK.AllK
import Wide.FinOn
import PySem.Challenge.RW_pc0081_01
set_option Elab.async false
set_option genSizeOf false
set_option genInjectivity false
set_option maxRecDepth 100000
set_option linter.all false
set_option maxHeartbeats 80000000
set_option linter.unusedVariables false
set_option linter.unusedSimpArgs false
section
open PySem
namespace Mine
theorem nos {α : Type} {x : α} {P : Prop} (h : none = some x) : P := nomatch h
theorem sn0 {α : Type} {x : α} {P : Prop} (h : some x = none) : P := nomatch h
theorem ff0 {P : Prop} (h : false = true) : P := nomatch h
theorem tf0 {P : Prop} (h : true = false) : P := nomatch h

inductive V where
  | none
  | bool (b : Bool)
  | int (i : Int)
  | str (l : List Nat)
  | tup (vs : List V)
  | lst (vs : List V)
  | rng (a b : Int)
  | dct (es : List (List Nat × V))
  | ref (i : Nat)
  | obj (i : Nat)

inductive AO where
  | list (vs : List V)
  | inst (fs : List (Str × V))

abbrev Hp := List AO
abbrev Loc := List (Str × V)

inductive Fl where
  | next
  | ret (v : V)

noncomputable def leq : List Nat → List Nat → Bool
  | [], [] => true
  | a :: x, b :: y => match (a == b) with | true => leq x y | false => false
  | _, _ => false
theorem leq_0 : leq [] [] = true := rfl
theorem leq_1 (a : Nat) (x_2 : List Nat) (b : Nat) (y : List Nat) : leq (a :: x_2) (b :: y) = match a == b with
    | true => leq x_2 y
    | false => false := rfl
theorem leq_2 (b : Nat) (y : List Nat) : leq [] (b :: y) = false := rfl
theorem leq_3 (b : Nat) (y : List Nat) : leq (b :: y) [] = false := rfl
noncomputable def llt : List Nat → List Nat → Bool
  | _, [] => false
  | [], _ :: _ => true
  | a :: x, b :: y => match Nat.blt a b with
    | true => true
    | false => match (a == b) with | true => llt x y | false => false
theorem llt_1 (head : Nat) (tail : List Nat) : llt [] (head :: tail) = true := rfl
theorem llt_2 (a : Nat) (x_2 : List Nat) (b : Nat) (y : List Nat) : llt (a :: x_2) (b :: y) = match a.blt b with
    | true => true
    | false =>
      match a == b with
      | true => llt x_2 y
      | false => false := rfl
theorem llt_0 : llt [] [] = false := rfl
theorem llt_3 (a : Nat) (x : List Nat) : llt (a :: x) [] = false := rfl
noncomputable def cps (x : Str) : List Nat := x.cps.toList
noncomputable def seq (x y : Str) : Bool := leq (cps x) (cps y)

noncomputable def lk {α : Type} (x : Str) : List (Str × α) → Option α
  | [] => none
  | p :: r => match seq x p.1 with | true => some p.2 | false => lk x r
theorem lk_0 {α : Type} (x : Str) : lk (α := α) x [] = none := rfl
theorem lk_1 {α : Type} (x : Str) (p : Str × α) (r : List (Str × α)) : lk x (p :: r) = match seq x p.fst with
    | true => some p.snd
    | false => lk x r := rfl
noncomputable def up (x : Str) (v : V) : Loc → Loc
  | [] => [(x, v)]
  | p :: r => match seq x p.1 with | true => (x, v) :: r | false => p :: up x v r
noncomputable def dlk (k : List Nat) : List (List Nat × V) → Option V
  | [] => none
  | p :: r => match leq k p.1 with | true => some p.2 | false => dlk k r
theorem dlk_1 (k : List Nat) (p : List Nat × V) (r : List (List Nat × V)) : dlk k (p :: r) = match leq k p.fst with
    | true => some p.snd
    | false => dlk k r := rfl

mutual
noncomputable def vpure : V → Bool
  | .none | .bool _ | .int _ | .str _ => true
  | .tup vs => vpures vs
  | .lst vs => vpures vs
  | .rng _ _ | .dct _ | .ref _ | .obj _ => false
noncomputable def vpures : List V → Bool
  | [] => true
  | v :: vs => match vpure v with | true => vpures vs | false => false
end
theorem vpures_0 : vpures [] = true := rfl
theorem vpures_1 (v : V) (vs : List V) : vpures (v :: vs) = match vpure v with
    | true => vpures vs
    | false => false := rfl
theorem vpure_2 (i : Int) : vpure (V.int i) = true := rfl
theorem vpure_3 (l : List Nat) : vpure (V.str l) = true := rfl
theorem vpure_4 (vs : List V) : vpure (V.tup vs) = vpures vs := rfl
theorem vpure_5 (vs : List V) : vpure (V.lst vs) = vpures vs := rfl
mutual
noncomputable def frz (H : Hp) : Nat → V → Option V
  | _, .none => some .none
  | _, .bool b => some (.bool b)
  | _, .int i => some (.int i)
  | _, .str l => some (.str l)
  | n + 1, .tup vs => (frzs H n vs).map .tup
  | n + 1, .lst vs => (frzs H n vs).map .lst
  | n + 1, .ref i => match H[i]? with
    | some (.list vs) => (frzs H n vs).map .lst
    | _ => none
  | _, _ => none
noncomputable def frzs (H : Hp) : Nat → List V → Option (List V)
  | _, [] => some []
  | 0, _ :: _ => none
  | n + 1, v :: vs => match frz H n v with
    | some d => (frzs H n vs).map (d :: ·)
    | none => none
end

mutual
noncomputable def vdata : V → Option PyData
  | .none => some .none
  | .bool b => some (.bool b)
  | .int i => some (.int i)
  | .str l => some (.str ⟨l.toArray⟩)
  | .tup vs => (vdatas vs).map .tuple
  | .lst vs => (vdatas vs).map .list
  | .rng _ _ | .dct _ | .ref _ | .obj _ => none
noncomputable def vdatas : List V → Option (List PyData)
  | [] => some []
  | v :: vs => match vdata v with
    | some d => (vdatas vs).map (d :: ·)
    | none => none
end
theorem vdatas_0 : vdatas [] = some [] := rfl
theorem vdatas_1 (v : V) (vs : List V) : vdatas (v :: vs) = match vdata v with
    | some d => Option.map (fun x => d :: x) (vdatas vs)
    | none => none := rfl
theorem vdata_3 (l : List Nat) : vdata (V.str l) = some (PyData.str { cps := l.toArray }) := rfl
theorem vdata_4 (vs : List V) : vdata (V.tup vs) = Option.map PyData.tuple (vdatas vs) := rfl
theorem vdata_5 (vs : List V) : vdata (V.lst vs) = Option.map PyData.list (vdatas vs) := rfl
noncomputable def small (a : Int) : Bool := Nat.blt a.natAbs (2 ^ 64)

noncomputable def arith (op : Operator) (a b : Int) : Option Int := match op with
  | .Add => some (a + b)
  | .Sub => some (a - b)
  | .Mult => match small a || small b with | true => some (a * b) | false => none
  | .FloorDiv => match decide (b = 0), Nat.blt b.natAbs.log2 9000 with | false, true => some (a.fdiv b) | _, _ => none
  | .Mod => match decide (b = 0) with | true => none | false => some (a.fmod b)
  | .Pow => match small a && decide (0 ≤ b) && decide (b ≤ 1000000) with | true => some (a ^ b.toNat) | false => none
  | .LShift => match small a && decide (0 ≤ b) && decide (b ≤ 1000000) with | true => some (a * 2 ^ b.toNat) | false => none
  | .RShift => match decide (0 ≤ b) with | true => some (a.fdiv (2 ^ b.toNat)) | false => none
  | .BitAnd => some (Builtin.bitAnd a b)
  | .BitOr => some (Builtin.bitOr a b)
  | .BitXor => some (Builtin.bitXor a b)
  | _ => none

noncomputable def szOk (n : Nat) : Bool := Nat.ble n 1000000

noncomputable def listOfV (H : Hp) : V → Option (List V)
  | .lst vs => some vs
  | .ref i => match H[i]? with | some (.list vs) => some vs | _ => none
  | _ => none

noncomputable def binL (op : Operator) (H : Hp) (a b : V) : Option V := match op with
  | .Add => (listOfV H a).bind fun xs => (listOfV H b).bind fun ys => match szOk (xs.length + ys.length) with
    | true => some (.lst (xs ++ ys))
    | false => none
  | _ => none
noncomputable def binop (op : Operator) (H : Hp) (a b : V) : Option V := match a with
  | .int x => (match b with
    | .int y => (arith op x y).map .int
    | b => binL op H (.int x) b)
  | .str x => (match b with
    | .str y => (match op with
      | .Add => (match szOk (x.length + y.length) with | true => some (.str (x ++ y)) | false => none)
      | _ => none)
    | .int n => (match op with
      | .Mult => (match decide (n = 0) with | true => some (.str []) | false => none)
      | _ => none)
    | b => binL op H (.str x) b)
  | a => binL op H a b

noncomputable def unop (op : UnaryOp) : V → Option V
  | .int a => match op with | .USub => some (.int (-a)) | _ => none
  | .bool b => match op with | .Not => some (.bool (!b)) | _ => none
  | _ => none

noncomputable def truth (H : Hp) : V → Option Bool
  | .none => some false
  | .bool b => some b
  | _ => none

noncomputable def shapedOk (d : PyData) : Bool := SeqAt.shaped d

noncomputable def eqG (H : Hp) (a b : V) : Option Bool := match (frz H 64 a).bind vdata, (frz H 64 b).bind vdata with
  | some x, some y => match shapedOk x && shapedOk y with
    | true => some (PyData.eqv x y)
    | false => none
  | _, _ => none
noncomputable def eqV (H : Hp) (a b : V) : Option Bool := match a, b with
  | .int x, .int y => some (decide (x = y))
  | .str x, .str y => some (leq x y)
  | .bool x, .bool y => some (x == y)
  | a, b => eqG H a b

noncomputable def one (l : List Nat) : Option Nat := match l with | [c] => some c | _ => none
noncomputable def memN (c : Nat) : List Nat → Bool
  | [] => false
  | x :: r => match (c == x) with | true => true | false => memN c r
theorem memN_0 (c : Nat) : memN c [] = false := rfl
theorem memN_1 (c x_1 : Nat) (r : List Nat) : memN c (x_1 :: r) = match c == x_1 with
    | true => true
    | false => memN c r := rfl
noncomputable def memS (k : List Nat) : List V → Option Bool
  | [] => some false
  | .str x :: r => match leq k x with | true => some true | false => memS k r
  | _ :: _ => none
theorem memS_1 (k x_1 : List Nat) (r : List V) : memS k (V.str x_1 :: r) = match leq k x_1 with
    | true => some true
    | false => memS k r := rfl
noncomputable def memI (k : Int) : List V → Option Bool
  | [] => some false
  | .int x :: r => match decide (k = x) with | true => some true | false => memI k r
  | _ :: _ => none
noncomputable def strsOf : List V → Option (List (List Nat))
  | [] => some []
  | .str x :: r => (strsOf r).map (x :: ·)
  | _ :: _ => none
noncomputable def intsOf : List V → Option (List Int)
  | [] => some []
  | .int x :: r => (intsOf r).map (x :: ·)
  | _ :: _ => none
theorem intsOf_1 (x_1 : Int) (r : List V) : intsOf (V.int x_1 :: r) = Option.map (fun x => x_1 :: x) (intsOf r) := rfl

noncomputable def inV (H : Hp) (a b : V) : Option Bool := match a, b with
  | .str k, .str t => (one k).map fun c => memN c t
  | .str k, .dct es => some (dlk k es).isSome
  | .str k, .lst vs => match strsOf vs with | some _ => memS k vs | none => none
  | .int k, .tup vs => match intsOf vs with | some _ => memI k vs | none => none
  | _, _ => none

noncomputable def icmp (p : Int → Int → Bool) (a b : V) : Option Bool := match a with
  | .int x => (match b with | .int y => some (p x y) | _ => none)
  | _ => none
noncomputable def scmp (a b : V) : Option Bool := match a with
  | .str x => (match b with | .str y => some (!llt y x) | _ => none)
  | a => icmp (fun x y => decide (x ≤ y)) a b
noncomputable def isNone : V → Option Bool
  | .none => some true
  | .rng _ _ => none
  | .dct _ => none
  | _ => some false
noncomputable def isOf (a b : V) : Option Bool := match b with
  | .none => isNone a
  | _ => none
noncomputable def cmpop (op : CmpOp) (H : Hp) (a b : V) : Option Bool := match op with
  | .Eq => eqV H a b
  | .NotEq => (eqV H a b).map fun x => !x
  | .Lt => icmp (fun x y => decide (x < y)) a b
  | .LtE => scmp a b
  | .Gt => icmp (fun x y => decide (y < x)) a b
  | .GtE => icmp (fun x y => decide (y ≤ x)) a b
  | .Is => isOf a b
  | .IsNot => (isOf a b).map fun x => !x
  | .In => inV H a b
  | .NotIn => (inV H a b).map fun x => !x

noncomputable def iter : V → Option (List V)
  | .str l => some (l.map fun c => .str [c])
  | .tup vs => match szOk vs.length with | true => some vs | false => none
  | .lst vs => match szOk vs.length with | true => some vs | false => none
  | .rng a b => match szOk (b - a).toNat && Nat.blt a.natAbs 1000000000000 && Nat.blt b.natAbs 1000000000000 with
    | true => some ((List.range (b - a).toNat).map fun (i : Nat) => .int (a + i))
    | false => none
  | _ => none

noncomputable def joinS (sep : List Nat) : List (List Nat) → List Nat
  | [] => []
  | [x] => x
  | x :: r => x ++ sep ++ joinS sep r
noncomputable def maxI : Int → List Int → Int
  | m, [] => m
  | m, x :: r => maxI (match decide (m < x) with | true => x | false => m) r
theorem maxI_0 (x : Int) : maxI x [] = x := rfl
theorem maxI_1 (x x_2 : Int) (r : List Int) : maxI x (x_2 :: r) = maxI
      (match decide (x < x_2) with
      | true => x_2
      | false => x)
      r := rfl

noncomputable def texti (i : Int) : List Nat := cps (Str.ofString (toString i))

noncomputable def N (s : String) : Str := Str.ofString s

noncomputable def guard (b : Bool) (v : V) : Option V := match b with
  | true => some v
  | false => none
noncomputable def bLen (H : Hp) : V → Option V
  | .str l => some (.int l.length)
  | .tup vs => guard (szOk vs.length) (.int vs.length)
  | .lst vs => guard (szOk vs.length) (.int vs.length)
  | .ref i => match H[i]? with
    | some (.list vs) => some (.int vs.length)
    | _ => none
  | _ => none
theorem bLen_0 (H : Hp) (l : List Nat) : bLen H (V.str l) = some (V.int ↑l.length) := rfl
theorem bLen_1 (H : Hp) (vs : List V) : bLen H (V.tup vs) = guard (szOk vs.length) (V.int ↑vs.length) := rfl
theorem bLen_2 (H : Hp) (vs : List V) : bLen H (V.lst vs) = guard (szOk vs.length) (V.int ↑vs.length) := rfl
theorem bLen_3 (H : Hp) (i : Nat) : bLen H (V.ref i) = match H[i]? with
    | some (AO.list vs) => some (V.int ↑vs.length)
    | x => none := rfl
noncomputable def bStr : V → Option V
  | .int i => guard (Nat.blt i.natAbs (10 ^ 40)) (.str (texti i))
  | _ => none
noncomputable def bAbs : V → Option V
  | .int i => some (.int i.natAbs)
  | _ => none
noncomputable def bInt : V → Option V
  | .int i => some (.int i)
  | .bool b => some (.int (match b with | true => 1 | false => 0))
  | _ => none
noncomputable def bMax : V → Option V
  | .lst vs => match intsOf vs with
    | some (x :: r) => some (.int (maxI x r))
    | _ => none
  | _ => none
noncomputable def bOrd : V → Option V
  | .str l => (one l).map fun (c : Nat) => V.int (Int.ofNat c)
  | _ => none
noncomputable def bRepr : V → Option V
  | .bool b => some (.str (match b with | true => cps (N "True") | false => cps (N "False")))
  | _ => none
noncomputable def bRange : V → Option V
  | .int i => guard (small i) (.rng 0 i)
  | _ => none
noncomputable def bMax2 : V → V → Option V
  | .int x, .int y => some (.int (match decide (x < y) with | true => y | false => x))
  | _, _ => none
noncomputable def bMin2 : V → V → Option V
  | .int x, .int y => some (.int (match decide (y < x) with | true => y | false => x))
  | _, _ => none
noncomputable def bRange2 : V → V → Option V
  | .int x, .int y => guard (small x && small y) (.rng x y)
  | _, _ => none

noncomputable def builtin (f : Str) (H : Hp) (args : List V) : Option V :=
  match args with
  | [a] => bif seq f (N "len") then bLen H a
    else bif seq f (N "str") then bStr a
    else bif seq f (N "abs") then bAbs a
    else bif seq f (N "int") then bInt a
    else bif seq f (N "max") then bMax a
    else bif seq f (N "ord") then bOrd a
    else bif seq f (N "repr") then bRepr a
    else bif seq f (N "range") then bRange a
    else none
  | [a, b] => bif seq f (N "max") then bMax2 a b
    else bif seq f (N "min") then bMin2 a b
    else bif seq f (N "range") then bRange2 a b
    else none
  | _ => none

noncomputable def sJoin (H : Hp) (self : List Nat) (a : V) : Option V := match (listOfV H a).bind strsOf with
  | some xs => guard (szOk (joinS self xs).length) (.str (joinS self xs))
  | none => none
noncomputable def strip1 (c : Nat) (l : List Nat) : List Nat := cps (Txt.lstripChars ⟨l.toArray⟩ ⟨#[c]⟩)
noncomputable def sLstrip (self : List Nat) : V → Option V
  | .str l => (one l).map fun c => .str (strip1 c self)
  | _ => none
noncomputable def parts1 (c : Nat) (l : List Nat) : List Str := Builtin.Str.partsBetween ⟨l.toArray⟩ (Builtin.Str.occurrences ⟨l.toArray⟩ ⟨#[c]⟩ 0 l.length (l.length + 1)) 1
noncomputable def sSplit (self : List Nat) : V → Option V
  | .str l => match one l with
    | some c => guard (szOk (parts1 c self).length && szOk self.length && (Txt.split ⟨self.toArray⟩ ⟨#[c]⟩).all fun y => szOk (cps y).length) (.lst ((Txt.split ⟨self.toArray⟩ ⟨#[c]⟩).map fun x => .str (cps x)))
    | none => none
  | _ => none
noncomputable def sUpper (self : List Nat) : Option V := match one self with
  | some c => guard (Nat.ble 97 c && Nat.ble c 122) (.str [c - 32])
  | none => none
noncomputable def strMeth (m : Str) (H : Hp) (self : List Nat) (args : List V) : Option V :=
  match args with
  | [a] => bif seq m (N "join") then sJoin H self a
    else bif seq m (N "lstrip") then sLstrip self a
    else bif seq m (N "split") then sSplit self a
    else none
  | [] => bif seq m (N "upper") then sUpper self else none
  | _ => none

noncomputable def listMeth (m : Str) (H : Hp) (i : Nat) (vs : List V) (args : List V) : Option (V × Hp) :=
  match args with
  | [a] => match seq m (N "append"), szOk vs.length with
    | true, true => some (.none, H.set i (.list (vs ++ [a])))
    | _, _ => none
  | [] => match seq m (N "pop") with
    | true => match vs.getLast? with
      | some v => some (v, H.set i (.list vs.dropLast))
      | none => none
    | false => none
  | _ => none

noncomputable def nth (vs : List V) (i : Int) : Option V := match decide (0 ≤ i), decide (i < 1000000) with
  | true, true => vs[i.toNat]?
  | _, _ => none

noncomputable def sub (H : Hp) (b i : V) : Option V := match b, i with
  | .str l, .int i => match decide (0 ≤ i), decide (i < 1000000) with
    | true, true => (l[i.toNat]?).map fun c => .str [c]
    | _, _ => none
  | .tup vs, .int i => nth vs i
  | .lst vs, .int i => nth vs i
  | .ref j, .int i => match H[j]? with
    | some (.list vs) => match decide (i = -1) with
      | true => vs.getLast?
      | false => nth vs i
    | _ => none
  | .dct es, .str k => dlk k es
  | _, _ => none

noncomputable def bnd (n : Nat) : Option Int → Option Nat → Option Nat
  | none, d => d
  | some i, _ => match decide (0 ≤ i), decide (i < 1000000) with
    | true, true => some (min i.toNat n)
    | _, _ => none

noncomputable def slice (b : V) (lo hi : Option Int) : Option V := match b with
  | .str l => match bnd l.length lo (some 0), bnd l.length hi (some l.length) with
    | some x, some y => some (.str ((l.take y).drop x))
    | _, _ => none
  | .lst l => match lo, hi with
    | none, some i => match decide (0 ≤ i), szOk l.length with
      | true, true => some (.lst (l.take i.toNat))
      | _, _ => none
    | _, _ => none
  | _ => none

noncomputable def kindIs (sc : Scope) (x : Str) (p : NameKind → Bool) : Bool := match lk x sc.names with
  | some k => p k
  | none => false
noncomputable def isLoc : NameKind → Bool
  | .local | .cell | .free => true
  | _ => false
noncomputable def isOwn : NameKind → Bool
  | .local | .cell => true
  | _ => false
noncomputable def isGlob : NameKind → Bool
  | .globalImplicit => true
  | _ => false

structure Cx where
  glob : Str → Option V
  blt : Str → Bool
  cls : Str → Bool
  attr : Str → Bool
  call : Bool → Str → List V → Hp → Option (V × Hp)

noncomputable def whileF (test : Loc → Hp → Option (Bool × Hp)) (body : Loc → Hp → Option (Fl × Loc × Hp)) : Nat → Loc → Hp → Option (Fl × Loc × Hp)
  | 0, _, _ => none
  | w + 1, ρ, H => match test ρ H with
    | some (true, H) => match body ρ H with
      | some (.next, ρ, H) => whileF test body w ρ H
      | some (.ret v, ρ, H) => some (.ret v, ρ, H)
      | none => none
    | some (false, H) => some (.next, ρ, H)
    | none => none

noncomputable def forF (body : V → Loc → Hp → Option (Fl × Loc × Hp)) : List V → Loc → Hp → Option (Fl × Loc × Hp)
  | [], ρ, H => some (.next, ρ, H)
  | v :: vs, ρ, H => match body v ρ H with
    | some (.next, ρ, H) => forF body vs ρ H
    | some (.ret v, ρ, H) => some (.ret v, ρ, H)
    | none => none

noncomputable def compF (elt : V → Hp → Option (Option V × Hp)) : List V → Hp → Option (List V × Hp)
  | [], H => some ([], H)
  | v :: vs, H => match elt v H with
    | some (some r, H) => match compF elt vs H with
      | some (rs, H) => some (r :: rs, H)
      | none => none
    | some (none, H) => compF elt vs H
    | none => none
theorem compF_1 (elt : V → Hp → Option (Option V × Hp)) (x : Hp) (v : V) (vs : List V) : compF elt (v :: vs) x = match elt v x with
    | some (some r, H) =>
      match compF elt vs H with
      | some (rs, H) => some (r :: rs, H)
      | none => none
    | some (none, H) => compF elt vs H
    | none => none := rfl

/-! an expression, seen as of one kind -/
theorem ct_ok {k i : Nat} {α : Type} {f : i = k → Option α} {d : α} (h : (if c : i = k then f c else none) = some d) : ∃ c, f c = some d := by
  by_cases c : i = k
  · rw [dif_pos c] at h; exact ⟨c, h⟩
  · rw [dif_neg c] at h; exact nomatch h
noncomputable def dName (e : Expr) : Option (Str) := if h : e.ctorIdx = 23 then Expr.Name.elim e h (fun x _ => some x) else none
theorem dName_ok {e : Expr} {d : Str} (h : dName e = some d) : ∃ p, e = .Name d p :=
  (ct_ok h).elim fun c h => Expr.Name.elim (motive_1 := fun e => ∀ c, Expr.Name.elim e c (fun x _ => some x) = some d → ∃ p, e = .Name d p) e c (fun _ p _ h => ⟨p, Option.some.inj h ▸ rfl⟩) c h
noncomputable def dBin (e : Expr) : Option (Operator × Expr × Expr) := if h : e.ctorIdx = 2 then Expr.BinOp.elim e h (fun l op r _ => some (op, l, r)) else none
theorem dBin_ok {e : Expr} {d : Operator × Expr × Expr} (h : dBin e = some d) : ∃ p, e = .BinOp d.2.1 d.1 d.2.2 p :=
  (ct_ok h).elim fun c h => Expr.BinOp.elim (motive_1 := fun e => ∀ c, Expr.BinOp.elim e c (fun l op r _ => some (op, l, r)) = some d → ∃ p, e = .BinOp d.2.1 d.1 d.2.2 p) e c (fun _ _ _ p _ h => ⟨p, Option.some.inj h ▸ rfl⟩) c h
noncomputable def dUn (e : Expr) : Option (UnaryOp × Expr) := if h : e.ctorIdx = 3 then Expr.UnaryOp.elim e h (fun op x _ => some (op, x)) else none
theorem dUn_ok {e : Expr} {d : UnaryOp × Expr} (h : dUn e = some d) : ∃ p, e = .UnaryOp d.1 d.2 p :=
  (ct_ok h).elim fun c h => Expr.UnaryOp.elim (motive_1 := fun e => ∀ c, Expr.UnaryOp.elim e c (fun op x _ => some (op, x)) = some d → ∃ p, e = .UnaryOp d.1 d.2 p) e c (fun _ _ p _ h => ⟨p, Option.some.inj h ▸ rfl⟩) c h
noncomputable def dBop (e : Expr) : Option (BoolOp × List Expr) := if h : e.ctorIdx = 0 then Expr.BoolOp.elim e h (fun op es _ => some (op, es)) else none
theorem dBop_ok {e : Expr} {d : BoolOp × List Expr} (h : dBop e = some d) : ∃ p, e = .BoolOp d.1 d.2 p :=
  (ct_ok h).elim fun c h => Expr.BoolOp.elim (motive_1 := fun e => ∀ c, Expr.BoolOp.elim e c (fun op es _ => some (op, es)) = some d → ∃ p, e = .BoolOp d.1 d.2 p) e c (fun _ _ p _ h => ⟨p, Option.some.inj h ▸ rfl⟩) c h
noncomputable def dCmp (e : Expr) : Option (Expr × List CmpOp × List Expr) := if h : e.ctorIdx = 15 then Expr.Compare.elim e h (fun l ops rs _ => some (l, ops, rs)) else none
theorem dCmp_ok {e : Expr} {d : Expr × List CmpOp × List Expr} (h : dCmp e = some d) : ∃ p, e = .Compare d.1 d.2.1 d.2.2 p :=
  (ct_ok h).elim fun c h => Expr.Compare.elim (motive_1 := fun e => ∀ c, Expr.Compare.elim e c (fun l ops rs _ => some (l, ops, rs)) = some d → ∃ p, e = .Compare d.1 d.2.1 d.2.2 p) e c (fun _ _ _ p _ h => ⟨p, Option.some.inj h ▸ rfl⟩) c h
noncomputable def dIte (e : Expr) : Option (Expr × Expr × Expr) := if h : e.ctorIdx = 5 then Expr.IfExp.elim e h (fun t a b _ => some (t, a, b)) else none
theorem dIte_ok {e : Expr} {d : Expr × Expr × Expr} (h : dIte e = some d) : ∃ p, e = .IfExp d.1 d.2.1 d.2.2 p :=
  (ct_ok h).elim fun c h => Expr.IfExp.elim (motive_1 := fun e => ∀ c, Expr.IfExp.elim e c (fun t a b _ => some (t, a, b)) = some d → ∃ p, e = .IfExp d.1 d.2.1 d.2.2 p) e c (fun _ _ _ p _ h => ⟨p, Option.some.inj h ▸ rfl⟩) c h
noncomputable def dTup (e : Expr) : Option (List Expr) := if h : e.ctorIdx = 25 then Expr.Tuple.elim e h (fun es _ _ => some es) else none
theorem dTup_ok {e : Expr} {d : List Expr} (h : dTup e = some d) : ∃ c p, e = .Tuple d c p :=
  (ct_ok h).elim fun c h => Expr.Tuple.elim (motive_1 := fun e => ∀ c, Expr.Tuple.elim e c (fun es _ _ => some es) = some d → ∃ c p, e = .Tuple d c p) e c (fun _ c p _ h => ⟨c, p, Option.some.inj h ▸ rfl⟩) c h
noncomputable def dLst (e : Expr) : Option (List Expr) := if h : e.ctorIdx = 24 then Expr.List.elim e h (fun es _ => some es) else none
theorem dLst_ok {e : Expr} {d : List Expr} (h : dLst e = some d) : ∃ p, e = .List d p :=
  (ct_ok h).elim fun c h => Expr.List.elim (motive_1 := fun e => ∀ c, Expr.List.elim e c (fun es _ => some es) = some d → ∃ p, e = .List d p) e c (fun _ p _ h => ⟨p, Option.some.inj h ▸ rfl⟩) c h
noncomputable def dComp (e : Expr) : Option (Expr × List Comprehension × Scope) := if h : e.ctorIdx = 8 then Expr.ListComp.elim e h (fun elt cs sc _ => some (elt, cs, sc)) else none
theorem dComp_ok {e : Expr} {d : Expr × List Comprehension × Scope} (h : dComp e = some d) : ∃ p, e = .ListComp d.1 d.2.1 d.2.2 p :=
  (ct_ok h).elim fun c h => Expr.ListComp.elim (motive_1 := fun e => ∀ c, Expr.ListComp.elim e c (fun elt cs sc _ => some (elt, cs, sc)) = some d → ∃ p, e = .ListComp d.1 d.2.1 d.2.2 p) e c (fun _ _ _ p _ h => ⟨p, Option.some.inj h ▸ rfl⟩) c h
noncomputable def dAtt (e : Expr) : Option (Expr × Str) := if h : e.ctorIdx = 20 then Expr.Attribute.elim e h (fun o a _ => some (o, a)) else none
theorem dAtt_ok {e : Expr} {d : Expr × Str} (h : dAtt e = some d) : ∃ p, e = .Attribute d.1 d.2 p :=
  (ct_ok h).elim fun c h => Expr.Attribute.elim (motive_1 := fun e => ∀ c, Expr.Attribute.elim e c (fun o a _ => some (o, a)) = some d → ∃ p, e = .Attribute d.1 d.2 p) e c (fun _ _ p _ h => ⟨p, Option.some.inj h ▸ rfl⟩) c h
noncomputable def dAttP (e : Expr) : Option (Expr × Str × Pos) := if h : e.ctorIdx = 20 then Expr.Attribute.elim e h (fun o a p => some (o, a, p)) else none
theorem dAttP_ok {e : Expr} {d : Expr × Str × Pos} (h : dAttP e = some d) : e = .Attribute d.1 d.2.1 d.2.2 :=
  (ct_ok h).elim fun c h => Expr.Attribute.elim (motive_1 := fun e => ∀ c, Expr.Attribute.elim e c (fun o a p => some (o, a, p)) = some d → e = .Attribute d.1 d.2.1 d.2.2) e c (fun _ _ _ _ h => Option.some.inj h ▸ rfl) c h
noncomputable def dSub (e : Expr) : Option (Expr × Expr) := if h : e.ctorIdx = 21 then Expr.Subscript.elim e h (fun b i _ => some (b, i)) else none
theorem dSub_ok {e : Expr} {d : Expr × Expr} (h : dSub e = some d) : ∃ p, e = .Subscript d.1 d.2 p :=
  (ct_ok h).elim fun c h => Expr.Subscript.elim (motive_1 := fun e => ∀ c, Expr.Subscript.elim e c (fun b i _ => some (b, i)) = some d → ∃ p, e = .Subscript d.1 d.2 p) e c (fun _ _ p _ h => ⟨p, Option.some.inj h ▸ rfl⟩) c h
noncomputable def dSli0 (e : Expr) : Option (Option Expr × Option Expr × Option Expr) := if h : e.ctorIdx = 26 then Expr.Slice.elim e h (fun lo hi st _ => some (lo, hi, st)) else none
theorem dSli0_ok {e : Expr} {d : Option Expr × Option Expr × Option Expr} (h : dSli0 e = some d) : ∃ p, e = .Slice d.1 d.2.1 d.2.2 p :=
  (ct_ok h).elim fun c h => Expr.Slice.elim (motive_1 := fun e => ∀ c, Expr.Slice.elim e c (fun lo hi st _ => some (lo, hi, st)) = some d → ∃ p, e = .Slice d.1 d.2.1 d.2.2 p) e c (fun _ _ _ p _ h => ⟨p, Option.some.inj h ▸ rfl⟩) c h
noncomputable def dCall (e : Expr) : Option (Expr × List Expr × List Keyword × Pos) := if h : e.ctorIdx = 16 then Expr.Call.elim e h (fun f as ks p => some (f, as, ks, p)) else none
theorem dCall_ok {e : Expr} {d : Expr × List Expr × List Keyword × Pos} (h : dCall e = some d) : e = .Call d.1 d.2.1 d.2.2.1 d.2.2.2 :=
  (ct_ok h).elim fun c h => Expr.Call.elim (motive_1 := fun e => ∀ c, Expr.Call.elim e c (fun f as ks p => some (f, as, ks, p)) = some d → e = .Call d.1 d.2.1 d.2.2.1 d.2.2.2) e c (fun _ _ _ _ _ h => Option.some.inj h ▸ rfl) c h
noncomputable def dCst (e : Expr) : Option (Const) := if h : e.ctorIdx = 19 then Expr.Constant.elim e h (fun c _ _ => some c) else none
theorem dCst_ok {e : Expr} {d : Const} (h : dCst e = some d) : ∃ k p, e = .Constant d k p :=
  (ct_ok h).elim fun c h => Expr.Constant.elim (motive_1 := fun e => ∀ c, Expr.Constant.elim e c (fun c _ _ => some c) = some d → ∃ k p, e = .Constant d k p) e c (fun _ k p _ h => ⟨k, p, Option.some.inj h ▸ rfl⟩) c h
noncomputable def dSli (e : Expr) : Option (Option Expr × Option Expr) := (dSli0 e).bind fun d => match d.2.2 with
  | none => some (d.1, d.2.1)
  | some _ => none
theorem dSli_ok {e : Expr} {d : Option Expr × Option Expr} (h : dSli e = some d) : ∃ p, e = .Slice d.1 d.2 none p := by
  obtain ⟨⟨lo, hi, st⟩, h1, h2⟩ := Option.bind_eq_some_iff.mp h
  cases st with
  | none => exact Option.some.inj h2 ▸ dSli0_ok h1
  | some _ => exact nomatch h2
noncomputable def isStar (e : Expr) : Bool := Nat.beq e.ctorIdx 22
noncomputable def isSlice (e : Expr) : Bool := Nat.beq e.ctorIdx 26
noncomputable def two {α : Type} : List α → Option (α × α)
  | [a, b] => some (a, b)
  | _ => none
theorem two_0 {α : Type} (a b : α) : two [a, b] = some (a, b) := rfl
theorem two_ok {α : Type} {l : List α} {p : α × α} (h : two l = some p) : l = [p.1, p.2] := by
  cases l with
  | nil => exact nos h
  | cons a l => cases l with
    | nil => exact nos h
    | cons b l => cases l with
      | nil => exact Option.some.inj h ▸ rfl
      | cons => exact nos h
noncomputable def tnames (e : Expr) : Option (List Str) := match dName e with
  | some x => some [x]
  | none => (dTup e).bind fun l => (two l).bind fun p => (dName p.1).bind fun x => (dName p.2).bind fun y => bif seq x y then none else some [x, y]
inductive TnI (t : Expr) (xs : List Str) : Prop
  | one (x : Str) (p : Pos) (h1 : t = .Name x p) (h2 : xs = [x])
  | two (x y : Str) (p q r : Pos) (c : Nat) (h1 : t = .Tuple [.Name x p, .Name y q] c r) (h2 : xs = [x, y]) (h3 : seq x y = false)
theorem tnames_inv {t : Expr} {xs : List Str} (h : tnames t = some xs) : TnI t xs := by
  unfold tnames at h
  cases e : dName t with
  | some x => rw [e] at h; exact (dName_ok e).elim fun p e => .one x p e (Option.some.inj h).symm
  | none =>
    rw [e] at h
    obtain ⟨l, h1, h⟩ := Option.bind_eq_some_iff.mp h
    obtain ⟨c, r, h1⟩ := dTup_ok h1
    obtain ⟨q, h2, h⟩ := Option.bind_eq_some_iff.mp h
    obtain ⟨x, h3, h⟩ := Option.bind_eq_some_iff.mp h
    obtain ⟨y, h4, h⟩ := Option.bind_eq_some_iff.mp h
    obtain ⟨p1, h3⟩ := dName_ok h3
    obtain ⟨p2, h4⟩ := dName_ok h4
    cases hs : seq x y with
    | true => rw [hs] at h; exact nos h
    | false => rw [hs] at h; exact .two x y p1 p2 r c (by rw [h1, two_ok h2, h3, h4]) (Option.some.inj h).symm hs
noncomputable def tupV : V → Option (List V)
  | .tup l => some l
  | _ => none
theorem tupV_0 (l : List V) : tupV (V.tup l) = some l := rfl
theorem tupV_some {v : V} {l : List V} (h : tupV v = some l) : v = .tup l := by
  cases v <;> first | exact nos h | exact congrArg _ (Option.some.inj h)
noncomputable def tbind (xs : List Str) (v : V) : Option Loc := match xs with
  | [x] => some [(x, v)]
  | [x, y] => (tupV v).bind fun l => (two l).map fun p => [(x, p.1), (y, p.2)]
  | _ => none

noncomputable def anyS (x : Str) : List Str → Bool
  | [] => false
  | y :: r => match seq x y with | true => true | false => anyS x r
theorem anyS_0 (x : Str) : anyS x [] = false := rfl
theorem anyS_1 (x y : Str) (r : List Str) : anyS x (y :: r) = match seq x y with
    | true => true
    | false => anyS x r := rfl
noncomputable def dot0 : Str := ⟨#[46, 48]⟩
/-- the comprehension's own names are its targets and ".0"; what is free in it is a local of the frame -/
noncomputable def isLoc1 : NameKind → Bool
  | .local => true
  | _ => false
noncomputable def isCel : NameKind → Bool
  | .cell => true
  | _ => false
noncomputable def compScOk (sc sc' : Scope) (xs : List Str) : Bool :=
  (match sc'.kind with | .function => true | _ => false) && (xs.all fun x => kindIs sc' x isLoc1) && sc'.names.all fun p => match p.2 with
    | .local => (anyS p.1 xs || seq p.1 dot0) && kindIs sc' p.1 isLoc1
    | .free => kindIs sc p.1 isCel
    | .globalImplicit => true
    | _ => false

/-! pieces that both evaluators are made of -/
noncomputable def chk {α : Type} (b : Bool) (o : Option α) : Option α := match b with
  | true => o
  | false => none
noncomputable def intV : V → Option Int
  | .int i => some i
  | _ => none
noncomputable def strV : V → Option (List Nat)
  | .str l => some l
  | _ => none
noncomputable def objV : V → Option Nat
  | .obj i => some i
  | _ => none
theorem objV_0 (i : Nat) : objV (V.obj i) = some i := rfl
noncomputable def refV : V → Option Nat
  | .ref i => some i
  | _ => none
theorem refV_0 (i : Nat) : refV (V.ref i) = some i := rfl
noncomputable def insts (H : Hp) (i : Nat) : Option (List (Str × V)) := match H[i]? with
  | some (.inst fs) => some fs
  | _ => none
noncomputable def lists (H : Hp) (i : Nat) : Option (List V) := match H[i]? with
  | some (.list vs) => some vs
  | _ => none
theorem intV_some {v : V} {i : Int} (h : intV v = some i) : v = .int i := by
  cases v <;> first | exact nos h | exact congrArg _ (Option.some.inj h)
theorem objV_some {v : V} {i : Nat} (h : objV v = some i) : v = .obj i := by
  cases v <;> first | exact nos h | exact congrArg _ (Option.some.inj h)
theorem refV_some {v : V} {i : Nat} (h : refV v = some i) : v = .ref i := by
  cases v <;> first | exact nos h | exact congrArg _ (Option.some.inj h)
theorem insts_some {H : Hp} {i : Nat} {fs : List (Str × V)} (h : insts H i = some fs) : H[i]? = some (.inst fs) := by
  unfold insts at h
  generalize H[i]? = o at h ⊢
  cases o with
  | none => exact nos h
  | some o => cases o with
    | list => exact nos h
    | inst => exact Option.some.inj h ▸ rfl
theorem lists_some {H : Hp} {i : Nat} {fs : List V} (h : lists H i = some fs) : H[i]? = some (.list fs) := by
  unfold lists at h
  generalize H[i]? = o at h ⊢
  cases o with
  | none => exact nos h
  | some o => cases o with
    | inst => exact nos h
    | list => exact Option.some.inj h ▸ rfl
/-- an attribute set -/
noncomputable def attT {R : Type} (x : Str) (v : V) (ρ : R) (o : Option (V × Hp)) : Option (R × Hp) :=
  o.bind fun y => (objV y.1).bind fun i => (insts y.2 i).bind fun fs => bif Nat.ble 100 fs.length then none else some (ρ, y.2.set i (.inst (up x v fs)))
/-- an item set -/
noncomputable def idxT {R : Type} (v : V) (ρ : R) (o : Option (V × Hp)) (f : Hp → Option (V × Hp)) : Option (R × Hp) :=
  o.bind fun y => (refV y.1).bind fun j => (f y.2).bind fun z => (intV z.1).bind fun k => (lists z.2 j).bind fun vs => chk (decide (0 ≤ k) && decide (k < vs.length)) (some (ρ, z.2.set j (.list (vs.set k.toNat v))))
/-- a name added to -/
noncomputable def augK {R : Type} (g : Int → R) (a : Option V) (o : Option (V × Hp)) : Option (Fl × R × Hp) :=
  a.bind fun a => (intV a).bind fun i => o.bind fun y => (intV y.1).map fun j => (.next, g (i + j), y.2)
/-- an attribute added to -/
noncomputable def augAK {R : Type} (x : Str) (ρ : R) (o : Option (V × Hp)) (g : Hp → Option (V × Hp)) : Option (Fl × R × Hp) :=
  o.bind fun y => (objV y.1).bind fun i => (insts y.2 i).bind fun fs => (lk x fs).bind fun v => (intV v).bind fun a => (g y.2).bind fun z => (intV z.1).bind fun b => (insts z.2 i).bind fun fs => bif Nat.ble 100 fs.length then none else some (.next, ρ, z.2.set i (.inst (up x (.int (a + b)) fs)))

noncomputable def W : Nat := 100000
noncomputable def dbgN : List Nat := [95, 95, 100, 101, 98, 117, 103, 95, 95]
noncomputable def baseOk : Expr → Bool
  | .Call (.Name _ _) [] [] _ => false
  | _ => true

/-- a test that is just a value -/
noncomputable def tstV (o : Option (V × Hp)) : Option (Bool × Hp) := o.bind fun x => (truth x.2 x.1).map fun b => (b, x.2)

mutual
/-- an expression's value -/
noncomputable def ev (C : Cx) : Nat → Scope → Expr → Loc → Hp → Option (V × Hp)
  | 0, _, _, _, _ => none
  | n + 1, sc, e, ρ, H => match e with
    | .Constant c _ _ => match c with
      | .none => some (.none, H)
      | .bool b => some (.bool b, H)
      | .int i => some (.int i, H)
      | .str x => match szOk (cps x).length with | true => some (.str (cps x), H) | false => none
      | _ => none
    | .Name x _ => match leq (cps x) dbgN with
      | true => none
      | false => match kindIs sc x isLoc with
        | true => (lk x ρ).map fun v => (v, H)
        | false => match kindIs sc x isGlob with
          | true => (C.glob x).map fun v => (v, H)
          | false => none
    | .BinOp l op r _ => match evI C n sc l ρ H with
      | some (a, H) => match evI C n sc r ρ H with
        | some (b, H) => (binop op H a b).map fun v => (v, H)
        | none => none
      | none => none
    | .UnaryOp op x _ => match ev C n sc x ρ H with
      | some (a, H) => (unop op a).map fun v => (v, H)
      | none => none
    | .BoolOp op es _ => evB C n sc op es ρ H
    | .Compare l ops rs _ => match evI C n sc l ρ H with
      | some (a, H) => (evC C n sc a ops rs ρ H).map fun r => (.bool r.1, r.2)
      | none => none
    | .IfExp t a b _ => match evT C n sc t ρ H with
      | some (true, H) => ev C n sc a ρ H
      | some (false, H) => ev C n sc b ρ H
      | none => none
    | .Tuple es _ _ => match szOk es.length with
      | true => (evs C n sc es ρ H).map fun r => (.tup r.1, r.2)
      | false => none
    | .List es _ => match szOk es.length with
      | true => (evs C n sc es ρ H).map fun r => (.ref r.2.length, r.2 ++ [.list r.1])
      | false => none
    | .ListComp elt [⟨tgt, it, ifs, 0⟩] sc' _ => match ev C n sc it ρ H with
      | some (src, H) => match iter src, tnames tgt with
        | some vs, some xs => match compScOk sc sc' xs && (lk dot0 ρ).isNone with
          | true => (compF (fun v H => match tbind xs v with
              | some own => match evIf C n sc' ifs (own ++ ρ) H with
                | some (true, H) => (ev C n sc' elt (own ++ ρ) H).map fun r => (some r.1, r.2)
                | some (false, H) => some (none, H)
                | none => none
              | none => none) vs H).map fun r => (.lst r.1, r.2)
          | false => none
        | _, _ => none
      | none => none
    | .Attribute o a _ => match C.attr a && baseOk o with
      | true => match ev C n sc o ρ H with
        | some (.obj i, H) => match H[i]? with
          | some (.inst fs) => (lk a fs).map fun v => (v, H)
          | _ => none
        | _ => none
      | false => none
    | .Subscript b (.Slice lo hi none _) _ => match evI C n sc b ρ H with
      | some (bv, H) => match evO C n sc lo ρ H with
        | some (l, H) => match evO C n sc hi ρ H with
          | some (h, H) => (slice bv l h).map fun v => (v, H)
          | none => none
        | none => none
      | none => none
    | .Subscript b i _ => match evI C n sc b ρ H with
      | some (bv, H) => match ev C n sc i ρ H with
        | some (iv, H) => (sub H bv iv).map fun v => (v, H)
        | none => none
      | none => none
    | .Call (.Name f _) args [] _ => match kindIs sc f isGlob && !leq (cps f) dbgN with
      | true => match evs C n sc args ρ H with
        | some (vs, H) => match C.blt f with
          | true => (builtin f H vs).map fun v => (v, H)
          | false => C.call false f vs H
        | none => none
      | false => none
    | .Call (.Attribute o m apos) args [] pos => match Nat.beq apos.endLine pos.line && Nat.ble args.length 3 && baseOk o with
      | true => match ev C n sc o ρ H with
        | some (ov, H) => match ov with
          | .str l => match evs C n sc args ρ H with
            | some (vs, H) => (strMeth m H l vs).map fun v => (v, H)
            | none => none
          | .ref i => match H[i]? with
            | some (.list _) => match evs C n sc args ρ H with
              | some (vs, H) => match H[i]? with
                | some (.list xs) => listMeth m H i xs vs
                | _ => none
              | none => none
            | _ => none
          | .obj i => match H[i]? with
            | some (.inst fs) => match lk m fs with
              | none => match evs C n sc args ρ H with
                | some (vs, H) => C.call true m (.obj i :: vs) H
                | none => none
              | some _ => none
            | _ => none
          | _ => none
        | none => none
      | false => none
    | _ => none
/-- as ev; a list display stays what it is -/
noncomputable def evI (C : Cx) : Nat → Scope → Expr → Loc → Hp → Option (V × Hp)
  | 0, _, _, _, _ => none
  | n + 1, sc, e, ρ, H => match dLst e with
    | some es => match szOk es.length with
      | true => (evs C n sc es ρ H).map fun r => (.lst r.1, r.2)
      | false => none
    | none => ev C n sc e ρ H
noncomputable def evs (C : Cx) : Nat → Scope → List Expr → Loc → Hp → Option (List V × Hp)
  | 0, _, _, _, _ => none
  | _ + 1, _, [], _, H => some ([], H)
  | n + 1, sc, e :: es, ρ, H => match isStar e with
    | true => none
    | false => match ev C n sc e ρ H with
      | some (v, H) => match evs C n sc es ρ H with
        | some (vs, H) => some (v :: vs, H)
        | none => none
      | none => none
noncomputable def evO (C : Cx) : Nat → Scope → Option Expr → Loc → Hp → Option (Option Int × Hp)
  | 0, _, _, _, _ => none
  | _ + 1, _, none, _, H => some (none, H)
  | n + 1, sc, some e, ρ, H => match ev C n sc e ρ H with
    | some (.int i, H) => some (some i, H)
    | _ => none
noncomputable def evIf (C : Cx) : Nat → Scope → List Expr → Loc → Hp → Option (Bool × Hp)
  | 0, _, _, _, _ => none
  | _ + 1, _, [], _, H => some (true, H)
  | n + 1, sc, [e], ρ, H => evT C n sc e ρ H
  | _ + 1, _, _ :: _ :: _, _, _ => none
/-- and, or by values -/
noncomputable def evB (C : Cx) : Nat → Scope → BoolOp → List Expr → Loc → Hp → Option (V × Hp)
  | 0, _, _, _, _, _ => none
  | _ + 1, _, _, [], _, _ => none
  | n + 1, sc, op, e :: es, ρ, H => match es with
    | [] => ev C n sc e ρ H
    | _ :: _ => match ev C n sc e ρ H with
      | some (v, H) => match op, truth H v with
        | .And, some false => some (v, H)
        | .And, some true => evB C n sc op es ρ H
        | .Or, some true => some (v, H)
        | .Or, some false => evB C n sc op es ρ H
        | _, none => none
      | none => none
/-- a chain of comparisons -/
noncomputable def evC (C : Cx) : Nat → Scope → V → List CmpOp → List Expr → Loc → Hp → Option (Bool × Hp)
  | 0, _, _, _, _, _, _ => none
  | n + 1, sc, a, op :: ops, r :: rs, ρ, H => match evI C n sc r ρ H with
    | some (b, H) => match cmpop op H a b with
      | some c => match ops, rs with
        | [], [] => some (c, H)
        | _ :: _, _ :: _ => match c with
          | true => evC C n sc b ops rs ρ H
          | false => some (false, H)
        | _, _ => none
      | none => none
    | none => none
  | _ + 1, _, _, _, _, _, _ => none
/-- a test -/
noncomputable def evT (C : Cx) : Nat → Scope → Expr → Loc → Hp → Option (Bool × Hp)
  | 0, _, _, _, _ => none
  | n + 1, sc, e, ρ, H => match e with
    | .UnaryOp .Not x _ => (evT C n sc x ρ H).map fun r => (!r.1, r.2)
    | .BoolOp op es _ => evTs C n sc op es ρ H
    | .IfExp t a b _ => match evT C n sc t ρ H with
      | some (true, H) => evT C n sc a ρ H
      | some (false, H) => evT C n sc b ρ H
      | none => none
    | .Compare l ops rs _ => match evI C n sc l ρ H with
      | some (a, H) => evC C n sc a ops rs ρ H
      | none => none
    | e => tstV (ev C n sc e ρ H)
noncomputable def evTs (C : Cx) : Nat → Scope → BoolOp → List Expr → Loc → Hp → Option (Bool × Hp)
  | 0, _, _, _, _, _ => none
  | _ + 1, _, op, [], _, H => some (match op with | .And => true | .Or => false, H)
  | n + 1, sc, op, e :: es, ρ, H => match evT C n sc e ρ H with
    | some (b, H) => match op, b with
      | .And, false => some (false, H)
      | .Or, true => some (true, H)
      | .And, true => evTs C n sc op es ρ H
      | .Or, false => evTs C n sc op es ρ H
    | none => none
end

/-- a display of constants would be stored in an order that is not told -/
noncomputable def assignOk (t e : Expr) : Bool := match dTup t, dTup e with
  | some _, some vs => !(vs.all (constantsAlone 8))
  | _, _ => true

/-- storing into a target -/
noncomputable def tgt (C : Cx) (n : Nat) (sc : Scope) (t : Expr) (v : V) (ρ : Loc) (H : Hp) : Option (Loc × Hp) := match t with
  | .Name x _ => chk (kindIs sc x isOwn) (some (up x v ρ, H))
  | .Attribute o a _ => chk (C.attr a) (attT a v ρ (ev C n sc o ρ H))
  | .Subscript o i _ => idxT v ρ (ev C n sc o ρ H) (ev C n sc i ρ)
  | _ => none
noncomputable def tgts (C : Cx) (n : Nat) (sc : Scope) : List Expr → List V → Loc → Hp → Option (Loc × Hp)
  | [], [], ρ, H => some (ρ, H)
  | t :: ts, v :: vs, ρ, H => match tgt C n sc t v ρ H with
    | some (ρ, H) => tgts C n sc ts vs ρ H
    | none => none
  | _, _, _, _ => none
noncomputable def tgtAny (C : Cx) (n : Nat) (sc : Scope) (t : Expr) (v : V) (ρ : Loc) (H : Hp) : Option (Loc × Hp) := match dTup t with
  | some ts => match v with
    | .tup vs => tgts C n sc ts vs ρ H
    | _ => none
  | none => tgt C n sc t v ρ H

mutual
noncomputable def ex (C : Cx) : Nat → Scope → Stmt → Loc → Hp → Option (Fl × Loc × Hp)
  | 0, _, _, _, _ => none
  | n + 1, sc, st, ρ, H => match st with
    | .Expr (.Call f as ks p) _ => match ev C n sc (.Call f as ks p) ρ H with
      | some (_, H) => some (.next, ρ, H)
      | none => none
    | .Return (some e) _ => match ev C n sc e ρ H with
      | some (v, H) => some (.ret v, ρ, H)
      | none => none
    | .Return none _ => some (.ret .none, ρ, H)
    | .Assign [t] e _ => match assignOk t e with
      | true => match ev C n sc e ρ H with
        | some (v, H) => match tgtAny C n sc t v ρ H with
          | some (ρ, H) => some (.next, ρ, H)
          | none => none
        | none => none
      | false => none
    | .AugAssign t op e _ => match op with
      | .Add => match t with
        | .Name x _ => chk (kindIs sc x isOwn) (augK (fun i => up x (.int i) ρ) (lk x ρ) (ev C n sc e ρ H))
        | .Attribute o a _ => chk (C.attr a) (augAK a ρ (ev C n sc o ρ H) (ev C n sc e ρ))
        | _ => none
      | _ => none
    | .If t a b _ => match evT C n sc t ρ H with
      | some (true, H) => exs C n sc a ρ H
      | some (false, H) => exs C n sc b ρ H
      | none => none
    | .While t body [] _ => whileF (fun ρ H => evT C n sc t ρ H) (fun ρ H => exs C n sc body ρ H) W ρ H
    | .For t it body [] _ => match ev C n sc it ρ H with
      | some (src, H) => match iter src with
        | some vs => forF (fun v ρ H => match tgtAny C n sc t v ρ H with
            | some (ρ, H) => exs C n sc body ρ H
            | none => none) vs ρ H
        | none => none
      | none => none
    | _ => none
noncomputable def exs (C : Cx) : Nat → Scope → List Stmt → Loc → Hp → Option (Fl × Loc × Hp)
  | 0, _, _, _, _ => none
  | _ + 1, _, [], ρ, H => some (.next, ρ, H)
  | n + 1, sc, s :: r, ρ, H => match ex C n sc s ρ H with
    | some (.next, ρ, H) => exs C n sc r ρ H
    | some (.ret v, ρ, H) => some (.ret v, ρ, H)
    | none => none
end

structure FD where
  params : List Str
  body : List Stmt
  scope : Scope

structure Pg where
  defs : Bool → Str → Option FD
  glob : Str → Option V
  blt : Str → Bool
  cls : Str → Bool
  attr : Str → Bool

noncomputable def FU : Nat := 60

noncomputable def bindP : List Str → List V → Option Loc
  | [], [] => some []
  | x :: xs, v :: vs => (bindP xs vs).map ((x, v) :: ·)
  | _, _ => none
theorem bindP_1 (x_2 : Str) (xs : List Str) (v : V) (vs : List V) : bindP (x_2 :: xs) (v :: vs) = Option.map (fun x => (x_2, v) :: x) (bindP xs vs) := rfl
/-- a def's body run -/
noncomputable def runD (C : Cx) (d : FD) (args : List V) (H : Hp) : Option (V × Hp) :=
  match bindP d.params args with
  | some ρ => match exs C FU d.scope d.body ρ H with
    | some (.ret v, _, H) => some (v, H)
    | some (.next, _, H) => some (.none, H)
    | none => none
  | none => none

/-- calls, k deep; what takes pure values alone runs in a heap of its own -/
noncomputable def callF (P : Pg) : Nat → Bool → Str → List V → Hp → Option (V × Hp)
  | 0, _, _, _, _ => none
  | k + 1, m, f, args, H =>
    let C : Cx := ⟨P.glob, P.blt, P.cls, P.attr, callF P k⟩
    match !m && P.cls f with
    | true => match P.defs true (N "__init__") with
      | some d => match runD C d (.obj H.length :: args) (H ++ [.inst []]) with
        | some (.none, H') => some (.obj H.length, H')
        | _ => none
      | none => none
    | false => match P.defs m f with
      | some d => match vpures args with
        | true => match runD C d args [] with
          | some (v, H') => (frz H' 100 v).map fun v => (v, H)
          | none => none
        | false => runD C d args H
      | none => none

end Mine
end
section
open PySem
namespace Mine
/-! the evaluator, step by step, by binds -/
noncomputable def vh (H : Hp) (v : V) : V × Hp := (v, H)
noncomputable def attK (x : Str) (o : Option (V × Hp)) : Option (V × Hp) := match o with
  | some (.obj i, H) => (match H[i]? with
    | some (.inst fs) => (lk x fs).map (vh H)
    | _ => none)
  | _ => none
noncomputable def methK (ar : Hp → Option (List V × Hp)) (sm : Hp → List Nat → List V → Option V) (lm : Hp → Nat → List V → List V → Option (V × Hp)) (cl : List V → Hp → Option (V × Hp)) (x : Str) (y : V × Hp) : Option (V × Hp) := match y.1 with
  | .str l => (ar y.2).bind fun a => (sm a.2 l a.1).map (vh a.2)
  | .ref i => (match y.2[i]? with
    | some (.list _) => (ar y.2).bind fun a => (match a.2[i]? with
      | some (.list xs) => lm a.2 i xs a.1
      | _ => none)
    | _ => none)
  | .obj i => (match y.2[i]? with
    | some (.inst fs) => (match lk x fs with
      | none => (ar y.2).bind fun a => cl (.obj i :: a.1) a.2
      | some _ => none)
    | _ => none)
  | _ => none
noncomputable def sliK (b : V) (l h : Option Int) (H : Hp) : Option (V × Hp) := (slice b l h).map (vh H)
noncomputable def compK (f : V → Hp → Option (Option V × Hp)) (y : V × Hp) : Option (V × Hp) := (iter y.1).bind fun vs => (compF f vs y.2).map fun r => (.lst r.1, r.2)

theorem chk_some {α : Type} {b : Bool} {o : Option α} {x : α} (h : chk b o = some x) : b = true ∧ o = some x := by
  cases b with
  | true => exact ⟨rfl, h⟩
  | false => exact nos h
section
variable {D : Cx} {ρ : Loc} {H : Hp} {sc : Scope} {n : Nat}
theorem e_bin (l r : Expr) (op : Operator) (p : Pos) : ev D (n + 1) sc (.BinOp l op r p) ρ H = (evI D n sc l ρ H).bind fun x => (evI D n sc r ρ x.2).bind fun y => (binop op y.2 x.1 y.1).map (vh y.2) := by kernel_rfl
theorem e_un (op : UnaryOp) (x : Expr) (p : Pos) : ev D (n + 1) sc (.UnaryOp op x p) ρ H = (ev D n sc x ρ H).bind fun x => (unop op x.1).map (vh x.2) := by kernel_rfl
theorem e_cmp (l : Expr) (ops : List CmpOp) (rs : List Expr) (p : Pos) : ev D (n + 1) sc (.Compare l ops rs p) ρ H = (evI D n sc l ρ H).bind fun x => (evC D n sc x.1 ops rs ρ x.2).map fun r => (.bool r.1, r.2) := by kernel_rfl
theorem e_ite (t a b : Expr) (p : Pos) : ev D (n + 1) sc (.IfExp t a b p) ρ H = (evT D n sc t ρ H).bind fun x => match x.1 with
    | true => ev D n sc a ρ x.2
    | false => ev D n sc b ρ x.2 := by kernel_rfl
theorem e_tup (es : List Expr) (c : Nat) (p : Pos) : ev D (n + 1) sc (.Tuple es c p) ρ H = chk (szOk es.length) ((evs D n sc es ρ H).map fun r => (.tup r.1, r.2)) := by kernel_rfl
theorem e_lst (es : List Expr) (p : Pos) : ev D (n + 1) sc (.List es p) ρ H = chk (szOk es.length) ((evs D n sc es ρ H).map fun r => (.ref r.2.length, r.2 ++ [.list r.1])) := by kernel_rfl
theorem e_att (o : Expr) (a : Str) (p : Pos) : ev D (n + 1) sc (.Attribute o a p) ρ H = chk (D.attr a && baseOk o) (attK a (ev D n sc o ρ H)) := by kernel_rfl
theorem e_sli (b : Expr) (lo hi : Option Expr) (p p' : Pos) : ev D (n + 1) sc (.Subscript b (.Slice lo hi none p) p') ρ H = (evI D n sc b ρ H).bind fun x => (evO D n sc lo ρ x.2).bind fun l => (evO D n sc hi ρ l.2).bind fun h => sliK x.1 l.1 h.1 h.2 := by kernel_rfl
theorem e_name (x : Str) (p : Pos) : ev D (n + 1) sc (.Name x p) ρ H = match leq (cps x) dbgN with
    | true => none
    | false => match kindIs sc x isLoc with
      | true => (lk x ρ).map (vh H)
      | false => match kindIs sc x isGlob with
        | true => (D.glob x).map (vh H)
        | false => none := by kernel_rfl
theorem e_idx (b i : Expr) (p : Pos) (hi : isSlice i = false) : ev D (n + 1) sc (.Subscript b i p) ρ H = (evI D n sc b ρ H).bind fun x => (ev D n sc i ρ x.2).bind fun y => (sub y.2 x.1 y.1).map (vh y.2) := by
  cases i <;> first | (cases hi; done) | kernel_rfl
theorem e_call (x : Str) (q : Pos) (as : List Expr) (p : Pos) : ev D (n + 1) sc (.Call (.Name x q) as [] p) ρ H = chk (kindIs sc x isGlob && !leq (cps x) dbgN) ((evs D n sc as ρ H).bind fun r => match D.blt x with
    | true => (builtin x r.2 r.1).map (vh r.2)
    | false => D.call false x r.1 r.2) := by kernel_rfl
theorem e_meth (o : Expr) (m : Str) (ap : Pos) (as : List Expr) (p : Pos) : ev D (n + 1) sc (.Call (.Attribute o m ap) as [] p) ρ H = chk (Nat.beq ap.endLine p.line && Nat.ble as.length 3 && baseOk o) ((ev D n sc o ρ H).bind (methK (evs D n sc as ρ) (strMeth m) (listMeth m) (fun vs H => D.call true m vs H) m)) := by kernel_rfl
theorem e_comp (elt tgt it : Expr) (ifs : List Expr) (sc' : Scope) (p : Pos) {ys : List Str} (h1 : tnames tgt = some ys) (h2 : compScOk sc sc' ys = true) (h3 : lk dot0 ρ = none) :
    ev D (n + 1) sc (.ListComp elt [⟨tgt, it, ifs, 0⟩] sc' p) ρ H = (ev D n sc it ρ H).bind (compK fun v H => (tbind ys v).bind fun own => (evIf D n sc' ifs (own ++ ρ) H).bind fun x => match x.1 with
      | true => (ev D n sc' elt (own ++ ρ) x.2).map fun r => (some r.1, r.2)
      | false => some (none, x.2)) := by
  have e : ev D (n + 1) sc (.ListComp elt [⟨tgt, it, ifs, 0⟩] sc' p) ρ H = (ev D n sc it ρ H).bind fun x => match iter x.1, tnames tgt with
      | some vs, some xs => chk (compScOk sc sc' xs && (lk dot0 ρ).isNone) ((compF (fun v H => (tbind xs v).bind fun own => (evIf D n sc' ifs (own ++ ρ) H).bind fun x => match x.1 with
        | true => (ev D n sc' elt (own ++ ρ) x.2).map fun r => (some r.1, r.2)
        | false => some (none, x.2)) vs x.2).map fun r => (.lst r.1, r.2))
      | _, _ => none := by kernel_rfl
  rw [e, h1, h3]
  refine congrArg _ (funext fun x => ?_)
  unfold compK
  cases iter x.1 with
  | none => rfl
  | some vs => dsimp only; rw [h2]; rfl
theorem e_nil : evs D (n + 1) sc [] ρ H = some ([], H) := by kernel_rfl
theorem e_cons0 (e : Expr) (es : List Expr) : evs D (n + 1) sc (e :: es) ρ H = bif isStar e then none else (ev D n sc e ρ H).bind fun x => (evs D n sc es ρ x.2).map fun r => (x.1 :: r.1, r.2) := by kernel_rfl
theorem e_cons (e : Expr) (es : List Expr) (h : isStar e = false) : evs D (n + 1) sc (e :: es) ρ H = (ev D n sc e ρ H).bind fun x => (evs D n sc es ρ x.2).map fun r => (x.1 :: r.1, r.2) := by
  rw [e_cons0, h]; rfl
theorem e_comp0 (elt tgt it : Expr) (ifs : List Expr) (sc' : Scope) (p : Pos) : ev D (n + 1) sc (.ListComp elt [⟨tgt, it, ifs, 0⟩] sc' p) ρ H = (ev D n sc it ρ H).bind fun x => match iter x.1, tnames tgt with
      | some vs, some xs => chk (compScOk sc sc' xs && (lk dot0 ρ).isNone) ((compF (fun v H => (tbind xs v).bind fun own => (evIf D n sc' ifs (own ++ ρ) H).bind fun x => match x.1 with
        | true => (ev D n sc' elt (own ++ ρ) x.2).map fun r => (some r.1, r.2)
        | false => some (none, x.2)) vs x.2).map fun r => (.lst r.1, r.2))
      | _, _ => none := by kernel_rfl
theorem bndE {α β : Type} {o : Option α} {f : α → Option β} {r : β} {P : Prop} (h : o.bind f = some r) (k : ∀ a, o = some a → f a = some r → P) : P := by
  cases o with
  | none => exact nos h
  | some a => exact k a rfl h
theorem mpd {α β : Type} {o : Option α} {f : α → β} {r : β} {P : Prop} (h : o.map f = some r) (k : ∀ a, o = some a → f a = r → P) : P := by
  cases o with
  | none => exact nos h
  | some a => exact k a rfl (Option.some.inj h)
theorem ckd {α : Type} {b : Bool} {o : Option α} {r : α} {P : Prop} (h : chk b o = some r) (k : b = true → o = some r → P) : P := by
  cases b with
  | true => exact k rfl h
  | false => exact nos h
theorem ckm {α : Type} {b : Bool} {o r : α} {P : Prop} (h : (match b with | true => some o | false => none) = some r) (k : b = true → o = r → P) : P := by
  cases b with
  | true => exact k rfl (Option.some.inj h)
  | false => exact nos h
noncomputable def intK (o : Option (V × Hp)) : Option (Option Int × Hp) := match o with
  | some (.int i, H) => some (some i, H)
  | _ => none
theorem intK_some {o : Option (V × Hp)} {r : Option Int × Hp} (h : intK o = some r) : ∃ i H, o = some (.int i, H) ∧ (some i, H) = r := by
  cases o with
  | none => exact nos h
  | some x =>
    obtain ⟨v, H⟩ := x
    cases v <;> first | exact nos h | skip
    exact ⟨_, _, rfl, Option.some.inj h⟩
inductive AttI {R : Type} (x : Str) (v : V) (ρ : R) (o : Option (V × Hp)) (ρ' : R) (H' : Hp) : Prop
  | mk (i : Nat) (H1 : Hp) (fs : List (Str × V)) (q1 : o = some (.obj i, H1)) (q2 : H1[i]? = some (.inst fs)) (hz : ¬ 100 ≤ fs.length) (e1 : ρ = ρ') (e2 : H1.set i (.inst (up x v fs)) = H')
theorem ble_not {a b : Nat} (h : Nat.ble a b = false) : ¬ a ≤ b := fun z => tf0 ((Nat.ble_eq_true_of_le z).symm.trans h)
theorem attT_inv {R : Type} {x : Str} {v : V} {ρ ρ' : R} {o : Option (V × Hp)} {H' : Hp} (q : attT x v ρ o = some (ρ', H')) : AttI x v ρ o ρ' H' :=
  bndE q fun y q1 q => bndE q fun i qi q => bndE q fun fs q2 q => by
    cases hz : Nat.ble 100 fs.length with
    | true => rw [hz] at q; exact nos q
    | false =>
      rw [hz] at q
      have q := Prod.mk.inj (Option.some.inj q)
      exact ⟨i, y.2, fs, objV_some qi ▸ q1, insts_some q2, ble_not hz, q.1, q.2⟩
inductive IdxI {R : Type} (v : V) (ρ : R) (o : Option (V × Hp)) (f : Hp → Option (V × Hp)) (ρ' : R) (H' : Hp) : Prop
  | mk (j : Nat) (H1 : Hp) (k : Int) (H2 : Hp) (vs : List V) (q1 : o = some (.ref j, H1)) (q2 : f H1 = some (.int k, H2)) (q3 : H2[j]? = some (.list vs)) (h1 : 0 ≤ k) (h2 : k < vs.length) (e1 : ρ = ρ') (e2 : H2.set j (.list (vs.set k.toNat v)) = H')
theorem idxT_inv {R : Type} {v : V} {ρ ρ' : R} {o : Option (V × Hp)} {f : Hp → Option (V × Hp)} {H' : Hp} (q : idxT v ρ o f = some (ρ', H')) : IdxI v ρ o f ρ' H' :=
  bndE q fun y q1 q => bndE q fun j qj q => bndE q fun z q2 q => bndE q fun k qk q => bndE q fun vs q3 q => ckd q fun hb q =>
    have hb := Bool.and_eq_true_iff.mp hb
    have q := Prod.mk.inj (Option.some.inj q)
    ⟨j, y.2, k, z.2, vs, refV_some qj ▸ q1, intV_some qk ▸ q2, lists_some q3, of_decide_eq_true hb.1, of_decide_eq_true hb.2, q.1, q.2⟩
inductive AugI {R : Type} (g : Int → R) (a : Option V) (o : Option (V × Hp)) (fl : Fl) (ρ' : R) (H' : Hp) : Prop
  | mk (i j : Int) (q1 : a = some (.int i)) (q2 : o = some (.int j, H')) (e1 : Fl.next = fl) (e2 : g (i + j) = ρ')
theorem augK_inv {R : Type} {g : Int → R} {a : Option V} {o : Option (V × Hp)} {fl : Fl} {ρ' : R} {H' : Hp} (q : augK g a o = some (fl, ρ', H')) : AugI g a o fl ρ' H' :=
  bndE q fun v q1 q => bndE q fun i qi q => bndE q fun y q2 q => mpd q fun j qj q => by
    obtain ⟨w, H⟩ := y
    have e := Prod.mk.inj q
    have e' := Prod.mk.inj e.2
    exact ⟨i, j, intV_some qi ▸ q1, q2.trans (by rw [← e'.2, show w = .int j from intV_some qj]), e.1, e'.1⟩
inductive AugAI {R : Type} (x : Str) (ρ : R) (o : Option (V × Hp)) (g : Hp → Option (V × Hp)) (fl : Fl) (ρ' : R) (H' : Hp) : Prop
  | mk (i : Nat) (H1 : Hp) (fs : List (Str × V)) (a b : Int) (H2 : Hp) (fs' : List (Str × V)) (q1 : o = some (.obj i, H1)) (q2 : H1[i]? = some (.inst fs)) (q3 : lk x fs = some (.int a)) (q4 : g H1 = some (.int b, H2)) (q5 : H2[i]? = some (.inst fs')) (hz : ¬ 100 ≤ fs'.length)
    (e1 : Fl.next = fl) (e2 : ρ = ρ') (e3 : H2.set i (.inst (up x (.int (a + b)) fs')) = H')
theorem augAK_inv {R : Type} {x : Str} {ρ ρ' : R} {o : Option (V × Hp)} {g : Hp → Option (V × Hp)} {fl : Fl} {H' : Hp} (q : augAK x ρ o g = some (fl, ρ', H')) : AugAI x ρ o g fl ρ' H' :=
  bndE q fun y q1 q => bndE q fun i qi q => bndE q fun fs q2 q => bndE q fun v q3 q => bndE q fun a qa q => bndE q fun z q4 q => bndE q fun b qb q => bndE q fun fs' q5 q => by
    cases hz : Nat.ble 100 fs'.length with
    | true => rw [hz] at q; exact nos q
    | false =>
      rw [hz] at q
      have e := Prod.mk.inj (Option.some.inj q)
      have e' := Prod.mk.inj e.2
      exact ⟨i, y.2, fs, a, b, z.2, fs', objV_some qi ▸ q1, insts_some q2, intV_some qa ▸ q3, intV_some qb ▸ q4, insts_some q5, ble_not hz, e.1, e'.1, e'.2⟩
theorem eI_lst (es : List Expr) (p : Pos) : evI D (n + 1) sc (.List es p) ρ H = chk (szOk es.length) ((evs D n sc es ρ H).map fun r => (.lst r.1, r.2)) := by kernel_rfl
theorem eO_some (e : Expr) : evO D (n + 1) sc (some e) ρ H = intK (ev D n sc e ρ H) := by kernel_rfl
theorem eB_and (e e2 : Expr) (es : List Expr) : evB D (n + 1) sc .And (e :: e2 :: es) ρ H = (ev D n sc e ρ H).bind fun x => (truth x.2 x.1).bind fun t => bif t then evB D n sc .And (e2 :: es) ρ x.2 else some x := by kernel_rfl
theorem eB_or (e e2 : Expr) (es : List Expr) : evB D (n + 1) sc .Or (e :: e2 :: es) ρ H = (ev D n sc e ρ H).bind fun x => (truth x.2 x.1).bind fun t => bif t then some x else evB D n sc .Or (e2 :: es) ρ x.2 := by kernel_rfl
theorem eC_one (a : V) (op : CmpOp) (r : Expr) : evC D (n + 1) sc a [op] [r] ρ H = (evI D n sc r ρ H).bind fun x => (cmpop op x.2 a x.1).map fun c => (c, x.2) := by kernel_rfl
theorem eC_more (a : V) (op op2 : CmpOp) (ops : List CmpOp) (r r2 : Expr) (rs : List Expr) : evC D (n + 1) sc a (op :: op2 :: ops) (r :: r2 :: rs) ρ H = (evI D n sc r ρ H).bind fun x => (cmpop op x.2 a x.1).bind fun c => bif c then evC D n sc x.1 (op2 :: ops) (r2 :: rs) ρ x.2 else some (false, x.2) := by kernel_rfl
theorem eT_not (x : Expr) (p : Pos) : evT D (n + 1) sc (.UnaryOp .Not x p) ρ H = (evT D n sc x ρ H).map fun r => (!r.1, r.2) := by kernel_rfl
theorem eT_ite (t a b : Expr) (p : Pos) : evT D (n + 1) sc (.IfExp t a b p) ρ H = (evT D n sc t ρ H).bind fun x => bif x.1 then evT D n sc a ρ x.2 else evT D n sc b ρ x.2 := by kernel_rfl
theorem eT_cmp (l : Expr) (ops : List CmpOp) (rs : List Expr) (p : Pos) : evT D (n + 1) sc (.Compare l ops rs p) ρ H = (evI D n sc l ρ H).bind fun x => evC D n sc x.1 ops rs ρ x.2 := by kernel_rfl
theorem eC_few (a : V) (op op2 : CmpOp) (ops : List CmpOp) (r : Expr) : evC D (n + 1) sc a (op :: op2 :: ops) [r] ρ H = (evI D n sc r ρ H).bind fun x => (cmpop op x.2 a x.1).bind fun c => none := by kernel_rfl
theorem eC_many (a : V) (op : CmpOp) (r r2 : Expr) (rs : List Expr) : evC D (n + 1) sc a [op] (r :: r2 :: rs) ρ H = (evI D n sc r ρ H).bind fun x => (cmpop op x.2 a x.1).bind fun c => none := by kernel_rfl
theorem eTs_and (e : Expr) (es : List Expr) : evTs D (n + 1) sc .And (e :: es) ρ H = (evT D n sc e ρ H).bind fun x => bif x.1 then evTs D n sc .And es ρ x.2 else some (false, x.2) := by kernel_rfl
theorem eTs_or (e : Expr) (es : List Expr) : evTs D (n + 1) sc .Or (e :: es) ρ H = (evT D n sc e ρ H).bind fun x => bif x.1 then some (true, x.2) else evTs D n sc .Or es ρ x.2 := by kernel_rfl
theorem eI_0 (e : Expr) : evI D (n + 1) sc e ρ H = match dLst e with
    | some es => chk (szOk es.length) ((evs D n sc es ρ H).map fun r => (.lst r.1, r.2))
    | none => ev D n sc e ρ H := by kernel_rfl
theorem eI_none {e : Expr} (h : dLst e = none) : evI D (n + 1) sc e ρ H = ev D n sc e ρ H := by rw [eI_0, h]
theorem tgts_cons (t : Expr) (ts : List Expr) (d : V) (ds : List V) : tgts D n sc (t :: ts) (d :: ds) ρ H = (tgt D n sc t d ρ H).bind fun y => tgts D n sc ts ds y.1 y.2 := by kernel_rfl
noncomputable def retK {R : Type} (x : Fl × R × Hp) : Option (V × Hp) := match x.1 with
  | .ret v => some (v, x.2.2)
  | .next => some (.none, x.2.2)
noncomputable def newK (H : Hp) (o : Option (V × Hp)) : Option (V × Hp) := match o with
  | some (.none, H') => some (.obj H.length, H')
  | _ => none
theorem runD_b (d : FD) (args : List V) : runD D d args H = (bindP d.params args).bind fun ρ => (exs D FU d.scope d.body ρ H).bind retK := by kernel_rfl
theorem bindP_c (x : Str) (xs : List Str) (v : V) (vs : List V) : bindP (x :: xs) (v :: vs) = (bindP xs vs).map ((x, v) :: ·) := by kernel_rfl
theorem callF_b (P : Pg) (k : Nat) (m : Bool) (f : Str) (args : List V) : callF P (k + 1) m f args H = bif !m && P.cls f then (P.defs true (N "__init__")).bind fun d => newK H (runD ⟨P.glob, P.blt, P.cls, P.attr, callF P k⟩ d (.obj H.length :: args) (H ++ [.inst []]))
    else (P.defs m f).bind fun d => bif vpures args then (runD ⟨P.glob, P.blt, P.cls, P.attr, callF P k⟩ d args []).bind fun y => (frz y.2 100 y.1).map fun v => (v, H) else runD ⟨P.glob, P.blt, P.cls, P.attr, callF P k⟩ d args H := by kernel_rfl
/-! statements -/
noncomputable def contK {R : Type} (k : R → Hp → Option (Fl × R × Hp)) (x : Fl × R × Hp) : Option (Fl × R × Hp) := match x.1 with
  | .next => k x.2.1 x.2.2
  | .ret v => some (.ret v, x.2.1, x.2.2)
variable {st : Stmt}
theorem x_expr (f : Expr) (as : List Expr) (ks : List Keyword) (p2 p : Pos) : ex D (n + 1) sc (.Expr (.Call f as ks p2) p) ρ H = (ev D n sc (.Call f as ks p2) ρ H).bind fun x => some (.next, ρ, x.2) := by kernel_rfl
theorem x_ret (e : Expr) (p : Pos) : ex D (n + 1) sc (.Return (some e) p) ρ H = (ev D n sc e ρ H).bind fun x => some (.ret x.1, ρ, x.2) := by kernel_rfl
theorem x_asg (t e : Expr) (p : Pos) : ex D (n + 1) sc (.Assign [t] e p) ρ H = chk (assignOk t e) ((ev D n sc e ρ H).bind fun x => (tgtAny D n sc t x.1 ρ x.2).bind fun y => some (.next, y.1, y.2)) := by kernel_rfl
theorem x_augN (x : Str) (e : Expr) (p p1 : Pos) : ex D (n + 1) sc (.AugAssign (.Name x p1) .Add e p) ρ H = chk (kindIs sc x isOwn) (augK (fun i => up x (.int i) ρ) (lk x ρ) (ev D n sc e ρ H)) := by kernel_rfl
theorem x_augA (o e : Expr) (a : Str) (p p1 : Pos) : ex D (n + 1) sc (.AugAssign (.Attribute o a p1) .Add e p) ρ H = chk (D.attr a) (augAK a ρ (ev D n sc o ρ H) (ev D n sc e ρ)) := by kernel_rfl
theorem x_if (t : Expr) (a b : List Stmt) (p : Pos) : ex D (n + 1) sc (.If t a b p) ρ H = (evT D n sc t ρ H).bind fun x => bif x.1 then exs D n sc a ρ x.2 else exs D n sc b ρ x.2 := by kernel_rfl
theorem x_while (t : Expr) (b : List Stmt) (p : Pos) : ex D (n + 1) sc (.While t b [] p) ρ H = whileF (fun ρ H => evT D n sc t ρ H) (fun ρ H => exs D n sc b ρ H) W ρ H := by kernel_rfl
noncomputable def forB' (D : Cx) (n : Nat) (sc : Scope) (t : Expr) (b : List Stmt) (v : V) (ρ : Loc) (H : Hp) : Option (Fl × Loc × Hp) := (tgtAny D n sc t v ρ H).bind fun y => exs D n sc b y.1 y.2
theorem x_for (t it : Expr) (b : List Stmt) (p : Pos) : ex D (n + 1) sc (.For t it b [] p) ρ H = (ev D n sc it ρ H).bind fun x => (iter x.1).bind fun vs => forF (forB' D n sc t b) vs ρ x.2 := by kernel_rfl
theorem xs_cons (s : Stmt) (r : List Stmt) : exs D (n + 1) sc (s :: r) ρ H = (ex D n sc s ρ H).bind (contK (exs D n sc r)) := by kernel_rfl
theorem whileF_s (t : Loc → Hp → Option (Bool × Hp)) (b : Loc → Hp → Option (Fl × Loc × Hp)) (m : Nat) : whileF t b (m + 1) ρ H = (t ρ H).bind fun x => bif x.1 then (b ρ x.2).bind (contK (whileF t b m)) else some (.next, ρ, x.2) := by kernel_rfl
theorem forF_c (f : V → Loc → Hp → Option (Fl × Loc × Hp)) (v : V) (vs : List V) : forF f (v :: vs) ρ H = (f v ρ H).bind (contK (forF f vs)) := by kernel_rfl
end
end Mine
end
section
open PySem PySem.W PyProof.Rows
namespace Mine

theorem leq_iff : ∀ {x y : List Nat}, leq x y = true ↔ x = y
  | [], [] => by simp [leq_0]
  | [], _ :: _ => by simp [leq_2]
  | _ :: _, [] => by simp [leq_3]
  | a :: x, b :: y => by
    rw [leq_1]
    cases h : (a == b) with
    | true =>
      have := eq_of_beq h
      subst this
      simp [leq_iff (x := x) (y := y)]
    | false =>
      have := ne_of_beq_false h
      simp [this]
theorem cps_inj {x y : Str} (h : cps x = cps y) : x = y := by
  obtain ⟨x⟩ := x; obtain ⟨y⟩ := y
  exact congrArg Str.mk (Array.toList_inj.mp h)
theorem seq_iff {x y : Str} : seq x y = true ↔ x = y := by
  unfold seq
  rw [leq_iff]
  exact ⟨cps_inj, fun h => h ▸ rfl⟩
theorem seq_self (x : Str) : seq x x = true := seq_iff.mpr rfl
theorem seq_ne {x y : Str} (h : x ≠ y) : seq x y = false := by
  cases q : seq x y with
  | false => rfl
  | true => exact absurd (seq_iff.mp q) h

theorem lk_eq {α : Type} (x : Str) : ∀ l : List (Str × α), lk x l = l.lookup x
  | [] => rfl
  | (y, v) :: r => by
    rw [lk_1, List.lookup_cons, lk_eq x r]
    by_cases h : x = y
    · subst h; simp [seq_self]
    · rw [seq_ne h, beq_eq_false_iff_ne.mpr h]
theorem lk_up (x y : Str) (v : V) : ∀ ρ : Loc, lk y (up x v ρ) = if y = x then some v else lk y ρ
  | [] => by
    by_cases h : y = x
    · subst h; simp [up, lk_1, seq_self]
    · simp [up, lk_0, lk_1, seq_ne h, h]
  | p :: r => by
    unfold up
    by_cases h : x = p.1
    · rw [seq_iff.mpr h]
      by_cases q : y = x
      · subst q; simp [lk_1, seq_self]
      · have : y ≠ p.1 := h ▸ q
        simp [lk_1, seq_ne q, seq_ne this, q]
    · rw [seq_ne h]
      by_cases q : y = p.1
      · have : y ≠ x := fun z => h (z ▸ q)
        simp only [lk_1, seq_iff.mpr q, if_neg this]
      · simp only [lk_1, seq_ne q, lk_up x y v r]

/-- flat values, as a top dict keeps them -/
inductive FlatR : Value → V → Prop
  | str {x : Str} {t : Tok} {l : List Nat} : cps x = l → l.length ≤ 1000000 → FlatR (.str x t) (.str l)
  | bool (b : Bool) : FlatR (.bool b) (.bool b)

/-- the entries of a top dict -/
inductive DR (P : Params) : List DictEntry → List (List Nat × V) → Prop
  | nil : DR P [] []
  | cons {hh : Int} {x : Str} {t : Tok} {v : Value} {k : List Nat} {d : V} {es : List DictEntry} {ds : List (List Nat × V)} : cps x = k → hh = PyData.keyHash P x → FlatR v d → DR P es ds → DR P (⟨hh, .str x t, v⟩ :: es) ((k, d) :: ds)

variable (Wd : World) (Cl : Addr)
mutual
/-- what a value of the model is, among mine: α lists the own objects that may change, β those of the frames outside -/
inductive VR (h : Heap) (α β : List Addr) : Value → V → Prop
  | none : VR h α β .none .none
  | bool (b : Bool) : VR h α β (.bool b) (.bool b)
  | int (i : Int) (t : Tok) : VR h α β (.int i t) (.int i)
  | str {x : Str} {t : Tok} {l : List Nat} : cps x = l → l.length ≤ 1000000 → VR h α β (.str x t) (.str l)
  | tup {a : Addr} {ob : Obj} {vs : List Value} {n : Nat} {ds : List V} : h.get? a = some ob → a ∉ α → a ∉ β → ob.cls = .type "tuple" → ob.data = .seq vs.toArray n → VRs h α β vs ds → VR h α β (.ref a) (.tup ds)
  | lst {a : Addr} {ob : Obj} {vs : List Value} {n : Nat} {ds : List V} : h.get? a = some ob → a ∉ α → a ∉ β → ob.cls = .type "list" → ob.data = .seq vs.toArray n → VRs h α β vs ds → VR h α β (.ref a) (.lst ds)
  | rng {a : Addr} {x y : Int} {t u v : Tok} : IsRange h a x y 1 t u v → a ∉ α → a ∉ β → small x = true → small y = true → VR h α β (.ref a) (.rng x y)
  | dct {a : Addr} {es : List DictEntry} {n : Nat} {ds : List (List Nat × V)} : h.get? a = some ⟨.type "dict", Option.none, .dict es.toArray n, #[]⟩ → a ∉ α → a ∉ β → (a == sysModules) = false → DR Wd.params es ds → VR h α β (.ref a) (.dct ds)
  | ref {a : Addr} {i : Nat} : α[i]? = some a → VR h α β (.ref a) (.ref i)
  | obj {a d : Addr} {i : Nat} : h.get? a = some (instObj Cl d) → a ∉ α → a ∉ β → α[i]? = some d → VR h α β (.ref a) (.obj i)
inductive VRs (h : Heap) (α β : List Addr) : List Value → List V → Prop
  | nil : VRs h α β [] []
  | cons {v : Value} {vs : List Value} {d : V} {ds : List V} : VR h α β v d → VRs h α β vs ds → VRs h α β (v :: vs) (d :: ds)
end

/-- the heap's step: all that stood stands, but for α; α may grow by what is new -/
structure Mv (α : List Addr) (h : Heap) (α' : List Addr) (h' : Heap) : Prop where
  keep : ∀ b o, h.get? b = some o → b ∉ α → h'.get? b = some o
  there : ∀ b o, h.get? b = some o → ∃ o', h'.get? b = some o'
  ext : ∃ δ, α' = α ++ δ ∧ ∀ a ∈ δ, h.get? a = none
structure Go (α : List Addr) (s : Shared) (α' : List Addr) (s' : Shared) : Prop extends Mv α s.heap α' s'.heap where
  same : ∃ h' tk, s' = { s with heap := h', toks := tk }

theorem Mv.get {α α' : List Addr} {h h' : Heap} (g : Mv α h α' h') {i : Nat} {a : Addr} (e : α[i]? = some a) : α'[i]? = some a := by
  obtain ⟨δ, rfl, _⟩ := g.ext
  rw [List.getElem?_append_left (List.getElem?_eq_some_iff.mp e).1]; exact e
theorem Mv.off {α α' : List Addr} {h h' : Heap} (g : Mv α h α' h') {a : Addr} {o : Obj} (e : h.get? a = some o) (ha : a ∉ α) : a ∉ α' := by
  obtain ⟨δ, rfl, hf⟩ := g.ext
  intro hm
  rcases List.mem_append.mp hm with q | q
  · exact ha q
  · rw [hf a q] at e; first | exact Mine.nos e | exact Mine.ff0 e | exact Mine.tf0 e | exact Mine.sn0 e | cases e
theorem Mv.refl (α : List Addr) (h : Heap) : Mv α h α h := ⟨fun _ _ e _ => e, fun _ o e => ⟨o, e⟩, [], (List.append_nil _).symm, fun _ hm => nomatch hm⟩
theorem Go.refl (α : List Addr) (s : Shared) : Go α s α s := ⟨Mv.refl _ _, ⟨_, _, rfl⟩⟩
theorem Mv.trans {α α' α'' : List Addr} {h h' h'' : Heap} (g : Mv α h α' h') (k : Mv α' h' α'' h'') : Mv α h α'' h'' := by
  refine ⟨fun b o e hb => k.keep b o (g.keep b o e hb) (g.off e hb), fun b o e => ?_, ?_⟩
  · obtain ⟨o', e'⟩ := g.there b o e
    exact k.there b o' e'
  · obtain ⟨δ, rfl, hf⟩ := g.ext
    obtain ⟨δ', rfl, hf'⟩ := k.ext
    refine ⟨δ ++ δ', List.append_assoc .., fun a ha => ?_⟩
    rcases List.mem_append.mp ha with q | q
    · exact hf a q
    · cases e : h.get? a with
      | none => rfl
      | some o =>
        obtain ⟨o', e'⟩ := g.there a o e
        rw [hf' a q] at e'; first | exact Mine.nos e' | exact Mine.ff0 e' | exact Mine.tf0 e' | exact Mine.sn0 e' | cases e'
theorem Go.trans {α α' α'' : List Addr} {s s' s'' : Shared} (g : Go α s α' s') (k : Go α' s' α'' s'') : Go α s α'' s'' := by
  refine ⟨g.toMv.trans k.toMv, ?_⟩
  obtain ⟨h₁, t₁, rfl⟩ := g.same
  obtain ⟨h₂, t₂, e⟩ := k.same
  exact ⟨h₂, t₂, e⟩
theorem Mv.of_keep {α : List Addr} {h h' : Heap} (k : ∀ b o, h.get? b = some o → h'.get? b = some o) : Mv α h α h' :=
  ⟨fun b o e _ => k b o e, fun b o e => ⟨o, k b o e⟩, [], (List.append_nil _).symm, fun _ hm => nomatch hm⟩
theorem Go.heap {α α' : List Addr} {s : Shared} {h' : Heap} {tk : Nat} (g : Mv α s.heap α' h') : Go α s α' { s with heap := h', toks := tk } := ⟨g, ⟨_, _, rfl⟩⟩
theorem Go.toks {α : List Addr} {s : Shared} {tk : Nat} : Go α s α { s with toks := tk } := ⟨Mv.refl _ _, ⟨_, _, rfl⟩⟩

variable {Wd Cl}
section
variable {h : Heap} {α β : List Addr}
/-! one at a time -/
theorem VR.noneE {motive : ∀ v, VR Wd Cl h α β v .none → Prop} (none : motive .none .none) : ∀ {v : Value} (x : VR Wd Cl h α β v .none), motive v x := fun x => by cases x; exact none
theorem VR.boolE {b : Bool} {motive : ∀ v, VR Wd Cl h α β v (.bool b) → Prop} (bool : motive (.bool b) (.bool b)) : ∀ {v : Value} (x : VR Wd Cl h α β v (.bool b)), motive v x := fun x => by cases x; exact bool
theorem VR.intE {i : Int} {motive : ∀ v, VR Wd Cl h α β v (.int i) → Prop} (int : ∀ t : Tok, motive (.int i t) (.int i t)) : ∀ {v : Value} (x : VR Wd Cl h α β v (.int i)), motive v x := fun x => by cases x; apply int
theorem VR.strE {l : List Nat} {motive : ∀ v, VR Wd Cl h α β v (.str l) → Prop} (str : ∀ {x : Str} {t : Tok} (e : cps x = l) (n : l.length ≤ 1000000), motive (.str x t) (.str e n)) : ∀ {v : Value} (x : VR Wd Cl h α β v (.str l)), motive v x := fun x => by cases x; apply str <;> assumption
theorem VR.tupE {ds : List V} {motive : ∀ v, VR Wd Cl h α β v (.tup ds) → Prop} (tup : ∀ {a : Addr} {ob : Obj} {vs : List Value} {n : Nat} (e : h.get? a = some ob) (x : a ∉ α) (y : a ∉ β) (c : ob.cls = .type "tuple") (d : ob.data = .seq vs.toArray n) (r : VRs Wd Cl h α β vs ds), motive (.ref a) (.tup e x y c d r)) :
    ∀ {v : Value} (x : VR Wd Cl h α β v (.tup ds)), motive v x := fun x => by cases x; apply tup <;> assumption
theorem VR.lstE {ds : List V} {motive : ∀ v, VR Wd Cl h α β v (.lst ds) → Prop} (lst : ∀ {a : Addr} {ob : Obj} {vs : List Value} {n : Nat} (e : h.get? a = some ob) (x : a ∉ α) (y : a ∉ β) (c : ob.cls = .type "list") (d : ob.data = .seq vs.toArray n) (r : VRs Wd Cl h α β vs ds), motive (.ref a) (.lst e x y c d r)) :
    ∀ {v : Value} (x : VR Wd Cl h α β v (.lst ds)), motive v x := fun x => by cases x; apply lst <;> assumption
theorem VR.rngE {x y : Int} {motive : ∀ v, VR Wd Cl h α β v (.rng x y) → Prop} (rng : ∀ {a : Addr} {t u v : Tok} (e : IsRange h a x y 1 t u v) (p : a ∉ α) (q : a ∉ β) (c : small x = true) (d : small y = true), motive (.ref a) (.rng e p q c d)) :
    ∀ {v : Value} (x : VR Wd Cl h α β v (.rng x y)), motive v x := fun x => by cases x; apply rng <;> assumption
theorem VR.dctE {ds : List (List Nat × V)} {motive : ∀ v, VR Wd Cl h α β v (.dct ds) → Prop} (dct : ∀ {a : Addr} {es : List DictEntry} {n : Nat} (e : h.get? a = some ⟨.type "dict", Option.none, .dict es.toArray n, #[]⟩) (p : a ∉ α) (q : a ∉ β) (c : (a == sysModules) = false) (d : DR Wd.params es ds), motive (.ref a) (.dct e p q c d)) :
    ∀ {v : Value} (x : VR Wd Cl h α β v (.dct ds)), motive v x := fun x => by cases x; apply dct <;> assumption
theorem VR.refE {i : Nat} {motive : ∀ v, VR Wd Cl h α β v (.ref i) → Prop} (ref : ∀ {a : Addr} (e : α[i]? = some a), motive (.ref a) (.ref e)) : ∀ {v : Value} (x : VR Wd Cl h α β v (.ref i)), motive v x := fun x => by cases x; apply ref <;> assumption
theorem VR.objE {i : Nat} {motive : ∀ v, VR Wd Cl h α β v (.obj i) → Prop} (obj : ∀ {a d : Addr} (e : h.get? a = some (instObj Cl d)) (p : a ∉ α) (q : a ∉ β) (c : α[i]? = some d), motive (.ref a) (.obj e p q c)) : ∀ {v : Value} (x : VR Wd Cl h α β v (.obj i)), motive v x := fun x => by cases x; apply obj <;> assumption
theorem VRs.nilE {motive : ∀ v, VRs Wd Cl h α β v [] → Prop} (nil : motive [] .nil) : ∀ {v : List Value} (x : VRs Wd Cl h α β v []), motive v x := fun x => by cases x; exact nil
theorem VRs.consE {d : V} {ds : List V} {motive : ∀ v, VRs Wd Cl h α β v (d :: ds) → Prop} (cons : ∀ {v : Value} {vs : List Value} (a : VR Wd Cl h α β v d) (b : VRs Wd Cl h α β vs ds), motive (v :: vs) (.cons a b)) : ∀ {v : List Value} (x : VRs Wd Cl h α β v (d :: ds)), motive v x := fun x => by cases x; apply cons <;> assumption
end
/-- a value keeps, when what it rests on does -/
structure Kp (h : Heap) (α β : List Addr) (h' : Heap) (α' β' : List Addr) : Prop where
  k : ∀ b o, h.get? b = some o → b ∉ α → b ∉ β → h'.get? b = some o ∧ b ∉ α' ∧ b ∉ β'
  g : ∀ (i : Nat) a, α[i]? = some a → α'[i]? = some a
theorem VRs.ind {h : Heap} {α β : List Addr} {P : List Value → List V → Prop} (nil : P [] []) (cons : ∀ {v : Value} {d : V} {vs : List Value} {ds : List V}, VR Wd Cl h α β v d → VRs Wd Cl h α β vs ds → P vs ds → P (v :: vs) (d :: ds)) {v : List Value} {d : List V} (x : VRs Wd Cl h α β v d) : P v d := by
  induction d generalizing v with
  | nil => cases x using VRs.nilE; exact nil
  | cons d ds ih => cases x using VRs.consE with | cons a b => exact cons a b (ih b)
theorem VR.kp {h h' : Heap} {α α' β β' : List Addr} (p : Kp h α β h' α' β') {v : Value} {d : V} (x : VR Wd Cl h α β v d) : VR Wd Cl h' α' β' v d :=
  VR.rec (motive_1 := fun v d _ => VR Wd Cl h' α' β' v d) (motive_2 := fun v d _ => VRs Wd Cl h' α' β' v d) .none .bool .int .str
    (fun e a b c d _ r => .tup (p.k _ _ e a b).1 (p.k _ _ e a b).2.1 (p.k _ _ e a b).2.2 c d r)
    (fun e a b c d _ r => .lst (p.k _ _ e a b).1 (p.k _ _ e a b).2.1 (p.k _ _ e a b).2.2 c d r)
    (fun e a b c d => .rng (p.k _ _ e a b).1 (p.k _ _ e a b).2.1 (p.k _ _ e a b).2.2 c d)
    (fun e a b c d => .dct (p.k _ _ e a b).1 (p.k _ _ e a b).2.1 (p.k _ _ e a b).2.2 c d)
    (fun e => .ref (p.g _ _ e)) (fun e a b c => .obj (p.k _ _ e a b).1 (p.k _ _ e a b).2.1 (p.k _ _ e a b).2.2 (p.g _ _ c)) .nil (fun _ _ a b => .cons a b) x
theorem VRs.kp {h h' : Heap} {α α' β β' : List Addr} (p : Kp h α β h' α' β') {v : List Value} {d : List V} (x : VRs Wd Cl h α β v d) : VRs Wd Cl h' α' β' v d := x.ind .nil fun a _ r => .cons (a.kp p) r
theorem Mv.kp {α α' : List Addr} {h h' : Heap} (g : Mv α h α' h') (β : List Addr) : Kp h α β h' α' β := ⟨fun b o e a z => ⟨g.keep b o e a, g.off e a, z⟩, fun _ _ e => g.get e⟩
theorem VR.mv {α α' β : List Addr} {h h' : Heap} (g : Mv α h α' h') {v : Value} {d : V} (x : VR Wd Cl h α β v d) : VR Wd Cl h' α' β v d := x.kp (g.kp β)
theorem VRs.mv {α α' β : List Addr} {h h' : Heap} (g : Mv α h α' h') {v : List Value} {d : List V} (x : VRs Wd Cl h α β v d) : VRs Wd Cl h' α' β v d := x.kp (g.kp β)
theorem VRs.length {α β : List Addr} {h : Heap} {v : List Value} {d : List V} (x : VRs Wd Cl h α β v d) : v.length = d.length := x.ind (P := fun v d => v.length = d.length) rfl fun _ _ r => congrArg Nat.succ r
theorem VRs.append {α β : List Addr} {h : Heap} {v w : List Value} {d e : List V} (x : VRs Wd Cl h α β v d) (y : VRs Wd Cl h α β w e) : VRs Wd Cl h α β (v ++ w) (d ++ e) := x.ind (P := fun v d => VRs Wd Cl h α β (v ++ w) (d ++ e)) y fun a _ r => .cons a r
theorem VRs.get {α β : List Addr} {h : Heap} {v : List Value} {d : List V} (x : VRs Wd Cl h α β v d) : ∀ {i : Nat} {z : V}, d[i]? = some z → ∃ y, v[i]? = some y ∧ VR Wd Cl h α β y z :=
  x.ind (P := fun v d => ∀ {i : Nat} {z : V}, d[i]? = some z → ∃ y, v[i]? = some y ∧ VR Wd Cl h α β y z) (fun e => nos e) fun a _ r i z e => by
    cases i with
    | zero => exact ⟨_, rfl, Option.some.inj e ▸ a⟩
    | succ i => exact r e
theorem VRs.set {α β : List Addr} {h : Heap} {v : List Value} {d : List V} {y : Value} {z : V} (x : VRs Wd Cl h α β v d) (q : VR Wd Cl h α β y z) : ∀ {i : Nat}, VRs Wd Cl h α β (v.set i y) (d.set i z) :=
  x.ind (P := fun v d => ∀ {i : Nat}, VRs Wd Cl h α β (v.set i y) (d.set i z)) .nil fun a b r i => by
    cases i with
    | zero => exact .cons q b
    | succ i => exact .cons a r
theorem VRs.take {α β : List Addr} {h : Heap} {v : List Value} {d : List V} (i : Nat) (x : VRs Wd Cl h α β v d) : VRs Wd Cl h α β (v.take i) (d.take i) :=
  x.ind (P := fun v d => ∀ i, VRs Wd Cl h α β (v.take i) (d.take i)) (fun i => by cases i <;> exact .nil) (fun a b r i => by
    cases i with
    | zero => exact .nil
    | succ i => exact .cons a (r i)) i
theorem VRs.drop {α β : List Addr} {h : Heap} {v : List Value} {d : List V} (i : Nat) (x : VRs Wd Cl h α β v d) : VRs Wd Cl h α β (v.drop i) (d.drop i) :=
  x.ind (P := fun v d => ∀ i, VRs Wd Cl h α β (v.drop i) (d.drop i)) (fun i => by cases i <;> exact .nil) (fun a b r i => by
    cases i with
    | zero => exact .cons a b
    | succ i => exact r i) i
theorem VRs.last {α β : List Addr} {h : Heap} {v : List Value} {d : List V} {z : V} (x : VRs Wd Cl h α β v d) : d.getLast? = some z → ∃ u y, v = u ++ [y] ∧ VR Wd Cl h α β y z ∧ VRs Wd Cl h α β u d.dropLast :=
  x.ind (P := fun v d => d.getLast? = some z → ∃ u y, v = u ++ [y] ∧ VR Wd Cl h α β y z ∧ VRs Wd Cl h α β u d.dropLast) (fun e => nos e) fun {v d vs ds} a b r e => by
    cases ds with
    | nil => cases b using VRs.nilE; exact ⟨[], _, rfl, Option.some.inj e ▸ a, .nil⟩
    | cons d' ds =>
      obtain ⟨u, y, hu, h1, h2⟩ := r e
      exact ⟨_ :: u, y, congrArg _ hu, h1, .cons a h2⟩

/-- an own object -/
inductive OR (Wd : World) (Cl : Addr) (h : Heap) (α β : List Addr) : Obj → AO → Prop
  | list {ob : Obj} {vs : List Value} {n : Nat} {ds : List V} : ob.cls = .type "list" → ob.dict = Option.none → ob.data = .seq vs.toArray n → VRs Wd Cl h α β vs ds → ds.length ≤ 1000001 → OR Wd Cl h α β ob (.list ds)
  | inst {es : List DictEntry} {n : Nat} {fs : List (Str × V)} : (∀ e ∈ es, ∃ x t, e.key = .str x t) → (∀ x d, lk x fs = some d → ∃ v, getL x es = some (some v) ∧ VR Wd Cl h α β v d) → (∀ x, lk x fs = Option.none → getL x es = some Option.none) → es.length ≤ fs.length → OR Wd Cl h α β (dictOf es n) (.inst fs)
theorem OR.kp {h h' : Heap} {α α' β β' : List Addr} (p : Kp h α β h' α' β') {ob : Obj} {o : AO} (x : OR Wd Cl h α β ob o) : OR Wd Cl h' α' β' ob o :=
  OR.rec (motive := fun ob o _ => OR Wd Cl h' α' β' ob o) (fun a z b c d => .list a z b (c.kp p) d) (fun a b c l => .inst a (fun x d e => (b x d e).elim fun v e => ⟨v, e.1, e.2.kp p⟩) c l) x
theorem OR.mv {α α' β : List Addr} {h h' : Heap} (g : Mv α h α' h') {ob : Obj} {o : AO} (x : OR Wd Cl h α β ob o) : OR Wd Cl h' α' β ob o := x.kp (g.kp β)

/-- the own heap, as it lies -/
structure Hl (Wd : World) (Cl : Addr) (h : Heap) (α β : List Addr) (H : Hp) : Prop where
  len : α.length = H.length
  nd : α.Nodup
  at_ : ∀ (i : Nat) (o : AO), H[i]? = some o → ∃ a ob, α[i]? = some a ∧ h.get? a = some ob ∧ OR Wd Cl h α β ob o

theorem Hl.alloc {h : Heap} {α β : List Addr} {H : Hp} (x : Hl Wd Cl h α β H) {a : Addr} (ha : a ∈ α) : ∃ o, h.get? a = some o := by
  obtain ⟨i, hi, rfl⟩ := List.mem_iff_getElem.mp ha
  have hH : i < H.length := x.len ▸ hi
  obtain ⟨a', ob, e1, e2, _⟩ := x.at_ i H[i] (by simp [hH])
  rw [List.getElem?_eq_getElem hi] at e1
  cases e1
  exact ⟨ob, e2⟩
/-- a step that leaves the own objects as they are -/
theorem Hl.mv {h h' : Heap} {α β : List Addr} {H : Hp} (x : Hl Wd Cl h α β H) (k : ∀ b o, h.get? b = some o → h'.get? b = some o) : Hl Wd Cl h' α β H :=
  ⟨x.len, x.nd, fun i o e => let ⟨a, ob, e1, e2, e3⟩ := x.at_ i o e; ⟨a, ob, e1, k _ _ e2, e3.mv (Mv.of_keep k)⟩⟩
end Mine
end
section
open PySem PySem.W PyProof.Rows
namespace Mine

/-- own heap, and the ground below it -/
structure St (Wd : World) (Cl : Addr) (B : Heap) (h : Heap) (α β : List Addr) (H : Hp) : Prop extends Hl Wd Cl h α β H where
  base : ∀ b o, B.get? b = some o → h.get? b = some o ∧ b ∉ α
  out : ∀ a ∈ β, (∃ o, h.get? a = some o) ∧ a ∉ α ∧ B.get? a = none

section
variable {prog : Program} {Wd : World} {Cl : Addr} {B : Heap} {A : Around} {E : Value → Shared → Prop} {s : Shared} {α β : List Addr} {H : Hp} {Q : Value → Shared → Prop}

theorem St.mv {h h' : Heap} (x : St Wd Cl B h α β H) (k : ∀ b o, h.get? b = some o → h'.get? b = some o) : St Wd Cl B h' α β H :=
  ⟨x.toHl.mv k, fun b o e => ⟨k b o (x.base b o e).1, (x.base b o e).2⟩, fun a ha => let ⟨⟨o, e⟩, r⟩ := x.out a ha; ⟨⟨o, k a o e⟩, r⟩⟩
theorem St.offA (x : St Wd Cl B s.heap α β H) : s.heap.objs.size ∉ α := fun hm => by
  obtain ⟨o, e⟩ := x.toHl.alloc hm
  exact Nat.lt_irrefl _ (Heap.lt_size e)
theorem St.offB (x : St Wd Cl B s.heap α β H) : s.heap.objs.size ∉ β := fun hm => by
  obtain ⟨⟨o, e⟩, _⟩ := x.out _ hm
  exact Nat.lt_irrefl _ (Heap.lt_size e)

/-- what a step's end has to bring -/
noncomputable def FinV (Wd : World) (Cl : Addr) (B : Heap) (α β : List Addr) (s : Shared) (H' : Hp) (r : V) (Q : Value → Shared → Prop) : Prop :=
  ∀ v α' s', Go α s α' s' → St Wd Cl B s'.heap α' β H' → VR Wd Cl s'.heap α' β v r → Q v s'

theorem FinV.toks {r : V} (h : FinV Wd Cl B α β s H r Q) (x : St Wd Cl B s.heap α β H) {v : Value} (tk : Nat) (hv : VR Wd Cl s.heap α β v r) : Q v { s with toks := tk } :=
  h v α _ Go.toks x hv
theorem FinV.same {r : V} (h : FinV Wd Cl B α β s H r Q) (x : St Wd Cl B s.heap α β H) {v : Value} (hv : VR Wd Cl s.heap α β v r) : Q v s :=
  h v α _ (Go.refl _ _) x hv
theorem FinV.grow {r : V} (h : FinV Wd Cl B α β s H r Q) (x : St Wd Cl B s.heap α β H) {h' : Heap} (tk : Nat) (k : ∀ b o, s.heap.get? b = some o → h'.get? b = some o) {v : Value} (hv : VR Wd Cl h' α β v r) : Q v { s with heap := h', toks := tk } :=
  h v α _ (Go.heap (Mv.of_keep k)) (x.mv k) hv

theorem small_lt {a : Int} (h : small a = true) : a.natAbs < 2 ^ 64 := Nat.le_of_ble_eq_true h
theorem mulOk_of {a b : Int} (h : (small a || small b) = true) : IntMulOk a b := by
  rcases Bool.or_eq_true_iff.mp h with h | h
  · have := small_lt h
    exact .of_left (intBits_le_64 (by (first | lia | omega)) (by (first | lia | omega)))
  · have := small_lt h
    exact .of_right (intBits_le_64 (by (first | lia | omega)) (by (first | lia | omega)))

noncomputable def AriP (prog : Program) (Wd : World) (A : Around) (Q E : Value → Shared → Prop) (s : Shared) (op : Operator) (a b : Int) (t u : Tok) : Prop := wpAny (model prog Wd) A (binaryOp op (.int a t) (.int b u)) Q E s
theorem arith_ok {op : Operator} {a b r : Int} {t u : Tok} (e : arith op a b = some r) (h : ∀ tk tk', Q (.int r tk) { s with toks := tk' }) :
    wpAny (model prog Wd) A (binaryOp op (.int a t) (.int b u)) Q E s := by
  show AriP prog Wd A Q E s op a b t u
  cases op <;> first | exact nos e | skip
  case Add => exact PyProof.Rows.add_int (Option.some.inj e ▸ h _ _)
  case Sub => exact PyProof.Rows.sub_int (Option.some.inj e ▸ h _ _)
  case Mult => exact ckm e fun q e => PyProof.Rows.mul_int (e ▸ h _ _) (mulOk_of q)
  case FloorDiv =>
    change (match decide (b = 0), Nat.blt b.natAbs.log2 9000 with | false, true => some (a.fdiv b) | _, _ => none) = _ at e
    cases q1 : decide (b = 0) with
    | true => rw [q1] at e; exact nos e
    | false =>
    cases q2 : Nat.blt b.natAbs.log2 9000 with
    | false => rw [q1, q2] at e; exact nos e
    | true =>
    rw [q1, q2] at e
    exact PyProof.Rows.floordiv_int (of_decide_eq_false q1) (Option.some.inj e ▸ h _ _) (.inl (PyProof.noPylong_of_log2 (Nat.le_of_ble_eq_true q2)))
  case Mod =>
    change (match decide (b = 0) with | true => none | false => some (a.fmod b)) = _ at e
    cases q1 : decide (b = 0) with
    | true => rw [q1] at e; exact nos e
    | false => rw [q1] at e; exact PyProof.Rows.mod_int' (of_decide_eq_false q1) (Option.some.inj e ▸ h _ _)
  case Pow =>
    exact ckm e fun q e => by
      have q := Bool.and_eq_true_iff.mp q
      have q1 := Bool.and_eq_true_iff.mp q.1
      exact PyProof.Rows.pow_int_small (of_decide_eq_true q1.2) (of_decide_eq_true q.2) (small_lt q1.1) (e ▸ h _ _)
  case LShift =>
    exact ckm e fun q e => by
      have q := Bool.and_eq_true_iff.mp q
      have q1 := Bool.and_eq_true_iff.mp q.1
      exact PyProof.Rows.lshift_int_small (of_decide_eq_true q1.2) (of_decide_eq_true q.2) (small_lt q1.1) (e ▸ h _ _)
  case RShift => exact ckm e fun q e => PyProof.Rows.rshift_int (of_decide_eq_true q) (e ▸ h _ _)
  case BitAnd => exact PyProof.Rows.and_int (Option.some.inj e ▸ h _ _)
  case BitOr => exact PyProof.Rows.or_int (Option.some.inj e ▸ h _ _)
  case BitXor => exact PyProof.Rows.xor_int (Option.some.inj e ▸ h _ _)

theorem szOk_le {n : Nat} (h : szOk n = true) : n ≤ 1000000 := Nat.le_of_ble_eq_true h
theorem cps_append (x y : Str) : cps (x ++ y) = cps x ++ cps y := by
  show (x.cps ++ y.cps).toList = _
  exact Array.toList_append ..
theorem cps_len (x : Str) : x.length = (cps x).length := by
  show x.cps.size = x.cps.toList.length
  simp

/-- a list among mine, as the machine has it -/
theorem list_at {v : Value} {d : V} {ds : List V} (x : St Wd Cl B s.heap α β H) (hv : VR Wd Cl s.heap α β v d) (e : listOfV H d = some ds) :
    ∃ a vs, v = .ref a ∧ s.heap.IsList a vs.toArray ∧ VRs Wd Cl s.heap α β vs ds := by
  cases d <;> first | exact nos e | skip
  · cases hv using Mine.VR.lstE with
    | lst h1 h2 h3 h4 h5 h6 => exact ⟨_, _, rfl, ⟨_, h1, h4, _, h5⟩, Option.some.inj e ▸ h6⟩
  · cases hv using Mine.VR.refE with
    | ref h1 =>
      obtain ⟨a, ob, e1, e2, e3⟩ := x.at_ _ _ (lists_some (show lists H _ = some ds from e))
      have ea := Option.some.inj (h1.symm.trans e1)
      cases e3 with
      | list c1 _ c2 c3 c4 => exact ⟨_, _, rfl, ⟨_, ea ▸ e2, c1, _, c2⟩, c3⟩
theorem concat_ok {a b : Value} {da db : V} {xs ys : List V} (x : St Wd Cl B s.heap α β H) (ha : VR Wd Cl s.heap α β a da) (hb : VR Wd Cl s.heap α β b db) (h1 : listOfV H da = some xs) (h2 : listOfV H db = some ys) (q : szOk (xs.length + ys.length) = true)
    (h : FinV Wd Cl B α β s H (.lst (xs ++ ys)) Q) : wpAny (model prog Wd) A (binaryOp .Add a b) Q E s := by
  have q' := szOk_le q
  obtain ⟨a', vs, rfl, ⟨⟨cls, dd, data, sl⟩, ho, hc, n, hd⟩, V1⟩ := list_at x ha h1
  obtain ⟨b', ws, rfl, ⟨⟨cls2, dd2, data2, sl2⟩, ho2, hc2, n2, hd2⟩, V2⟩ := list_at x hb h2
  simp only at hc hd hc2 hd2
  subst hc hd hc2 hd2
  have hsz : vs.toArray.size + ws.toArray.size ≤ sizeLine := by
    rw [List.size_toArray, List.size_toArray, V1.length, V2.length, sizeLine_eq]
    exact Nat.le_trans q' (by decide)
  refine concat_meets ⟨_, ho, rfl⟩ ⟨_, ho2, rfl⟩ noFill_list_add seq_list_add PySem.F.slot_list_add PySem.F.entry_list_add (PySem.F.args_list_add_2 _ _) (PyProof.Rows.list_addW a' b' vs.toArray ws.toArray n n2 dd dd2 sl sl2 hsz) ⟨ho, ho2, ?_⟩
  have k : ∀ b o, s.heap.get? b = some o → (s.heap.push { cls := Value.type "list", data := Data.seq (vs.toArray ++ ws.toArray) }).get? b = some o := fun b o e => Heap.get?_push_of_some _ e
  exact h.grow x s.toks k (.lst (Heap.get?_push_size _ rfl) x.offA x.offB rfl (vs := vs ++ ws) (n := 0) (by simp) ((V1.mv (Mv.of_keep k)).append (V2.mv (Mv.of_keep k))))
theorem binL_ok {op : Operator} {a b : Value} {da db r : V} (x : St Wd Cl B s.heap α β H) (ha : VR Wd Cl s.heap α β a da) (hb : VR Wd Cl s.heap α β b db) (e : binL op H da db = some r) (h : FinV Wd Cl B α β s H r Q) : wpAny (model prog Wd) A (binaryOp op a b) Q E s := by
  cases op <;> first | exact nos e | skip
  obtain ⟨xs, h1, e⟩ := Option.bind_eq_some_iff.mp e
  obtain ⟨ys, h2, e⟩ := Option.bind_eq_some_iff.mp e
  exact ckm e fun q e => concat_ok x ha hb h1 h2 q (e ▸ h)
theorem binop_ok {op : Operator} {a b : Value} {da db r : V} (x : St Wd Cl B s.heap α β H) (ha : VR Wd Cl s.heap α β a da) (hb : VR Wd Cl s.heap α β b db) (e : binop op H da db = some r)
    (h : FinV Wd Cl B α β s H r Q) : wpAny (model prog Wd) A (binaryOp op a b) Q E s := by
  cases da
  case int =>
    cases db <;> first | exact binL_ok x ha hb e h | skip
    obtain ⟨r', e, q⟩ := Option.map_eq_some_iff.mp e
    cases ha using VR.intE
    cases hb using VR.intE
    exact arith_ok e fun tk tk' => (q ▸ h).toks x _ (.int _ _)
  case str =>
    cases db <;> first | exact binL_ok x ha hb e h | skip
    · cases op <;> first | exact nos e | skip
      rename_i m
      rename_i l
      change (match decide (m = 0) with | true => some (V.str []) | false => none) = _ at e
      refine ckm e fun q e3 => ?_
      cases ha using Mine.VR.strE with
      | str e1 l1 =>
      cases hb using VR.intE
      have q' := of_decide_eq_true q
      subst q'
      exact SB.mul (n := 0) ⟨by decide, fun c => absurd (by decide : (0 : Int) < 1) c, fun c => absurd (by decide : (0 : Int) < 1) c⟩ fun t' k => (e3 ▸ h).toks x _ (.str rfl (by decide))
    · cases op <;> first | exact nos e | skip
      cases ha using Mine.VR.strE with
      | str e1 l1 =>
      cases hb using Mine.VR.strE with
      | str e2 l2 =>
      refine ckm e fun q e => ?_
      have q' := szOk_le q
      refine PyProof.Rows.add_str (fun t' tk => (e ▸ h).toks x _ (.str ?_ ?_)) ?_
      · rw [cps_len, cps_len, e1, e2, sizeLine_eq]; exact Nat.le_trans q' (by decide)
      · rw [cps_append, e1, e2]
      · rw [List.length_append]; exact q'
  all_goals exact binL_ok x ha hb e h
end
end Mine
end
section
open PySem PySem.W PyProof.Rows
namespace Mine
section
variable {prog : Program} {Wd : World} {Cl : Addr} {B : Heap} {A : Around} {E : Value → Shared → Prop} {s : Shared} {α β γ δ : List Addr} {H : Hp} {Q : Value → Shared → Prop}

theorem frz_none {n : Nat} : frz H n .none = some .none := by cases n <;> rfl
theorem frz_bool {n : Nat} {b : Bool} : frz H n (.bool b) = some (.bool b) := by cases n <;> rfl
theorem frz_int {n : Nat} {b : Int} : frz H n (.int b) = some (.int b) := by cases n <;> rfl
theorem frz_str {n : Nat} {b : List Nat} : frz H n (.str b) = some (.str b) := by cases n <;> rfl
theorem frz_ref {n i : Nat} {d' : V} (e : frz H (n + 1) (.ref i) = some d') : ∃ vs r, H[i]? = some (.list vs) ∧ frzs H n vs = some r ∧ V.lst r = d' := by
  change (match H[i]? with | some (.list vs) => (frzs H n vs).map V.lst | _ => none) = _ at e
  generalize H[i]? = o at e
  cases o with
  | none => exact nos e
  | some o =>
    cases o with
    | inst => exact nos e
    | list vs =>
      obtain ⟨r, e, q⟩ := Option.map_eq_some_iff.mp e
      exact ⟨vs, r, rfl, e, q⟩
noncomputable def FzP (Wd : World) (Cl : Addr) (α β γ δ : List Addr) (H : Hp) (h : Heap) (n : Nat) : Prop := ∀ (d d' : V) (v : Value), VR Wd Cl h α β v d → frz H n d = some d' → VR Wd Cl h γ δ v d'
noncomputable def FzPs (Wd : World) (Cl : Addr) (α β γ δ : List Addr) (H : Hp) (h : Heap) (n : Nat) : Prop := ∀ (d d' : List V) (v : List Value), VRs Wd Cl h α β v d → frzs H n d = some d' → VRs Wd Cl h γ δ v d'
theorem frz_step {h : Heap} (x : Hl Wd Cl h α β H) (hg : ∀ a, a ∈ γ ∨ a ∈ δ → a ∈ β) (ha : ∀ a ∈ α, a ∉ γ ∧ a ∉ δ) {n : Nat} (ih : ∀ m, m + 1 = n → FzPs Wd Cl α β γ δ H h m) : FzP Wd Cl α β γ δ H h n := fun d d' v y e => by
  cases d with
  | none => cases y using VR.noneE; exact Option.some.inj (frz_none.symm.trans e) ▸ .none
  | bool b => cases y using VR.boolE; exact Option.some.inj (frz_bool.symm.trans e) ▸ .bool b
  | int b => cases y using VR.intE; exact Option.some.inj (frz_int.symm.trans e) ▸ .int b _
  | str b => cases y using VR.strE with | str c l => exact Option.some.inj (frz_str.symm.trans e) ▸ .str c l
  | tup ds =>
    cases n with
    | zero => exact nos e
    | succ n =>
      obtain ⟨r, e, q⟩ := Option.map_eq_some_iff.mp e
      cases y using VR.tupE with
      | tup h1 h2 h3 h4 h5 h6 => exact q ▸ .tup h1 (fun z => h3 (hg _ (.inl z))) (fun z => h3 (hg _ (.inr z))) h4 h5 (ih n rfl _ _ _ h6 e)
  | lst ds =>
    cases n with
    | zero => exact nos e
    | succ n =>
      obtain ⟨r, e, q⟩ := Option.map_eq_some_iff.mp e
      cases y using VR.lstE with
      | lst h1 h2 h3 h4 h5 h6 => exact q ▸ .lst h1 (fun z => h3 (hg _ (.inl z))) (fun z => h3 (hg _ (.inr z))) h4 h5 (ih n rfl _ _ _ h6 e)
  | ref i =>
    cases n with
    | zero => exact nos e
    | succ n =>
      obtain ⟨vs, r, q, e, q2⟩ := frz_ref e
      obtain ⟨a, ob, e1, e2, e3⟩ := x.at_ _ _ q
      cases y using VR.refE with
      | ref h1 =>
        cases h1.symm.trans e1
        have hm := ha _ (List.mem_of_getElem? h1)
        cases e3 with
        | list c1 _ c2 c3 c4 => exact q2 ▸ .lst e2 hm.1 hm.2 c1 c2 (ih n rfl _ _ _ c3 e)
  | rng => cases n <;> exact nos e
  | dct => cases n <;> exact nos e
  | obj => cases n <;> exact nos e
theorem frzs_step {h : Heap} {n : Nat} (i1 : ∀ m, m + 1 = n → FzP Wd Cl α β γ δ H h m) (i2 : ∀ m, m + 1 = n → FzPs Wd Cl α β γ δ H h m) : FzPs Wd Cl α β γ δ H h n := fun d d' v y e => by
  cases d with
  | nil => cases y using VRs.nilE; exact Option.some.inj (Eq.trans (by cases n <;> rfl) e : some [] = some d') ▸ .nil
  | cons d ds =>
    cases n with
    | zero => exact nos e
    | succ n =>
      change (match frz H n d with | some d => (frzs H n ds).map (d :: ·) | none => none) = _ at e
      cases q : frz H n d with
      | none => rw [q] at e; exact nos e
      | some w =>
        rw [q] at e
        obtain ⟨r, e, q2⟩ := Option.map_eq_some_iff.mp e
        cases y using VRs.consE with
        | cons a b => exact q2 ▸ .cons (i1 n rfl _ _ _ a q) (i2 n rfl _ _ _ b e)
theorem frz_all {h : Heap} (x : Hl Wd Cl h α β H) (hg : ∀ a, a ∈ γ ∨ a ∈ δ → a ∈ β) (ha : ∀ a ∈ α, a ∉ γ ∧ a ∉ δ) (n : Nat) : FzP Wd Cl α β γ δ H h n ∧ FzPs Wd Cl α β γ δ H h n := by
  induction n with
  | zero => exact ⟨frz_step x hg ha fun m e => absurd e (Nat.succ_ne_zero m), frzs_step (fun m e => absurd e (Nat.succ_ne_zero m)) fun m e => absurd e (Nat.succ_ne_zero m)⟩
  | succ n ih => exact ⟨frz_step x hg ha fun m e => Nat.succ.inj e ▸ ih.2, frzs_step (fun m e => Nat.succ.inj e ▸ ih.1) fun m e => Nat.succ.inj e ▸ ih.2⟩
theorem frz_ok {h : Heap} (x : Hl Wd Cl h α β H) (hg : ∀ a, a ∈ γ ∨ a ∈ δ → a ∈ β) (ha : ∀ a ∈ α, a ∉ γ ∧ a ∉ δ) (n : Nat) (d d' : V) (v : Value) (y : VR Wd Cl h α β v d) (e : frz H n d = some d') : VR Wd Cl h γ δ v d' := (frz_all x hg ha n).1 d d' v y e

noncomputable def RdP (h : Heap) (v : Value) (d : V) : Prop := ∀ p, vdata d = some p → ∃ as, Reads h v p as
noncomputable def RdPs (h : Heap) (v : List Value) (d : List V) : Prop := ∀ p, vdatas d = some p → ∃ as, ReadsAll h v p as
theorem data_ok {h : Heap} {d : V} {v : Value} (x : VR Wd Cl h α β v d) : RdP h v d := by
  refine VR.rec (motive_1 := fun v d _ => RdP h v d) (motive_2 := fun v d _ => RdPs h v d) ?_ ?_ ?_ ?_ ?_ ?_ ?_ ?_ ?_ ?_ ?_ ?_ x
  · exact fun p e => ⟨_, Option.some.inj e ▸ Reads.none⟩
  · exact fun b p e => ⟨_, Option.some.inj e ▸ Reads.bool b⟩
  · exact fun b t p e => ⟨_, Option.some.inj e ▸ Reads.int b t⟩
  · intro x t l c _ p e
    have : x = ⟨l.toArray⟩ := cps_inj (by rw [c]; rfl)
    subst this
    exact ⟨_, Option.some.inj e ▸ Reads.str _ _⟩
  · intro a ob vs n ds h1 _ _ h4 h5 _ ih p e
    obtain ⟨r, e, q⟩ := Option.map_eq_some_iff.mp e
    obtain ⟨as, z⟩ := ih r e
    exact ⟨_, q ▸ Reads.tuple h1 h4 h5 (by simpa using z)⟩
  · intro a ob vs n ds h1 _ _ h4 h5 _ ih p e
    obtain ⟨r, e, q⟩ := Option.map_eq_some_iff.mp e
    obtain ⟨as, z⟩ := ih r e
    exact ⟨_, q ▸ Reads.list h1 h4 h5 (by simpa using z)⟩
  · exact fun _ _ _ _ _ p e => nos e
  · exact fun _ _ _ _ _ p e => nos e
  · exact fun _ p e => nos e
  · exact fun _ _ _ _ p e => nos e
  · exact fun p e => ⟨_, Option.some.inj e ▸ ReadsAll.nil⟩
  · intro v vs d ds _ _ i1 i2 p e
    change (match vdata d with | some d => (vdatas ds).map (d :: ·) | none => none) = _ at e
    cases q : vdata d with
    | none => rw [q] at e; exact nos e
    | some w =>
      rw [q] at e
      obtain ⟨r, e, q2⟩ := Option.map_eq_some_iff.mp e
      obtain ⟨as, h1⟩ := i1 w q
      obtain ⟨bs, h2⟩ := i2 r e
      exact ⟨_, q2 ▸ ReadsAll.cons h1 h2⟩

/-- room for frames, k deep -/
structure Rm (A : Around) (k : Nat) : Prop where
  hd : A.handled = none
  depth : A.depth + 2 * k < recursionLimit
  units : A.units + 8 * k + 200 < cLine

theorem leq_beq {x y : Str} {l m : List Nat} (h1 : cps x = l) (h2 : cps y = m) : leq l m = (x == y) := by
  subst h1 h2
  rw [Bool.eq_iff_iff, leq_iff, beq_iff_eq]
  exact ⟨cps_inj, fun h => h ▸ rfl⟩
theorem llt_iff : ∀ {x y : List Nat}, llt x y = decide (x < y)
  | [], [] => by simp [llt_0]
  | [], _ :: _ => by simp [llt_1]
  | _ :: _, [] => by simp [llt_3]
  | a :: x, b :: y => by
    rw [llt_2]
    rcases Nat.lt_trichotomy a b with h | h | h
    · have : Nat.blt a b = true := Nat.ble_eq_true_of_le h
      rw [this]
      simp [List.cons_lt_cons_iff, h]
    · subst h
      have h1 : Nat.blt a a = false := by
        cases q : Nat.blt a a with
        | false => rfl
        | true => exact absurd (Nat.le_of_ble_eq_true q) (Nat.lt_irrefl a)
      rw [h1, beq_self_eq_true a]
      simp [llt_iff (x := x) (y := y)]
    · have h1 : Nat.blt a b = false := by
        cases q : Nat.blt a b with
        | false => rfl
        | true =>
          have := Nat.le_of_ble_eq_true q
          (first | lia | omega)
      have h2 : (a == b) = false := by
        cases q : (a == b) with
        | false => rfl
        | true => have := eq_of_beq q; (first | lia | omega)
      rw [h1, h2]
      simp [List.cons_lt_cons_iff]
      (first | lia | omega)

noncomputable def EqP (prog : Program) (Wd : World) (A : Around) (Q E : Value → Shared → Prop) (s : Shared) (a b : Value) (r : Bool) : Prop :=
  (Q (.bool r) s → wpAny (model prog Wd) A (compareOp .Eq a b) Q E s) ∧ (Q (.bool (!r)) s → wpAny (model prog Wd) A (compareOp .NotEq a b) Q E s)
theorem eqG_ok {k : Nat} (R : Rm A k) {a b : Value} {da db : V} {r : Bool} (x : St Wd Cl B s.heap α β H) (ha : VR Wd Cl s.heap α β a da) (hb : VR Wd Cl s.heap α β b db) (e : eqG H da db = some r) : EqP prog Wd A Q E s a b r := by
  unfold eqG at e
  cases h1 : (frz H 64 da).bind vdata with
  | none => rw [h1] at e; exact nos e
  | some p1 =>
  cases h2 : (frz H 64 db).bind vdata with
  | none => rw [h1, h2] at e; exact nos e
  | some p2 =>
  rw [h1, h2] at e
  cases q : shapedOk p1 && shapedOk p2 with
  | false => dsimp only at e; rw [q] at e; exact nos e
  | true =>
  dsimp only at e
  rw [q] at e
  obtain ⟨q1, q2⟩ := Bool.and_eq_true_iff.mp q
  obtain ⟨f1, g1, k1⟩ := Option.bind_eq_some_iff.mp h1
  obtain ⟨f2, g2, k2⟩ := Option.bind_eq_some_iff.mp h2
  have z1 := frz_ok (γ := []) (δ := []) x.toHl (fun a h => h.elim nofun nofun) (fun a h => ⟨nofun, nofun⟩) 64 _ _ _ ha g1
  have z2 := frz_ok (γ := []) (δ := []) x.toHl (fun a h => h.elim nofun nofun) (fun a h => ⟨nofun, nofun⟩) 64 _ _ _ hb g2
  obtain ⟨as, r1⟩ := data_ok z1 _ k1
  obtain ⟨bs, r2⟩ := data_ok z2 _ k2
  have hu : A.units + 64 < cLine := by have := R.units; (first | lia | omega)
  exact Option.some.inj e ▸ ⟨fun h => PyProof.Rows.eq_dataH r1 r2 q1 q2 hu h, fun h => PyProof.Rows.ne_dataH r1 r2 q1 q2 hu h⟩
theorem eqV_ok {k : Nat} (R : Rm A k) {a b : Value} {da db : V} {r : Bool} (x : St Wd Cl B s.heap α β H) (ha : VR Wd Cl s.heap α β a da) (hb : VR Wd Cl s.heap α β b db) (e : eqV H da db = some r) : EqP prog Wd A Q E s a b r := by
  cases da
  case bool => cases db <;> exact eqG_ok R x ha hb e
  case str =>
    cases db <;> first | exact eqG_ok R x ha hb e | skip
    cases ha using Mine.VR.strE with
    | str e1 l1 => cases hb using Mine.VR.strE with
      | str e2 l2 =>
        rw [← Option.some.inj e, leq_beq e1 e2]
        exact ⟨fun h => PyProof.Rows.eq_str h, fun h => PyProof.Rows.ne_str h⟩
  case int => cases db <;> exact eqG_ok R x ha hb e
  all_goals exact eqG_ok R x ha hb e
end
end Mine
end
section
open PySem PySem.W PyProof.Rows
namespace Mine
section
variable {prog : Program} {Wd : World} {Cl : Addr} {B : Heap} {A : Around} {E : Value → Shared → Prop} {s : Shared} {α β γ δ : List Addr} {H : Hp} {Q : Value → Shared → Prop}

theorem one_eq {l : List Nat} {c : Nat} (h : one l = some c) : l = [c] := by
  unfold one at h
  split at h
  · cases h; rfl
  · first | exact Mine.nos h | exact Mine.ff0 h | exact Mine.tf0 h | exact Mine.sn0 h | cases h
theorem str_of {x : Str} {l : List Nat} (h : cps x = l) : x = ⟨l.toArray⟩ := cps_inj (by rw [h]; rfl)
theorem memN_eq (c : Nat) : ∀ l : List Nat, memN c l = decide (c ∈ l)
  | [] => by simp [memN_0]
  | x :: r => by
    rw [memN_1]
    cases h : (c == x) with
    | true =>
      have := eq_of_beq h
      simp [this]
    | false =>
      have := ne_of_beq_false h
      simp [memN_eq c r, this]

theorem strs_are {h : Heap} {ds : List V} : ∀ {vs : List Value} {xs : List (List Nat)}, VRs Wd Cl h α β vs ds → strsOf ds = some xs → ∃ ys, StrsAre vs ys ∧ ys.map cps = xs := by
  induction ds with
  | nil => intro vs xs v e; cases v using VRs.nilE; exact ⟨[], .nil, Option.some.inj e⟩
  | cons d ds ih =>
    intro vs xs v e
    cases d <;> first | exact nos e | skip
    obtain ⟨r, e, q⟩ := Option.map_eq_some_iff.mp e
    cases v using VRs.consE with
    | cons a b =>
      obtain ⟨ys, h1, h2⟩ := ih b e
      cases a using Mine.VR.strE with
      | str c _ => exact ⟨_ :: ys, .cons _ _ h1, by rw [List.map_cons, h2, c, q]⟩
theorem ints_are {h : Heap} {ds : List V} : ∀ {vs : List Value} {xs : List Int}, VRs Wd Cl h α β vs ds → intsOf ds = some xs → IntsAre vs xs := by
  induction ds with
  | nil => intro vs xs v e; cases v using VRs.nilE; exact Option.some.inj e ▸ .nil
  | cons d ds ih =>
    intro vs xs v e
    cases d <;> first | exact nos e | skip
    obtain ⟨r, e, q⟩ := Option.map_eq_some_iff.mp e
    cases v using VRs.consE with
    | cons a b =>
      cases a using Mine.VR.intE
      exact q ▸ .cons _ _ (ih b e)
theorem memS_eq {h : Heap} {k : Str} {ds : List V} : ∀ {vs : List Value} {ys : List Str} {r : Bool}, VRs Wd Cl h α β vs ds → StrsAre vs ys → memS (cps k) ds = some r → ys.any (· == k) = r := by
  induction ds with
  | nil =>
    intro vs ys r hv hs e
    cases hv using VRs.nilE
    cases hs
    exact Option.some.inj e
  | cons d ds ih =>
    intro vs ys r hv hs e
    cases hv using Mine.VRs.consE with
    | cons a b =>
    cases hs with
    | cons y t q =>
    cases a with
    | str c _ =>
      subst c
      change (match leq (cps k) (cps y) with | true => some true | false => memS (cps k) ds) = _ at e
      rw [List.any_cons, show (y == k) = leq (cps k) (cps y) from by rw [leq_beq rfl rfl]; exact Bool.beq_comm]
      cases hq : leq (cps k) (cps y) with
      | true => rw [hq] at e; exact Option.some.inj e
      | false => rw [hq] at e; exact ih b q e
theorem memI_eq {k : Int} {ds : List V} : ∀ {xs : List Int} {r : Bool}, intsOf ds = some xs → memI k ds = some r → xs.any (· == k) = r := by
  induction ds with
  | nil => intro xs r h e; exact Option.some.inj h ▸ Option.some.inj e
  | cons d ds ih =>
    intro xs r h e
    cases d <;> first | exact nos h | skip
    rename_i l
    obtain ⟨xs, h, q⟩ := Option.map_eq_some_iff.mp h
    change (match decide (k = l) with | true => some true | false => memI k ds) = _ at e
    rw [← q, List.any_cons, show (l == k) = decide (k = l) from Bool.beq_comm]
    cases hq : decide (k = l) with
    | true => rw [hq] at e; exact Option.some.inj e
    | false => rw [hq] at e; exact ih h e

theorem dr_find {x : Str} {es : List DictEntry} {ds : List (List Nat × V)} (D : DR Wd.params es ds) :
    (∀ d, dlk (cps x) ds = some d → ∃ v, es.find? (fun e => Value.isStrOf x e.key) = some v ∧ FlatR v.val d) ∧ (dlk (cps x) ds = none → es.find? (fun e => Value.isStrOf x e.key) = none) := by
  induction D with
  | nil => exact ⟨fun d e => nos e, fun _ => rfl⟩
  | @cons hh y t v k d es ds h1 h2 h3 h4 ih =>
    have hk : Value.isStrOf x (.str y t) = (leq (cps x) k) := by
      rw [leq_beq rfl h1]
      show (y == x) = (x == y)
      exact Bool.beq_comm
    change (∀ d', (match leq (cps x) k with | true => some d | false => dlk (cps x) ds) = some d' → _) ∧ ((match leq (cps x) k with | true => some d | false => dlk (cps x) ds) = none → _)
    rw [List.find?_cons, hk]
    cases leq (cps x) k with
    | true => exact ⟨fun d e => ⟨_, rfl, Option.some.inj e ▸ h3⟩, fun e => sn0 e⟩
    | false => exact ih
theorem dr_keys {es : List DictEntry} {ds : List (List Nat × V)} (D : DR Wd.params es ds) : KeysLit Wd.params es := by
  induction D with
  | nil => trivial
  | cons _ h2 _ _ ih => exact ⟨⟨_, _, rfl, h2⟩, ih⟩
theorem dct_map {h : Heap} {a : Addr} {es : List DictEntry} {n : Nat} {ds : List (List Nat × V)} (e : h.get? a = some ⟨.type "dict", none, .dict es.toArray n, #[]⟩) (D : DR Wd.params es ds) :
    h.MapOf (strKind prog Wd) a (fun k => findBy Value.isStrOf es.toArray k) :=
  ⟨_, es.toArray, n, e, ⟨rfl, rfl, rfl⟩, rfl, fun q hq => by
    obtain ⟨x, t, e1, e2⟩ := (dr_keys D).all q (Array.mem_toList_iff.mpr hq)
    exact ⟨x, by rw [e1]; exact strKind_is prog Wd x t, e2⟩, fun _ => rfl⟩

noncomputable def InP (prog : Program) (Wd : World) (A : Around) (Q E : Value → Shared → Prop) (s : Shared) (a b : Value) (r : Bool) : Prop :=
  ((∀ tk, Q (.bool r) { s with toks := tk }) → wpAny (model prog Wd) A (compareOp .In a b) Q E s) ∧ ((∀ tk, Q (.bool (!r)) { s with toks := tk }) → wpAny (model prog Wd) A (compareOp .NotIn a b) Q E s)
theorem in_ss {xa xb : Str} {ta tb : Tok} {c : Nat} (e1 : cps xa = [c]) : InP prog Wd A Q E s (.str xa ta) (.str xb tb) (memN c (cps xb)) := by
  have hx := str_of e1
  subst hx
  have q : (!(Builtin.Str.occurrences xb ⟨#[c]⟩ 0 xb.length 1).isEmpty) = memN c (cps xb) := by
    rw [StrLaws.found_one, memN_eq]
    rfl
  rw [← q]
  exact ⟨fun h => PyProof.Rows.in_str (h s.toks), fun h => PyProof.Rows.notIn_str (h s.toks)⟩
theorem in_sd {xa : Str} {ta : Tok} {aa : Addr} {es : List DictEntry} {n : Nat} {ds : List (List Nat × V)} (h1 : s.heap.get? aa = some ⟨.type "dict", none, .dict es.toArray n, #[]⟩) (h4 : (aa == sysModules) = false) (h5 : DR Wd.params es ds) : InP prog Wd A Q E s (.str xa ta) (.ref aa) (dlk (cps xa) ds).isSome := by
  have hm := dct_map (prog := prog) h1 h5
  have q : (findBy Value.isStrOf es.toArray xa).isSome = (dlk (cps xa) ds).isSome := by
    have f := dr_find (x := xa) h5
    unfold findBy
    rw [List.find?_toArray]
    cases hd : dlk (cps xa) ds with
    | none => rw [f.2 hd]; rfl
    | some d => obtain ⟨v, h6, _⟩ := f.1 d hd; rw [h6]; rfl
  rw [← q]
  exact ⟨fun h => wpAny_in_of (strKind_is prog Wd xa ta) h4 hm (h _), fun h => wpAny_notIn_of (strKind_is prog Wd xa ta) h4 hm (h _)⟩
theorem inV_ok {a b : Value} {da db : V} {r : Bool} (x : St Wd Cl B s.heap α β H) (ha : VR Wd Cl s.heap α β a da) (hb : VR Wd Cl s.heap α β b db) (e : inV H da db = some r) : InP prog Wd A Q E s a b r := by
  cases da <;> first | exact nos e | skip
  · cases db <;> first | exact nos e | skip
    rename_i k vs
    change (match intsOf vs with | some _ => memI k vs | none => none) = _ at e
    cases q : intsOf vs with
    | none => rw [q] at e; exact nos e
    | some xs =>
    rw [q] at e
    cases ha using VR.intE
    cases hb using VR.tupE with
    | tup h1 h2 h3 h4 h5 h6 =>
    rw [← memI_eq q e]
    exact ⟨fun h => PyProof.Rows.in_tuple_ints ⟨_, h1, h4, _, h5⟩ (ints_are h6 q) (h s.toks), fun h => PyProof.Rows.notin_tuple_ints ⟨_, h1, h4, _, h5⟩ (ints_are h6 q) (h s.toks)⟩
  · cases ha using Mine.VR.strE with
    | str e1 l1 =>
    cases db <;> first | exact nos e | skip
    · obtain ⟨c, h1, q⟩ := Option.map_eq_some_iff.mp e
      cases hb using Mine.VR.strE with
      | str e2 l2 =>
      rw [← q, ← e2]
      exact in_ss (by rw [e1]; exact one_eq h1)
    · rename_i vs
      change (match strsOf vs with | some _ => memS _ vs | none => none) = _ at e
      cases q : strsOf vs with
      | none => rw [q] at e; exact nos e
      | some xs =>
      rw [q] at e
      cases hb using VR.lstE with
      | lst h1 h2 h3 h4 h5 h6 =>
      obtain ⟨ys, hs, _⟩ := strs_are h6 q
      subst e1
      rw [← memS_eq h6 hs e]
      exact ⟨fun h => PyProof.Rows.in_list_strs ⟨_, h1, h4, _, h5⟩ hs (h s.toks), fun h => PyProof.Rows.notin_list_strs ⟨_, h1, h4, _, h5⟩ hs (h s.toks)⟩
    · cases hb using Mine.VR.dctE with
      | dct h1 h2 h3 h4 h5 =>
      rw [← Option.some.inj e, ← e1]
      exact in_sd h1 h4 h5

theorem isN_ok {h : Heap} {v : Value} {d : V} {r : Bool} (hv : VR Wd Cl h α β v d) (e : isNone d = some r) : (v == Value.none) = r := by
  cases d <;> first | exact nos e | skip
  · cases hv using VR.noneE; exact Option.some.inj e
  · cases hv using VR.boolE; exact Option.some.inj e
  · cases hv using VR.intE; exact Option.some.inj e
  · cases hv using VR.strE; exact Option.some.inj e
  · cases hv using VR.tupE; exact Option.some.inj e
  · cases hv using VR.lstE; exact Option.some.inj e
  · cases hv using VR.refE; exact Option.some.inj e
  · cases hv using VR.objE; exact Option.some.inj e
theorem isOf_ok {h : Heap} {v w : Value} {d d' : V} {r : Bool} (hv : VR Wd Cl h α β v d) (hw : VR Wd Cl h α β w d') (e : isOf d d' = some r) : w = .none ∧ (v == Value.none) = r := by
  cases d' <;> first | exact nos e | skip
  cases hw using VR.noneE
  exact ⟨rfl, isN_ok hv e⟩
theorem icmp_ok {h : Heap} {p : Int → Int → Bool} {v w : Value} {d d' : V} {r : Bool} (hv : VR Wd Cl h α β v d) (hw : VR Wd Cl h α β w d') (e : icmp p d d' = some r) : ∃ i j t u, v = .int i t ∧ w = .int j u ∧ p i j = r := by
  cases d <;> first | exact nos e | skip
  cases d' <;> first | exact nos e | skip
  cases hv using VR.intE
  cases hw using VR.intE
  exact ⟨_, _, _, _, rfl, rfl, Option.some.inj e⟩
noncomputable def CmpP (prog : Program) (Wd : World) (A : Around) (Q E : Value → Shared → Prop) (s : Shared) (op : CmpOp) (a b : Value) : Prop := wpAny (model prog Wd) A (compareOp op a b) Q E s
theorem cmpop_ok {k : Nat} (R : Rm A k) {op : CmpOp} {a b : Value} {da db : V} {r : Bool} (x : St Wd Cl B s.heap α β H) (ha : VR Wd Cl s.heap α β a da) (hb : VR Wd Cl s.heap α β b db) (e : cmpop op H da db = some r)
    (h : ∀ tk, Q (.bool r) { s with toks := tk }) : wpAny (model prog Wd) A (compareOp op a b) Q E s := by
  show CmpP prog Wd A Q E s op a b
  cases op with
  | Eq => exact (eqV_ok R x ha hb e).1 (h s.toks)
  | NotEq =>
    obtain ⟨r', e, q⟩ := Option.map_eq_some_iff.mp e
    exact (eqV_ok R x ha hb e).2 (q ▸ h s.toks)
  | Lt =>
    obtain ⟨i, j, t, u, rfl, rfl, q⟩ := icmp_ok ha hb e
    exact PyProof.Rows.lt_int (q ▸ h s.toks)
  | LtE =>
    change scmp da db = _ at e
    have h := h s.toks
    cases da
    case str =>
      cases db <;> first | exact nos e | skip
      cases ha using Mine.VR.strE with
      | str e1 l1 => cases hb using Mine.VR.strE with
        | str e2 l2 =>
          rw [← Option.some.inj e, ← e1, ← e2, llt_iff] at h
          exact P.le_str h
    case int =>
      obtain ⟨i, j, t, u, rfl, rfl, q⟩ := icmp_ok (p := fun x y => decide (x ≤ y)) ha hb e
      exact PyProof.Rows.le_int (q ▸ h)
    all_goals exact nos e
  | Gt =>
    obtain ⟨i, j, t, u, rfl, rfl, q⟩ := icmp_ok ha hb e
    exact PyProof.Rows.gt_int (q ▸ h s.toks)
  | GtE =>
    obtain ⟨i, j, t, u, rfl, rfl, q⟩ := icmp_ok ha hb e
    exact PyProof.Rows.ge_int (q ▸ h s.toks)
  | Is =>
    obtain ⟨rfl, q⟩ := isOf_ok ha hb e
    exact PyProof.Rows.is_none_gen (q ▸ h s.toks)
  | IsNot =>
    obtain ⟨r', e, q2⟩ := Option.map_eq_some_iff.mp e
    obtain ⟨rfl, q⟩ := isOf_ok ha hb e
    exact PyProof.Rows.isnot_none_gen (q ▸ q2 ▸ h s.toks)
  | In => exact (inV_ok x ha hb e).1 h
  | NotIn =>
    obtain ⟨r', e, q⟩ := Option.map_eq_some_iff.mp e
    exact (inV_ok x ha hb e).2 (q ▸ h)
end
end Mine
end
section
open PySem PySem.W PyProof.Rows
namespace Mine
section
variable {prog : Program} {Wd : World} {Cl : Addr} {B : Heap} {A : Around} {E : Value → Shared → Prop} {s : Shared} {α β γ δ : List Addr} {H : Hp} {Q : Value → Shared → Prop}

theorem sub_form (slice : Expr) (o i : Value) : ∃ ops, subscripted slice false o i = operate ops (getItem o i) := by
  unfold subscripted
  split
  · exact ⟨_, rfl⟩
  · rename_i h; cases h
  · exact ⟨_, rfl⟩

theorem nth_get {vs : List V} {i : Int} {r : V} (e : nth vs i = some r) : 0 ≤ i ∧ i < 1000000 ∧ vs[i.toNat]? = some r := by
  unfold nth at e
  split at e
  · rename_i h1 h2; exact ⟨of_decide_eq_true h1, of_decide_eq_true h2, e⟩
  · first | exact Mine.nos e | exact Mine.ff0 e | exact Mine.tf0 e | exact Mine.sn0 e | cases e

theorem str_get {l : List Nat} {i : Int} {r : V} (e : (match decide (0 ≤ i), decide (i < 1000000) with
    | true, true => (l[i.toNat]?).map fun c => V.str [c]
    | _, _ => none) = some r) : 0 ≤ i ∧ i < 1000000 ∧ ∃ c, l[i.toNat]? = some c ∧ r = .str [c] := by
  split at e
  · rename_i h1 h2
    rw [Option.map_eq_some_iff] at e
    obtain ⟨c, hc, rfl⟩ := e
    exact ⟨of_decide_eq_true h1, of_decide_eq_true h2, c, hc, rfl⟩
  · first | exact Mine.nos e | exact Mine.ff0 e | exact Mine.tf0 e | exact Mine.sn0 e | cases e
theorem sub_ok {value slice : Expr} {a b : Value} {da db r : V} (x : St Wd Cl B s.heap α β H) (ha : VR Wd Cl s.heap α β a da) (hb : VR Wd Cl s.heap α β b db) (e : sub H da db = some r)
    (h : FinV Wd Cl B α β s H r Q) : wpAny (model prog Wd) A (subscriptTail value slice a b) Q E s := by
  unfold sub at e
  obtain ⟨ops, hs⟩ := sub_form slice a b
  split at e
  · cases ha using Mine.VR.strE with
    | str e1 l1 =>
      first | cases hb using Mine.VR.intE | cases hb using Mine.VR.strE | cases hb using Mine.VR.boolE | cases hb using Mine.VR.noneE | cases hb using Mine.VR.lstE | cases hb using Mine.VR.tupE | cases hb using Mine.VR.refE | cases hb using Mine.VR.objE | cases hb using Mine.VR.dctE | cases hb using Mine.VR.rngE | cases hb using Mine.VRs.nilE | cases hb using Mine.VRs.consE | cases hb
      rename_i i xa ta u
      obtain ⟨h1, h2, c, hc, rfl⟩ := str_get e
      subst e1
      have hlt : i.toNat < (cps xa).length := (List.getElem?_eq_some_iff.mp hc).1
      refine tail_any (typeIs_str s xa ta) PySem.F.slot_str_getitem.lookup (PyProof.Rows.getItem_str (c := c) ?_ ?_ (h.toks x _ (.str rfl (by simp)))) hs
      · rw [Bool.or_eq_false_iff]; exact ⟨decide_eq_false (by (first | lia | omega)), decide_eq_false (by (first | lia | omega))⟩
      · rw [seqIndex_of h1 (by rw [cps_len]; (first | lia | omega))]
        show xa.cps[i.toNat]? = some c
        rw [← hc]; simp [cps]
  · cases ha using Mine.VR.tupE with
    | tup q1 q2 q3 q4 q5 q6 =>
      first | cases hb using Mine.VR.intE | cases hb using Mine.VR.strE | cases hb using Mine.VR.boolE | cases hb using Mine.VR.noneE | cases hb using Mine.VR.lstE | cases hb using Mine.VR.tupE | cases hb using Mine.VR.refE | cases hb using Mine.VR.objE | cases hb using Mine.VR.dctE | cases hb using Mine.VR.rngE | cases hb using Mine.VRs.nilE | cases hb using Mine.VRs.consE | cases hb
      obtain ⟨h1, h2, h3⟩ := nth_get e
      obtain ⟨v, h4, h5⟩ := q6.get h3
      have hT : IsTup s.heap _ _ := ⟨_, q1, q4, _, q5⟩
      have hl := (List.getElem?_eq_some_iff.mp h4).1
      exact tail_any hT.typeIs slot_tuple_getitem.lookup (getItem_tuple hT (by (first | lia | omega)) (by (first | lia | omega)) (seqIndex_of h1 (by simp; (first | lia | omega))) (by simpa using h4) (h.same x h5)) hs
  · cases ha using Mine.VR.lstE with
    | lst q1 q2 q3 q4 q5 q6 =>
      first | cases hb using Mine.VR.intE | cases hb using Mine.VR.strE | cases hb using Mine.VR.boolE | cases hb using Mine.VR.noneE | cases hb using Mine.VR.lstE | cases hb using Mine.VR.tupE | cases hb using Mine.VR.refE | cases hb using Mine.VR.objE | cases hb using Mine.VR.dctE | cases hb using Mine.VR.rngE | cases hb using Mine.VRs.nilE | cases hb using Mine.VRs.consE | cases hb
      obtain ⟨h1, h2, h3⟩ := nth_get e
      obtain ⟨v, h4, h5⟩ := q6.get h3
      have hT : s.heap.IsList _ _ := ⟨_, q1, q4, _, q5⟩
      exact tail_any hT.typeIs slot_list_getitem.lookup (wpAny_getItem_list hT h1 (by (first | lia | omega)) (by simpa using h4) (h.same x h5)) hs
  · rename_i j i
    split at e
    · rename_i vs q
      cases ha using Mine.VR.refE with
      | ref g1 =>
        first | cases hb using Mine.VR.intE | cases hb using Mine.VR.strE | cases hb using Mine.VR.boolE | cases hb using Mine.VR.noneE | cases hb using Mine.VR.lstE | cases hb using Mine.VR.tupE | cases hb using Mine.VR.refE | cases hb using Mine.VR.objE | cases hb using Mine.VR.dctE | cases hb using Mine.VR.rngE | cases hb using Mine.VRs.nilE | cases hb using Mine.VRs.consE | cases hb
        obtain ⟨a', ob, e1, e2, e3⟩ := x.at_ _ _ q
        cases g1.symm.trans e1
        cases e3 with
        | list c1 _ c2 c3 c4 =>
          have hT : s.heap.IsList _ _ := ⟨_, e2, c1, _, c2⟩
          split at e
          · rename_i hm
            have hm := of_decide_eq_true hm
            subst hm
            obtain ⟨u, y, hu, h5, _⟩ := c3.last e
            subst hu
            exact tail_any hT.typeIs slot_list_getitem.lookup (wpAny_getItem_list_neg hT (by decide) (by simp; (first | lia | omega)) (by decide) (by
              have : ((-1 : Int) + ((u ++ [y]).toArray.size : Nat)).toNat = u.length := by simp; (first | lia | omega)
              rw [this]; simp) (h.same x h5)) hs
          · obtain ⟨h1, h2, h3⟩ := nth_get e
            obtain ⟨v, h4, h5⟩ := c3.get h3
            exact tail_any hT.typeIs slot_list_getitem.lookup (wpAny_getItem_list hT h1 (by (first | lia | omega)) (by simpa using h4) (h.same x h5)) hs
    · first | exact Mine.nos e | exact Mine.ff0 e | exact Mine.tf0 e | exact Mine.sn0 e | cases e
  · cases ha using Mine.VR.dctE with
    | dct q1 q2 q3 q4 q5 =>
      cases hb using Mine.VR.strE with
      | str e1 l1 =>
        rename_i es n xk tk
        have hm := dct_map (prog := prog) q1 q5
        rw [← e1] at e
        obtain ⟨v, h6, h7⟩ := (dr_find (x := xk) q5).1 _ e
        have hv : findBy Value.isStrOf es.toArray xk = some v.val := by
          unfold findBy
          rw [List.find?_toArray, h6]; rfl
        refine tail_any hm.typeIs slot_dict_getitem.lookup (wpAny_getItem_of (strKind_is prog Wd xk tk) hm hv ?_) hs
        refine h.toks x _ ?_
        generalize v.val = vv at h7
        cases h7 with
        | str c l => exact .str c l
        | bool b => exact .bool b
  · first | exact Mine.nos e | exact Mine.ff0 e | exact Mine.tf0 e | exact Mine.sn0 e | cases e
end
end Mine
end
section
open PySem PySem.W PyProof.Rows
namespace Mine
section
variable {prog : Program} {Wd : World} {Cl : Addr} {B : Heap} {A : Around} {E : Value → Shared → Prop} {s : Shared} {α β γ δ : List Addr} {H : Hp} {Q : Value → Shared → Prop}

theorem Mv.upd {h h' : Heap} {a : Addr} {i : Nat} (ea : α[i]? = some a) (hs : Heap.SameBut a h h') (hn : ∃ o, h'.get? a = some o) : Mv α h α h' := by
  refine ⟨fun b o e hb => ?_, fun b o e => ?_, [], (List.append_nil _).symm, fun _ hm => nomatch hm⟩
  · have : b ≠ a := fun z => hb (z ▸ List.mem_of_getElem? ea)
    exact (hs.2 b this).trans e
  · by_cases hb : b = a
    · exact hb ▸ hn
    · exact ⟨o, (hs.2 b hb).trans e⟩
/-- one own object is another one now -/
theorem St.upd {h h' : Heap} {a : Addr} {i : Nat} {o' : AO} {ob : Obj} (x : St Wd Cl B h α β H) (ea : α[i]? = some a) (hs : Heap.SameBut a h h') (ho : h'.get? a = some ob) (hr : OR Wd Cl h' α β ob o') :
    St Wd Cl B h' α β (H.set i o') := by
  have g : Mv α h α h' := Mv.upd ea hs ⟨ob, ho⟩
  have hi : i < H.length := x.len ▸ (List.getElem?_eq_some_iff.mp ea).1
  refine ⟨⟨by rw [List.length_set]; exact x.len, x.nd, fun j o e => ?_⟩, fun b o e => ⟨g.keep b o (x.base b o e).1 (x.base b o e).2, (x.base b o e).2⟩, fun b hb => ?_⟩
  · rw [List.getElem?_set] at e
    by_cases hj : i = j
    · subst hj
      rw [if_pos rfl, if_pos hi] at e
      cases e
      exact ⟨a, ob, ea, ho, hr⟩
    · rw [if_neg hj] at e
      obtain ⟨b, ob', e1, e2, e3⟩ := x.at_ j o e
      have hb : b ≠ a := fun z => by
        subst z
        have h1 := List.getElem?_eq_some_iff.mp e1
        have h2 := List.getElem?_eq_some_iff.mp ea
        exact hj ((List.getElem_inj x.nd).mp (h2.2.trans h1.2.symm))
      exact ⟨b, ob', e1, (hs.2 b hb).trans e2, e3.mv g⟩
  · obtain ⟨⟨o, e⟩, r⟩ := x.out b hb
    exact ⟨g.there b o e, r⟩

theorem list_append_raw {l : Addr} {ob : Obj} {items : Array Value} {n : Nat} {x : Value} (ho : s.heap.get? l = some ob) (hc : ob.cls = .type "list") (hd : ob.data = .seq items n) 
    (hQ : ∀ h' ob', h'.get? l = some ob' → ob'.cls = .type "list" → ob'.dict = ob.dict → (∃ n', ob'.data = .seq (items.push x) n') → Heap.SameBut l s.heap h' → Q .none { s with heap := h' }) (hsz : items.size ≤ sizeLine) :
    wpAny (model prog Wd) A (call (.builtin "list.append") [.ref l, x]) Q E s := by
  obtain ⟨n', hd'⟩ := Obj.data_mapSeq hd (·.push x)
  have hl : s.heap.IsList l items := ⟨_, ho, hc, n, hd⟩
  refine wpAny_call_entry slot_list_append hl.typeIs entry_list_append ?_ (args_list_append _ _)
  show wpAny _ _ (updateSeq l (·.push x) >>= fun _ => ret .none) _ _ s
  refine wpAny_bind ?_
  refine wpAny_updateSeq ho hd (wpAny_pure ⟨.none, rfl, hQ _ _ (Heap.get?_update_self _ ho (Obj.isFreed_of_seq hd')) ((Obj.cls_mapSeq ..).trans hc) ?_ ⟨n', hd'⟩ (Heap.SameBut.update ..)⟩)
  obtain ⟨cls, dd, data, sl⟩ := ob
  simp only at hd
  subst hd
  rfl

theorem list_popW (l : Addr) (items : Array Value) (n : Nat) (y : Value) (dd : Option Addr) (sl : Array (Option Value)) (hy : items[items.size - 1]? = some y) (hs1 : items.size ≤ sizeLine) :
    Meets (Builtin.«list.pop» ⟨[.ref l], []⟩)
      (fun _ R s => s.heap.get? l = some { cls := .type "list", dict := dd, data := .seq items n, slots := sl } ∧ R (.ok (.ret y)) { s with heap := s.heap.update l (Obj.mapSeq fun xs => xs.eraseIdxIfInBounds (items.size - 1)) }) :=
  .of_wp fun prog w A R s h => by
    obtain ⟨hp, g, d, tk, os⟩ := s; obtain ⟨hl, h⟩ := h
    have hpos : 0 < items.size := by
      rcases Nat.eq_zero_or_pos items.size with h0 | h0
      · simp [h0] at hy
      · exact h0
    have hne : ¬ items.isEmpty = true := by
      intro he; have : items.size = 0 := by simpa using he
      (first | lia | omega)
    have hk : seqIndex? (-1) items.size = some (items.size - 1) := by
      rw [seqIndex_neg (by (first | lia | omega)) (by (first | lia | omega))]; congr 1; (first | lia | omega)
    wp_walk using AutoSeq1.wpAny_loadPart' hl
    simp only [hk, hy, Option.bind_some, Option.map_some]
    have hz' : (items.eraseIdxIfInBounds (items.size - 1)).size ≤ sizeLine + 1 := by
      refine Nat.le_trans ?_ (Nat.le_succ_of_le hs1)
      unfold Array.eraseIdxIfInBounds
      split
      · rw [Array.size_eraseIdx]; (first | lia | omega)
      · exact Nat.le_refl _
    wp_walk using (wpAny_updateSeq hl rfl (hz := hs1) (_hz' := hz')), AutoSeq1.wpAny_loadPart' hl
    exact ⟨_, rfl, h⟩

theorem listMeth_ok {m : Str} {i : Nat} {xs : List V} {args : List V} {r : V} {H' : Hp} (hH : H[i]? = some (.list xs)) (e : listMeth m H i xs args = some (r, H')) :
    ∃ id, Slot "list" m id ∧ typeOf (.builtin id) = pure (.type "method_descriptor") ∧
    ∀ {A : Around} {E : Value → Shared → Prop} {s : Shared} {α β : List Addr} {a : Addr} {vs : List Value} {Q : Value → Shared → Prop}, St Wd Cl B s.heap α β H → α[i]? = some a → VRs Wd Cl s.heap α β vs args →
      FinV Wd Cl B α β s H' r Q → wpAny (model prog Wd) A (call (.builtin id) (.ref a :: vs)) Q E s := by
  unfold listMeth at e
  split at e
  · split at e
    · rename_i d q1 q2
      cases e
      have hm := seq_iff.mp q1
      subst hm
      refine ⟨_, PySem.F.slot_list_append, PySem.F.type_list_append, fun {A E s α β a vs Q} x ea hv h => ?_⟩
      obtain ⟨a', ob, e1, e2, e3⟩ := x.at_ _ _ hH
      cases ea.symm.trans e1
      cases e3 with
      | list c1 c0 c2 c3 c4 =>
        rename_i ws n
        cases hv using Mine.VRs.consE with
        | cons w1 w2 =>
          cases w2
          have hlen := c3.length
          have hz := szOk_le q2
          refine list_append_raw (items := ws.toArray) e2 c1 c2 (fun h' ob' o1 o2 o0 o3 hs => ?_) (by rw [List.size_toArray, sizeLine_eq]; (first | lia | omega))
          obtain ⟨n', o3⟩ := o3
          have g : Mv α s.heap α h' := Mv.upd ea hs ⟨ob', o1⟩
          refine h _ _ _ (Go.heap (tk := s.toks) g) (x.upd ea hs o1 (.list o2 (o0.trans c0) (vs := ws ++ [_]) (n := n') (by rw [o3]; simp) ((c3.mv g).append (.cons (w1.mv g) .nil)) (by simp; (first | lia | omega)))) .none
    · first | exact Mine.nos e | exact Mine.ff0 e | exact Mine.tf0 e | exact Mine.sn0 e | cases e
  · split at e
    · rename_i q1
      have hm := seq_iff.mp q1
      subst hm
      split at e
      · rename_i y q2
        cases e
        refine ⟨_, PySem.F.slot_list_pop, PySem.F.type_list_pop, fun {A E s α β a vs Q} x ea hv h => ?_⟩
        obtain ⟨a', ob, e1, e2, e3⟩ := x.at_ _ _ hH
        cases ea.symm.trans e1
        cases e3 with
        | list c1 c0 c2 c3 c4 =>
          rename_i ws n
          first | cases hv using Mine.VR.intE | cases hv using Mine.VR.strE | cases hv using Mine.VR.boolE | cases hv using Mine.VR.noneE | cases hv using Mine.VR.lstE | cases hv using Mine.VR.tupE | cases hv using Mine.VR.refE | cases hv using Mine.VR.objE | cases hv using Mine.VR.dctE | cases hv using Mine.VR.rngE | cases hv using Mine.VRs.nilE | cases hv using Mine.VRs.consE | cases hv
          have hlen := c3.length
          obtain ⟨u, y', hu, h5, h6⟩ := c3.last q2
          subst hu
          obtain ⟨cls, dd, data, sl⟩ := ob
          simp only at c1 c0 c2
          subst c1 c0 c2
          have hy : (u ++ [y']).toArray[(u ++ [y']).toArray.size - 1]? = some y' := by simp
          refine call_meets PySem.F.slot_list_pop ⟨_, e2, rfl⟩ PySem.F.entry_list_pop (PySem.F.args_list_pop_1 _) (list_popW a (u ++ [y']).toArray n y' none sl hy (by rw [List.size_toArray, sizeLine_eq]; (first | lia | omega))) ⟨e2, ?_⟩
          have hs : Heap.SameBut a s.heap (s.heap.update a (Obj.mapSeq fun xs => xs.eraseIdxIfInBounds ((u ++ [y']).toArray.size - 1))) := Heap.SameBut.update ..
          have ho : (s.heap.update a (Obj.mapSeq fun xs => xs.eraseIdxIfInBounds ((u ++ [y']).toArray.size - 1))).get? a = some (Obj.mapSeq (fun xs => xs.eraseIdxIfInBounds ((u ++ [y']).toArray.size - 1)) { cls := .type "list", dict := none, data := .seq (u ++ [y']).toArray n, slots := sl }) := Heap.get?_update_self _ e2 rfl
          have g := Mv.upd ea hs ⟨_, ho⟩
          have hc : (u ++ [y']).toArray.eraseIdxIfInBounds ((u ++ [y']).toArray.size - 1) = u.toArray := by
            apply Array.ext'
            unfold Array.eraseIdxIfInBounds
            simp
            rw [List.eraseIdx_append_of_length_le (Nat.le_refl _)]
            simp
          refine h _ _ _ (Go.heap (tk := s.toks) g) (x.upd ea hs ho (.list (vs := u) (n := n + 1) rfl rfl ?_ (h6.mv g) (by simp; (first | lia | omega)))) (h5.mv g)
          show Data.seq ((u ++ [y']).toArray.eraseIdxIfInBounds ((u ++ [y']).toArray.size - 1)) (if ((u ++ [y']).toArray.eraseIdxIfInBounds ((u ++ [y']).toArray.size - 1)).size == (u ++ [y']).toArray.size then n else n + 1) = _
          rw [hc]
          simp
      · first | exact Mine.nos e | exact Mine.ff0 e | exact Mine.tf0 e | exact Mine.sn0 e | cases e
    · first | exact Mine.nos e | exact Mine.ff0 e | exact Mine.tf0 e | exact Mine.sn0 e | cases e
  · first | exact Mine.nos e | exact Mine.ff0 e | exact Mine.tf0 e | exact Mine.sn0 e | cases e
end
end Mine
end
section
open PySem PySem.W PyProof.Rows
namespace Mine
section
variable {prog : Program} {Wd : World} {Cl : Addr} {B : Heap} {A : Around} {E : Value → Shared → Prop} {s : Shared} {α β γ δ : List Addr} {H : Hp} {Q : Value → Shared → Prop}

theorem guard_some {b : Bool} {v r : V} (e : guard b v = some r) : b = true ∧ r = v := by
  unfold guard at e
  split at e
  · cases e; exact ⟨rfl, rfl⟩
  · first | exact Mine.nos e | exact Mine.ff0 e | exact Mine.tf0 e | exact Mine.sn0 e | cases e

/-- the class or function that a built-in name stands for -/
noncomputable def bval (f : Str) : Value :=
  bif seq f (N "len") then .builtin "len"
  else bif seq f (N "str") then .type "str"
  else bif seq f (N "abs") then .builtin "abs"
  else bif seq f (N "int") then .type "int"
  else bif seq f (N "max") then .builtin "max"
  else bif seq f (N "ord") then .builtin "ord"
  else bif seq f (N "repr") then .builtin "repr"
  else bif seq f (N "range") then .type "range"
  else .builtin "min"

theorem maxI_spec : ∀ (r : List Int) (m : Int), maxI m r ∈ m :: r ∧ ∀ a ∈ m :: r, a ≤ maxI m r
  | [], m => by simp [maxI_0]
  | x :: r, m => by
    rw [maxI_1]
    cases h : decide (m < x) with
    | true =>
      have h := of_decide_eq_true h
      obtain ⟨h1, h2⟩ := maxI_spec r x
      dsimp only
      refine ⟨.tail _ h1, fun a ha => ?_⟩
      rcases List.mem_cons.mp ha with rfl | ha
      · have := h2 x (.head _); (first | lia | omega)
      · exact h2 a ha
    | false =>
      have h := of_decide_eq_false h
      obtain ⟨h1, h2⟩ := maxI_spec r m
      dsimp only
      refine ⟨?_, fun a ha => ?_⟩
      · rcases List.mem_cons.mp h1 with q | q
        · rw [q]; exact .head _
        · exact .tail _ (.tail _ q)
      · rcases List.mem_cons.mp ha with rfl | ha
        · exact h2 a (.head _)
        · rcases List.mem_cons.mp ha with rfl | ha
          · have := h2 m (.head _); (first | lia | omega)
          · exact h2 a (.tail _ ha)

theorem max_list_raw {l : Addr} {vs : List Value} {ns : List Int} {M : Int} (hh : A.handled = none) (hl : s.heap.IsList l vs.toArray) (hi : IntsAre vs ns) (hne : 0 < ns.length) (hM : M ∈ ns) (hM2 : ∀ a ∈ ns, a ≤ M)
    (h : ∀ h' (t : Tok) tk, (∀ b o, s.heap.get? b = some o → h'.get? b = some o) → Q (.int M t) { s with heap := h', toks := tk }) :
    wpAny (model prog Wd) A (call (.builtin "max") [.ref l]) Q E s := by
  obtain ⟨xs, e⟩ := hi.allInts.items
  have hns : ns = xs.toList.map (·.1) := by
    rw [← hi.numsOf, ← nums_intItems, ← e]
  have hsz : 0 < xs.size := by
    rw [hns, List.length_map, Array.length_toList] at hne; exact hne
  rw [e] at hl
  refine max_intList hh hl hsz fun v h' tk hv hk => ?_
  obtain ⟨t, rfl⟩ := intItems_at hv
  obtain ⟨h1, h2⟩ := argBest_gt (numAt xs) (xs.size - 1)
  have key : numAt xs (argBest (fun i j => decide (numAt xs i > numAt xs j)) (xs.size - 1)) = M := by
    have le1 : numAt xs (argBest (fun i j => decide (numAt xs i > numAt xs j)) (xs.size - 1)) ≤ M := by
      apply hM2
      rw [hns, numAt_eq]
      rw [List.getD_eq_getElem?_getD, List.getElem?_eq_getElem (by rw [List.length_map, Array.length_toList]; (first | lia | omega))]
      exact List.getElem_mem _
    have le2 : M ≤ numAt xs (argBest (fun i j => decide (numAt xs i > numAt xs j)) (xs.size - 1)) := by
      rw [hns] at hM
      obtain ⟨j, hj, ej⟩ := List.mem_iff_getElem.mp hM
      rw [List.length_map, Array.length_toList] at hj
      have : numAt xs j = M := by
        rw [numAt_eq, List.getD_eq_getElem?_getD, List.getElem?_eq_getElem (by rw [List.length_map, Array.length_toList]; exact hj), ej]; rfl
      rw [← this]
      exact h2 j (by (first | lia | omega))
    (first | lia | omega)
  rw [key]
  exact h h' t tk hk

theorem bLen_ok {a : Value} {d r : V} (x : St Wd Cl B s.heap α β H) (ha : VR Wd Cl s.heap α β a d) (h : FinV Wd Cl B α β s H r Q) (e : bLen H d = some r) : wpAny (model prog Wd) A (call (.builtin "len") [a]) Q E s := by
  cases d <;> first | exact nos e | skip
  · cases ha using Mine.VR.strE with
    | str e1 l1 =>
      subst e1
      refine PyProof.Rows.len_str ?_ ?_
      · rw [cps_len]; (first | lia | omega)
      · rw [cps_len]; exact h.toks x _ (Option.some.inj e ▸ .int _ _)
  · cases ha using Mine.VR.tupE with
    | tup q1 q2 q3 q4 q5 q6 =>
      obtain ⟨g, rfl⟩ := guard_some e
      have g := szOk_le g
      rw [← q6.length] at g h
      exact PyProof.Rows.len_tuple ⟨_, q1, q4, _, q5⟩ (by simp; (first | lia | omega)) (h.toks x _ (.int _ _))
  · cases ha using Mine.VR.lstE with
    | lst q1 q2 q3 q4 q5 q6 =>
      obtain ⟨g, rfl⟩ := guard_some e
      have g := szOk_le g
      rw [← q6.length] at g h
      exact PyProof.Rows.len_list ⟨_, q1, q4, _, q5⟩ (by simp; (first | lia | omega)) (h.toks x _ (.int _ _))
  · rename_i i
    dsimp only [bLen_0, bLen_1, bLen_2, bLen_3] at e
    cases q : H[i]? with
    | none => rw [q] at e; exact nos e
    | some o =>
    rw [q] at e
    cases o with
    | inst => exact nos e
    | list vs =>
    cases ha using Mine.VR.refE with
    | ref g1 =>
      obtain ⟨a', ob, e1, e2, e3⟩ := x.at_ _ _ q
      cases g1.symm.trans e1
      cases e3 with
      | list c1 _ c2 c3 c4 =>
        have hl := c3.length
        refine PyProof.Rows.len_list ⟨_, e2, c1, _, c2⟩ (by simp; (first | lia | omega)) ?_
        rw [List.size_toArray, hl]
        exact h.toks x _ (Option.some.inj e ▸ .int _ _)

theorem texti_le {i : Int} (h : i.natAbs < 10 ^ 40) : (texti i).length ≤ 1000000 := by
  have : (texti i).length = (Str.ofString (toString i)).length := (cps_len _).symm
  rw [this, PySem.ofString_length]
  exact Nat.le_trans (int_text_length_le10 (by decide) h) (by decide)
theorem log2_of {n : Nat} (h : n < 10 ^ 40) : n.log2 < 1920 := by
  rcases Nat.eq_zero_or_pos n with h0 | hp
  · subst h0; decide
  · exact (Nat.log2_lt (Nat.ne_of_gt hp)).mpr (Nat.lt_trans h (by decide +kernel))

noncomputable def CallP (prog : Program) (Wd : World) (A : Around) (Q E : Value → Shared → Prop) (s : Shared) (vs : List Value) (f : Value) : Prop := wpAny (model prog Wd) A (call f vs) Q E s
noncomputable def CallN (prog : Program) (Wd : World) (A : Around) (Q E : Value → Shared → Prop) (s : Shared) (vs : List Value) (f : Str) : Prop := wpAny (model prog Wd) A (call (bval f) vs) Q E s
theorem condS {c : Bool} {a b : Value} {x y : Option V} {r : V} {P : Value → Prop} (h1 : x = some r → P a) (h2 : y = some r → P b) : (bif c then x else y) = some r → P (bif c then a else b) := by
  cases c
  · exact h2
  · exact h1
theorem condN {f w : Str} {x y : Option V} {r : V} {P : Str → Prop} (h1 : x = some r → P w) (h2 : y = some r → P f) : (bif seq f w then x else y) = some r → P f := by
  cases c : seq f w with
  | true => rw [seq_iff.mp c]; exact h1
  | false => exact h2
theorem bStr_ok {a : Value} {d r : V} (x : St Wd Cl B s.heap α β H) (ha : VR Wd Cl s.heap α β a d) (h : FinV Wd Cl B α β s H r Q) (e : bStr d = some r) : wpAny (model prog Wd) A (call (.type "str") [a]) Q E s := by
  cases d <;> first | exact nos e | skip
  obtain ⟨g, rfl⟩ := guard_some e
  cases ha using VR.intE
  have g' := Nat.le_of_ble_eq_true g
  exact P.str_of_int (log2_of g') (h.toks x _ (.str rfl (texti_le g')))
theorem abs_eq (i : Int) : (if i < 0 then -i else i) = (i.natAbs : Int) := by split <;> (first | lia | omega)
theorem bAbs_ok {a : Value} {d r : V} (x : St Wd Cl B s.heap α β H) (ha : VR Wd Cl s.heap α β a d) (h : FinV Wd Cl B α β s H r Q) (e : bAbs d = some r) : wpAny (model prog Wd) A (call (.builtin "abs") [a]) Q E s := by
  cases d <;> first | exact nos e | skip
  cases ha using VR.intE
  refine call_abs_int fun u tk => ?_
  rw [abs_eq]
  exact h.toks x _ (Option.some.inj e ▸ .int _ _)
theorem bInt_ok {a : Value} {d r : V} (x : St Wd Cl B s.heap α β H) (ha : VR Wd Cl s.heap α β a d) (h : FinV Wd Cl B α β s H r Q) (e : bInt d = some r) : wpAny (model prog Wd) A (call (.type "int") [a]) Q E s := by
  cases d <;> first | exact nos e | skip
  · cases ha using VR.boolE
    refine call_int_bool ?_
    rename_i b
    have e' := Option.some.inj e
    cases b with
    | true => exact h.toks x _ (e' ▸ .int _ _)
    | false => exact h.toks x _ (e' ▸ .int _ _)
  · cases ha using VR.intE
    exact call_int_int (h.same x (Option.some.inj e ▸ .int _ _))
theorem bMax_ok {k : Nat} (R : Rm A k) {a : Value} {d r : V} (x : St Wd Cl B s.heap α β H) (ha : VR Wd Cl s.heap α β a d) (h : FinV Wd Cl B α β s H r Q) (e : bMax d = some r) : wpAny (model prog Wd) A (call (.builtin "max") [a]) Q E s := by
  cases d <;> first | exact nos e | skip
  rename_i l
  cases q : intsOf l with
  | none => dsimp only [bMax] at e; rw [q] at e; exact nos e
  | some ns =>
  dsimp only [bMax] at e
  rw [q] at e
  cases ns with
  | nil => exact nos e
  | cons y r' =>
  cases ha using VR.lstE with
  | lst q1 q2 q3 q4 q5 q6 =>
  obtain ⟨m1, m2⟩ := maxI_spec r' y
  exact max_list_raw R.hd ⟨_, q1, q4, _, q5⟩ (ints_are q6 q) (Nat.succ_pos _) m1 m2 fun h' t tk hk => h.grow x tk hk (Option.some.inj e ▸ .int _ _)
theorem bOrd_ok {a : Value} {d r : V} (x : St Wd Cl B s.heap α β H) (ha : VR Wd Cl s.heap α β a d) (h : FinV Wd Cl B α β s H r Q) (e : bOrd d = some r) : wpAny (model prog Wd) A (call (.builtin "ord") [a]) Q E s := by
  cases d <;> first | exact nos e | skip
  obtain ⟨c, hc, e⟩ := Option.map_eq_some_iff.mp e
  cases ha using VR.strE with
  | str e1 l1 =>
  rw [one_eq hc] at e1
  rw [str_of e1]
  exact P.ord_of_char (h.toks x _ (e ▸ .int _ _))
theorem bRepr_ok {a : Value} {d r : V} (x : St Wd Cl B s.heap α β H) (ha : VR Wd Cl s.heap α β a d) (h : FinV Wd Cl B α β s H r Q) (e : bRepr d = some r) : wpAny (model prog Wd) A (call (.builtin "repr") [a]) Q E s := by
  cases d <;> first | exact nos e | skip
  cases ha using VR.boolE
  refine P.repr_of_bool ?_
  rename_i b
  have e' := Option.some.inj e
  cases b with
  | true => exact h.toks x _ (e' ▸ .str rfl (by decide +kernel))
  | false => exact h.toks x _ (e' ▸ .str rfl (by decide +kernel))
theorem bRange_ok {a : Value} {d r : V} (x : St Wd Cl B s.heap α β H) (ha : VR Wd Cl s.heap α β a d) (h : FinV Wd Cl B α β s H r Q) (e : bRange d = some r) : wpAny (model prog Wd) A (call (.type "range") [a]) Q E s := by
  cases d <;> first | exact nos e | skip
  obtain ⟨g, rfl⟩ := guard_some e
  cases ha using VR.intE
  exact call_range_1 (h.grow x _ (fun b o e => Heap.get?_push_of_some _ e) (.rng (IsRange.new _ _ _ _ _ _ _) x.offA x.offB (by decide +kernel) g))
theorem bMax2_ok {k : Nat} (R : Rm A k) {a b : Value} {d1 d2 r : V} (x : St Wd Cl B s.heap α β H) (ha : VR Wd Cl s.heap α β a d1) (hb : VR Wd Cl s.heap α β b d2) (h : FinV Wd Cl B α β s H r Q) (e : bMax2 d1 d2 = some r) : wpAny (model prog Wd) A (call (.builtin "max") [a, b]) Q E s := by
  cases d1 <;> first | exact nos e | skip
  cases d2 <;> first | exact nos e | skip
  cases ha using VR.intE
  cases hb using VR.intE
  rename_i i j t u
  refine max_two_ints R.hd fun h' tk hk => h.grow x tk hk (Option.some.inj e ▸ ?_)
  cases q : decide (i < j) with
  | true => rw [if_pos (of_decide_eq_true q)]; exact .int _ _
  | false => rw [if_neg (of_decide_eq_false q)]; exact .int _ _
theorem bMin2_ok {k : Nat} (R : Rm A k) {a b : Value} {d1 d2 r : V} (x : St Wd Cl B s.heap α β H) (ha : VR Wd Cl s.heap α β a d1) (hb : VR Wd Cl s.heap α β b d2) (h : FinV Wd Cl B α β s H r Q) (e : bMin2 d1 d2 = some r) : wpAny (model prog Wd) A (call (.builtin "min") [a, b]) Q E s := by
  cases d1 <;> first | exact nos e | skip
  cases d2 <;> first | exact nos e | skip
  cases ha using VR.intE
  cases hb using VR.intE
  rename_i i j t u
  refine min_two_ints R.hd fun h' tk hk => h.grow x tk hk (Option.some.inj e ▸ ?_)
  cases q : decide (j < i) with
  | true => rw [if_pos (of_decide_eq_true q)]; exact .int _ _
  | false => rw [if_neg (of_decide_eq_false q)]; exact .int _ _
theorem bRange2_ok {a b : Value} {d1 d2 r : V} (x : St Wd Cl B s.heap α β H) (ha : VR Wd Cl s.heap α β a d1) (hb : VR Wd Cl s.heap α β b d2) (h : FinV Wd Cl B α β s H r Q) (e : bRange2 d1 d2 = some r) : wpAny (model prog Wd) A (call (.type "range") [a, b]) Q E s := by
  cases d1 <;> first | exact nos e | skip
  cases d2 <;> first | exact nos e | skip
  obtain ⟨g, rfl⟩ := guard_some e
  obtain ⟨g1, g2⟩ := Bool.and_eq_true_iff.mp g
  cases ha using VR.intE
  cases hb using VR.intE
  exact call_range_2 (h.grow x _ (fun b o e => Heap.get?_push_of_some _ e) (.rng (IsRange.new _ _ _ _ _ _ _) x.offA x.offB g1 g2))

theorem builtin_ok {k : Nat} (R : Rm A k) {f : Str} {args : List V} {vs : List Value} {r : V} (x : St Wd Cl B s.heap α β H) (hv : VRs Wd Cl s.heap α β vs args) (e : builtin f H args = some r) (h : FinV Wd Cl B α β s H r Q) :
    wpAny (model prog Wd) A (call (bval f) vs) Q E s := by
  cases args with
  | nil => exact nos e
  | cons d ds =>
  cases hv using VRs.consE with
  | cons ha hv =>
  cases ds with
  | nil =>
    cases hv using VRs.nilE
    rename_i v
    show CallP prog Wd A Q E s [v] (bval f)
    exact condS (bLen_ok x ha h) (condS (bStr_ok x ha h) (condS (bAbs_ok x ha h) (condS (bInt_ok x ha h) (condS (bMax_ok R x ha h) (condS (bOrd_ok x ha h) (condS (bRepr_ok x ha h) (condS (bRange_ok x ha h) nos))))))) e
  | cons d2 ds =>
  cases hv using VRs.consE with
  | cons hb hv =>
  cases ds with
  | nil =>
    cases hv using VRs.nilE
    rename_i v v2
    show CallN prog Wd A Q E s [v, v2] f
    exact condN (bMax2_ok R x ha hb h) (condN (bMin2_ok R x ha hb h) (condN (bRange2_ok x ha hb h) nos)) e
  | cons => exact nos e
end
end Mine
end
section
open PySem PySem.W PyProof.Rows
namespace Mine
section
variable {prog : Program} {Wd : World} {Cl : Addr} {B : Heap} {A : Around} {E : Value → Shared → Prop} {s : Shared} {α β γ δ : List Addr} {H : Hp} {Q : Value → Shared → Prop}

theorem truth_ok {v : Value} {d : V} {r : Bool} {Q : Bool → Shared → Prop} (hv : VR Wd Cl s.heap α β v d) (e : truth H d = some r) (h : Q r s) : wpAny (model prog Wd) A (truthy v) Q E s := by
  unfold truth at e
  split at e
  · cases hv; cases e; exact PyProof.Rows.truthy_none h
  · cases hv; cases e; exact wpAny_truthy_bool h
  · first | exact Mine.nos e | exact Mine.ff0 e | exact Mine.tf0 e | exact Mine.sn0 e | cases e
theorem unop_ok {op : UnaryOp} {v : Value} {d r : V} (x : St Wd Cl B s.heap α β H) (hv : VR Wd Cl s.heap α β v d) (e : unop op d = some r) (h : FinV Wd Cl B α β s H r Q) : wpAny (model prog Wd) A (unaryOp op v) Q E s := by
  unfold unop at e
  split at e
  · first | cases hv using Mine.VR.intE | cases hv using Mine.VR.strE | cases hv using Mine.VR.boolE | cases hv using Mine.VR.noneE | cases hv using Mine.VR.lstE | cases hv using Mine.VR.tupE | cases hv using Mine.VR.refE | cases hv using Mine.VR.objE | cases hv using Mine.VR.dctE | cases hv using Mine.VR.rngE | cases hv using Mine.VRs.nilE | cases hv using Mine.VRs.consE | cases hv
    split at e
    · cases e; exact PyProof.Rows.neg_int (h.toks x _ (.int _ _))
    · first | exact Mine.nos e | exact Mine.ff0 e | exact Mine.tf0 e | exact Mine.sn0 e | cases e
  · first | cases hv using Mine.VR.intE | cases hv using Mine.VR.strE | cases hv using Mine.VR.boolE | cases hv using Mine.VR.noneE | cases hv using Mine.VR.lstE | cases hv using Mine.VR.tupE | cases hv using Mine.VR.refE | cases hv using Mine.VR.objE | cases hv using Mine.VR.dctE | cases hv using Mine.VR.rngE | cases hv using Mine.VRs.nilE | cases hv using Mine.VRs.consE | cases hv
    split at e
    · cases e; exact not_value (wpAny_truthy_bool (h.same x (.bool _)))
    · first | exact Mine.nos e | exact Mine.ff0 e | exact Mine.tf0 e | exact Mine.sn0 e | cases e
  · first | exact Mine.nos e | exact Mine.ff0 e | exact Mine.tf0 e | exact Mine.sn0 e | cases e

theorem joinS_eq (sep : Str) (l : List Str) : cps (Txt.join sep l) = joinS (cps sep) (l.map cps) := by
  show cps (Builtin.Str.glued sep l) = _
  rw [StrLaws.glued_eq_join]
  induction l with
  | nil => rfl
  | cons x r ih =>
    cases r with
    | nil => rfl
    | cons y r =>
      show cps (x ++ sep ++ Str.join sep (y :: r)) = _
      rw [cps_append, cps_append, ih]
      rfl
theorem joinS_len (sep : Str) (l : List Str) : (joinS (cps sep) (l.map cps)).length = (l.map (·.length)).sum + (l.length - 1) * sep.length := by
  rw [← joinS_eq, ← cps_len]
  exact size_glued sep l

theorem sJoin_ok {x : Str} {t : Tok} {a : Value} {d r : V} (X : St Wd Cl B s.heap α β H) (hx : (cps x).length ≤ 1000000) (ha : VR Wd Cl s.heap α β a d) (e : sJoin H (cps x) d = some r) (h : FinV Wd Cl B α β s H r Q) :
    wpAny (model prog Wd) A (call (.builtin "str.join") [.str x t, a]) Q E s := by
  unfold sJoin at e
  split at e
  · rename_i xs q
    obtain ⟨g, rfl⟩ := guard_some e
    have g := szOk_le g
    rw [Option.bind_eq_some_iff] at q
    obtain ⟨ds, q1, q2⟩ := q
    obtain ⟨a', vs, rfl, hl, hvs⟩ := list_at X ha q1
    obtain ⟨ys, hs, hm⟩ := strs_are hvs q2
    subst hm
    have hlen := joinS_len x ys
    have key : (ys.map (·.length)).sum + ys.length * x.length ≤ 16777216 := by
      have hxl := cps_len x
      rw [hlen] at g
      cases ys with
      | nil => simp
      | cons y r =>
        simp only [List.length_cons, Nat.add_sub_cancel] at g ⊢
        rw [Nat.succ_mul]
        (first | lia | omega)
    refine join_list hl (by simpa using hs) key fun t' k => h.toks X _ (.str (joinS_eq x ys) g)
  · first | exact Mine.nos e | exact Mine.ff0 e | exact Mine.tf0 e | exact Mine.sn0 e | cases e

theorem sUpper_tab : ∀ c : Nat, c < 123 → 97 ≤ c → Txt.upper ⟨#[c]⟩ = ⟨#[c - 32]⟩ := by decide +kernel

theorem strsFrom_vr : ∀ (tk : Nat) (ys : List Str), (ys.all fun y => szOk (cps y).length) = true → ∀ h : Heap, VRs Wd Cl h α β (strsFrom tk ys) (ys.map fun x => V.str (cps x))
  | _, [], _, _ => .nil
  | tk, y :: r, e, h => by
    rw [List.all_cons, Bool.and_eq_true] at e
    exact .cons (.str rfl (szOk_le e.1)) (strsFrom_vr (tk + 1) r e.2 h)

theorem sSplit_ok {x : Str} {t : Tok} {a : Value} {d r : V} (X : St Wd Cl B s.heap α β H) (ha : VR Wd Cl s.heap α β a d) (e : sSplit (cps x) d = some r) (h : FinV Wd Cl B α β s H r Q) :
    wpAny (model prog Wd) A (call (.builtin "str.split") [.str x t, a]) Q E s := by
  unfold sSplit at e
  split at e
  · cases ha using Mine.VR.strE with
    | str e1 l1 =>
    rename_i l y u
    split at e
    · rename_i c q
      obtain ⟨g, rfl⟩ := guard_some e
      have := one_eq q
      subst this
      have := str_of e1
      subst this
      have ex : (⟨(cps x).toArray⟩ : Str) = x := cps_inj rfl
      unfold parts1 at g
      rw [ex] at g
      rw [ex] at h
      simp only [Bool.and_eq_true] at g
      obtain ⟨⟨g1, g2⟩, g3⟩ := g
      have g1 := szOk_le g1
      have g2 := szOk_le g2
      rw [← cps_len] at g1 g2
      have fin : ∀ (ws : List Value) (tk : Nat), VRs Wd Cl s.heap α β ws ((Txt.split x ⟨#[c]⟩).map fun x => V.str (cps x)) →
          Q (.ref s.heap.objs.size) { s with heap := s.heap.push { cls := .type "list", data := .seq ws.toArray }, toks := tk } := fun ws tk hw => by
        have kk : ∀ b o, s.heap.get? b = some o → (s.heap.push { cls := .type "list", data := .seq ws.toArray }).get? b = some o := fun b o e => Heap.get?_push_of_some _ e
        exact h.grow X tk kk (.lst (Heap.get?_push_size _ rfl) X.offA X.offB rfl rfl (hw.mv (Mv.of_keep kk)))
      have hself : Txt.split x ⟨#[c]⟩ = [x] → VRs Wd Cl s.heap α β [.str x t] ((Txt.split x ⟨#[c]⟩).map fun x => V.str (cps x)) := fun hq => by
        rw [hq] at g3 ⊢
        simp only [List.all_cons, List.all_nil, Bool.and_true] at g3
        exact .cons (.str rfl (szOk_le g3)) .nil
      cases h1 : (decide (x.length < (⟨#[c]⟩ : Str).length) || decide (Builtin.Str.strKind x < Builtin.Str.strKind ⟨#[c]⟩)) with
      | true => exact call_meets PySem.F.slot_str_split (typeIs_str _ _ _) PySem.F.entry_str_split (PySem.F.args_str_split_2 _ _) (meets_str_split_cannot_occur x _ t u h1) (fin [.str x t] s.toks (hself (if_pos h1)))
      | false =>
        cases hf : (Builtin.Str.occurrences x ⟨#[c]⟩ 0 x.length (x.length + 1)).isEmpty with
        | true => exact call_meets PySem.F.slot_str_split (typeIs_str _ _ _) PySem.F.entry_str_split (PySem.F.args_str_split_2 _ _) (meets_str_split_not_found x _ t u h1 rfl hf) (fin [.str x t] s.toks (hself ((if_neg (ne_true_of_eq_false h1)).trans (if_pos hf))))
        | false =>
          have hq : Txt.split x ⟨#[c]⟩ = Builtin.Str.partsBetween x (Builtin.Str.occurrences x ⟨#[c]⟩ 0 x.length (x.length + 1)) (⟨#[c]⟩ : Str).length := (if_neg (ne_true_of_eq_false h1)).trans (if_neg (ne_true_of_eq_false hf))
          refine call_meets PySem.F.slot_str_split (typeIs_str _ _ _) PySem.F.entry_str_split (PySem.F.args_str_split_2 _ _) (meets_str_split_sep x _ t u h1 rfl hf (by rw [sizeLine_eq]; (first | lia | omega)) (by rw [sizeLine_eq]; exact Nat.le_trans g1 (by decide))) ?_
          refine fin _ _ ?_
          rw [hq] at g3 ⊢
          exact strsFrom_vr _ _ g3 _
    · first | exact Mine.nos e | exact Mine.ff0 e | exact Mine.tf0 e | exact Mine.sn0 e | cases e
  · first | exact Mine.nos e | exact Mine.ff0 e | exact Mine.tf0 e | exact Mine.sn0 e | cases e

theorem strMeth_ok {m : Str} {x : Str} {args : List V} {r : V} (e : strMeth m H (cps x) args = some r) :
    ∃ id, Slot "str" m id ∧ typeOf (.builtin id) = pure (.type "method_descriptor") ∧
    ∀ {A : Around} {E : Value → Shared → Prop} {s : Shared} {α β : List Addr} {t : Tok} {vs : List Value} {Q : Value → Shared → Prop}, St Wd Cl B s.heap α β H → (cps x).length ≤ 1000000 → VRs Wd Cl s.heap α β vs args →
      FinV Wd Cl B α β s H r Q → wpAny (model prog Wd) A (call (.builtin id) (.str x t :: vs)) Q E s := by
  unfold strMeth at e
  split at e
  · cases c1 : seq m (N "join") with
    | true =>
      rw [c1] at e
      dsimp only [cond] at e
      have := seq_iff.mp c1
      subst this
      refine ⟨_, PySem.F.slot_str_join, PySem.F.type_str_join, fun X hx hv h => ?_⟩
      cases hv using Mine.VRs.consE with
      | cons ha hn =>
      cases hn
      exact sJoin_ok X hx ha e h
    | false =>
    rw [c1] at e
    dsimp only [cond] at e
    cases c2 : seq m (N "lstrip") with
    | true =>
      rw [c2] at e
      dsimp only [cond] at e
      have := seq_iff.mp c2
      subst this
      refine ⟨_, PySem.F.slot_str_lstrip, PySem.F.type_str_lstrip, fun X hx hv h => ?_⟩
      have hsz : x.length ≤ sizeLine := by rw [cps_len, sizeLine_eq]; (first | lia | omega)
      cases hv using Mine.VRs.consE with
      | cons ha hn =>
      cases hn
      unfold sLstrip at e
      split at e
      · cases ha using Mine.VR.strE with
        | str e1 l1 =>
        rw [Option.map_eq_some_iff] at e
        obtain ⟨c, hc, rfl⟩ := e
        have := one_eq hc
        subst this
        have := str_of e1
        subst this
        have ex : (⟨(cps x).toArray⟩ : Str) = x := cps_inj rfl
        refine SC.lstripChars (fun t' k => h.toks X _ (.str ?_ ?_)) hsz
        · unfold strip1; rw [ex]
        · unfold strip1
          rw [ex, ← cps_len]
          have := PyProof.Rows.len_lstripChars x ⟨#[c]⟩
          rw [← cps_len] at hx
          exact Nat.le_trans this hx
      · first | exact Mine.nos e | exact Mine.ff0 e | exact Mine.tf0 e | exact Mine.sn0 e | cases e
    | false =>
    rw [c2] at e
    dsimp only [cond] at e
    cases c3 : seq m (N "split") with
    | true =>
      rw [c3] at e
      dsimp only [cond] at e
      have := seq_iff.mp c3
      subst this
      refine ⟨_, PySem.F.slot_str_split, PySem.F.type_str_split, fun X hx hv h => ?_⟩
      cases hv using Mine.VRs.consE with
      | cons ha hn =>
      cases hn
      exact sSplit_ok X ha e h
    | false => rw [c3] at e; first | exact Mine.nos e | exact Mine.ff0 e | exact Mine.tf0 e | exact Mine.sn0 e | cases e
  · cases c1 : seq m (N "upper") with
    | true =>
      rw [c1] at e
      dsimp only [cond] at e
      have := seq_iff.mp c1
      subst this
      refine ⟨_, PySem.F.slot_str_upper, PySem.F.type_str_upper, fun X hx hv h => ?_⟩
      first | cases hv using Mine.VR.intE | cases hv using Mine.VR.strE | cases hv using Mine.VR.boolE | cases hv using Mine.VR.noneE | cases hv using Mine.VR.lstE | cases hv using Mine.VR.tupE | cases hv using Mine.VR.refE | cases hv using Mine.VR.objE | cases hv using Mine.VR.dctE | cases hv using Mine.VR.rngE | cases hv using Mine.VRs.nilE | cases hv using Mine.VRs.consE | cases hv
      unfold sUpper at e
      split at e
      · rename_i c hc
        obtain ⟨g, rfl⟩ := guard_some e
        rw [Bool.and_eq_true] at g
        have g1 := Nat.le_of_ble_eq_true g.1
        have g2 := Nat.le_of_ble_eq_true g.2
        have hc := one_eq hc
        have ex := str_of hc
        subst ex
        have hu := sUpper_tab c (by (first | lia | omega)) g1
        refine SC.upper (by rw [hu]; rfl) ?_
        rw [hu]
        exact h.toks X _ (.str rfl (by simp))
      · first | exact Mine.nos e | exact Mine.ff0 e | exact Mine.tf0 e | exact Mine.sn0 e | cases e
    | false => rw [c1] at e; first | exact Mine.nos e | exact Mine.ff0 e | exact Mine.tf0 e | exact Mine.sn0 e | cases e
  · first | exact Mine.nos e | exact Mine.ff0 e | exact Mine.tf0 e | exact Mine.sn0 e | cases e
end
end Mine
end
section
open PySem PySem.W PyProof.Rows
namespace Mine
section
variable {Wd : World} {Cl : Addr} {B : Heap}

/-- fewer frames outside -/
theorem Kp.sub {h : Heap} {α β γ : List Addr} (k : ∀ a ∈ γ, a ∈ β) : Kp h α β h α γ := ⟨fun b o e x y => ⟨e, x, fun z => y (k _ z)⟩, fun _ _ e => e⟩
/-- more frames outside, laid after the value was -/
theorem Kp.enl {h : Heap} {α β δ : List Addr} (k : ∀ a ∈ δ, h.get? a = Option.none) : Kp h α β h α (δ ++ β) := ⟨fun b o e x y => ⟨e, x, fun z => (List.mem_append.mp z).elim (fun z => sn0 (e.symm.trans (k _ z))) y⟩, fun _ _ e => e⟩
theorem VR.sub {h : Heap} {α β γ : List Addr} (k : ∀ a ∈ γ, a ∈ β) {v : Value} {d : V} (x : VR Wd Cl h α β v d) : VR Wd Cl h α γ v d := x.kp (.sub k)
theorem VR.enl {h : Heap} {α β δ : List Addr} (k : ∀ a ∈ δ, h.get? a = Option.none) {v : Value} {d : V} (x : VR Wd Cl h α β v d) : VR Wd Cl h α (δ ++ β) v d := x.kp (.enl k)
theorem VRs.sub {h : Heap} {α β γ : List Addr} (k : ∀ a ∈ γ, a ∈ β) {v : List Value} {d : List V} (x : VRs Wd Cl h α β v d) : VRs Wd Cl h α γ v d := x.kp (.sub k)
theorem VRs.enl {h : Heap} {α β δ : List Addr} (k : ∀ a ∈ δ, h.get? a = Option.none) {v : List Value} {d : List V} (x : VRs Wd Cl h α β v d) : VRs Wd Cl h α (δ ++ β) v d := x.kp (.enl k)
/-- pure values know nothing of the own heap -/
noncomputable def PuP (Wd : World) (Cl : Addr) (h : Heap) (γ : List Addr) (v : Value) (d : V) : Prop := vpure d = true → VR Wd Cl h [] γ v d
noncomputable def PuPs (Wd : World) (Cl : Addr) (h : Heap) (γ : List Addr) (v : List Value) (d : List V) : Prop := vpures d = true → VRs Wd Cl h [] γ v d
theorem vpures_cons {d : V} {ds : List V} (p : vpures (d :: ds) = true) : vpure d = true ∧ vpures ds = true := by
  change (match vpure d with | true => vpures ds | false => false) = true at p
  cases q : vpure d with
  | true => rw [q] at p; exact ⟨rfl, p⟩
  | false => rw [q] at p; exact ff0 p
theorem VR.pure {h : Heap} {α β γ : List Addr} (k : ∀ a ∈ γ, a ∈ α ∨ a ∈ β) {v : Value} {d : V} (x : VR Wd Cl h α β v d) : PuP Wd Cl h γ v d :=
  VR.rec (motive_1 := fun v d _ => PuP Wd Cl h γ v d) (motive_2 := fun v d _ => PuPs Wd Cl h γ v d) (fun _ => .none) (fun b _ => .bool b) (fun i t _ => .int i t) (fun e n _ => .str e n)
    (fun a b c d e _ r p => .tup a List.not_mem_nil (fun z => (k _ z).elim b c) d e (r p)) (fun a b c d e _ r p => .lst a List.not_mem_nil (fun z => (k _ z).elim b c) d e (r p))
    (fun _ _ _ _ _ p => ff0 p) (fun _ _ _ _ _ p => ff0 p) (fun _ p => ff0 p) (fun _ _ _ _ p => ff0 p) (fun _ => .nil) (fun _ _ a b p => .cons (a (vpures_cons p).1) (b (vpures_cons p).2)) x
theorem VRs.pure {h : Heap} {α β γ : List Addr} (k : ∀ a ∈ γ, a ∈ α ∨ a ∈ β) {v : List Value} {d : List V} (x : VRs Wd Cl h α β v d) : PuPs Wd Cl h γ v d :=
  x.ind (P := PuPs Wd Cl h γ) (fun _ => .nil) fun a _ r p => .cons (a.pure k (vpures_cons p).1) (r (vpures_cons p).2)
/-- a value of the ground -/
theorem VR.lift {h : Heap} {α β : List Addr} (k : ∀ b o, B.get? b = some o → h.get? b = some o ∧ b ∉ α ∧ b ∉ β) {v : Value} {d : V} (x : VR Wd Cl B [] [] v d) : VR Wd Cl h α β v d := x.kp ⟨fun b o e _ _ => k b o e, fun _ _ e => nos e⟩

theorem St.glob {h : Heap} {α β : List Addr} {H : Hp} (x : St Wd Cl B h α β H) : ∀ b o, B.get? b = some o → h.get? b = some o ∧ b ∉ α ∧ b ∉ β :=
  fun b o e => ⟨(x.base b o e).1, (x.base b o e).2, fun z => by have := (x.out b z).2.2; rw [e] at this; cases this⟩

theorem OR.sub {h : Heap} {α β γ : List Addr} (k : ∀ a ∈ γ, a ∈ β) {ob : Obj} {o : AO} (x : OR Wd Cl h α β ob o) : OR Wd Cl h α γ ob o := x.kp (.sub k)
theorem OR.enl {h : Heap} {α β δ : List Addr} (k : ∀ a ∈ δ, h.get? a = Option.none) {ob : Obj} {o : AO} (x : OR Wd Cl h α β ob o) : OR Wd Cl h α (δ ++ β) ob o := x.kp (.enl k)

theorem St.sub {h : Heap} {α β γ : List Addr} {H : Hp} (k : ∀ a ∈ γ, a ∈ β) (x : St Wd Cl B h α β H) : St Wd Cl B h α γ H :=
  ⟨⟨x.len, x.nd, fun i o e => let ⟨a, ob, e1, e2, e3⟩ := x.at_ i o e; ⟨a, ob, e1, e2, e3.sub k⟩⟩, x.base, fun a z => x.out a (k a z)⟩
/-- a frame is laid -/
theorem St.enl {h h' : Heap} {α β δ : List Addr} {H : Hp} (x : St Wd Cl B h α β H) (k : ∀ b o, h.get? b = some o → h'.get? b = some o) (f : ∀ a ∈ δ, h.get? a = Option.none ∧ ∃ o, h'.get? a = some o) : St Wd Cl B h' α (δ ++ β) H := by
  have g : Mv α h α h' := Mv.of_keep k
  refine ⟨⟨x.len, x.nd, fun i o e => let ⟨a, ob, e1, e2, e3⟩ := x.at_ i o e; ⟨a, ob, e1, k _ _ e2, (e3.enl fun a z => (f a z).1).mv g⟩⟩, fun b o e => ⟨k b o (x.base b o e).1, (x.base b o e).2⟩, fun a z => ?_⟩
  rcases List.mem_append.mp z with z | z
  · refine ⟨(f a z).2, fun q => ?_, ?_⟩
    · obtain ⟨o, e⟩ := x.toHl.alloc q
      rw [(f a z).1] at e; first | exact Mine.nos e | exact Mine.ff0 e | exact Mine.tf0 e | exact Mine.sn0 e | cases e
    · cases e : B.get? a with
      | none => rfl
      | some o => have := (x.base a o e).1; rw [(f a z).1] at this; first | exact Mine.nos this | exact Mine.ff0 this | exact Mine.tf0 this | exact Mine.sn0 this | cases this
  · obtain ⟨⟨o, e⟩, r⟩ := x.out a z
    exact ⟨⟨o, k _ _ e⟩, r⟩

/-- a statement's step: what of the frame, γ, may change besides -/
structure Ms (γ α : List Addr) (h : Heap) (α' : List Addr) (h' : Heap) : Prop where
  keep : ∀ b o, h.get? b = some o → b ∉ α → b ∉ γ → h'.get? b = some o
  there : ∀ b o, h.get? b = some o → ∃ o', h'.get? b = some o'
  ext : ∃ δ, α' = α ++ δ ∧ ∀ a ∈ δ, h.get? a = Option.none
structure Gs (γ α : List Addr) (s : Shared) (α' : List Addr) (s' : Shared) : Prop extends Ms γ α s.heap α' s'.heap where
  same : ∃ h' tk, s' = { s with heap := h', toks := tk }

theorem Mv.ms {γ α α' : List Addr} {h h' : Heap} (g : Mv α h α' h') : Ms γ α h α' h' := ⟨fun b o e n _ => g.keep b o e n, g.there, g.ext⟩
theorem Go.gs {γ α α' : List Addr} {s s' : Shared} (g : Go α s α' s') : Gs γ α s α' s' := ⟨g.toMv.ms, g.same⟩
theorem Ms.get {γ α α' : List Addr} {h h' : Heap} (g : Ms γ α h α' h') {i : Nat} {a : Addr} (e : α[i]? = some a) : α'[i]? = some a := by
  obtain ⟨δ, rfl, _⟩ := g.ext
  rw [List.getElem?_append_left (List.getElem?_eq_some_iff.mp e).1]; exact e
theorem Ms.off {γ α α' : List Addr} {h h' : Heap} (g : Ms γ α h α' h') {a : Addr} {o : Obj} (e : h.get? a = some o) (ha : a ∉ α) : a ∉ α' := by
  obtain ⟨δ, rfl, hf⟩ := g.ext
  intro hm
  rcases List.mem_append.mp hm with q | q
  · exact ha q
  · rw [hf a q] at e; first | exact Mine.nos e | exact Mine.ff0 e | exact Mine.tf0 e | exact Mine.sn0 e | cases e
theorem Ms.trans {γ α α' α'' : List Addr} {h h' h'' : Heap} (g : Ms γ α h α' h') (k : Ms γ α' h' α'' h'') : Ms γ α h α'' h'' := by
  refine ⟨fun b o e hb hc => k.keep b o (g.keep b o e hb hc) (g.off e hb) hc, fun b o e => ?_, ?_⟩
  · obtain ⟨o', e'⟩ := g.there b o e
    exact k.there b o' e'
  · obtain ⟨δ, rfl, hf⟩ := g.ext
    obtain ⟨δ', rfl, hf'⟩ := k.ext
    refine ⟨δ ++ δ', List.append_assoc .., fun a ha => ?_⟩
    rcases List.mem_append.mp ha with q | q
    · exact hf a q
    · cases e : h.get? a with
      | none => rfl
      | some o =>
        obtain ⟨o', e'⟩ := g.there a o e
        rw [hf' a q] at e'; first | exact Mine.nos e' | exact Mine.ff0 e' | exact Mine.tf0 e' | exact Mine.sn0 e' | cases e'
theorem Gs.trans {γ α α' α'' : List Addr} {s s' s'' : Shared} (g : Gs γ α s α' s') (k : Gs γ α' s' α'' s'') : Gs γ α s α'' s'' := by
  refine ⟨g.toMs.trans k.toMs, ?_⟩
  obtain ⟨h₁, t₁, rfl⟩ := g.same
  obtain ⟨h₂, t₂, e⟩ := k.same
  exact ⟨h₂, t₂, e⟩
theorem Gs.refl (γ α : List Addr) (s : Shared) : Gs γ α s α s := (Go.refl α s).gs
/-- what changed was laid after the start: nothing changed -/
theorem Ms.fresh {γ α α' : List Addr} {h h₁ h' : Heap} (g : Ms γ α h₁ α' h') (k : ∀ b o, h.get? b = some o → h₁.get? b = some o) (f : ∀ a ∈ γ, h.get? a = Option.none) : Mv α h α' h' := by
  refine ⟨fun b o e n => g.keep b o (k b o e) n (fun z => by rw [f b z] at e; cases e), fun b o e => g.there b o (k b o e), ?_⟩
  obtain ⟨δ, rfl, hf⟩ := g.ext
  refine ⟨δ, rfl, fun a ha => ?_⟩
  cases e : h.get? a with
  | none => rfl
  | some o => have := k a o e; rw [hf a ha] at this; first | exact Mine.nos this | exact Mine.ff0 this | exact Mine.tf0 this | exact Mine.sn0 this | cases this
/-- the same, with a frame below that may change still -/
theorem Ms.drop {δ γ α α' : List Addr} {h h₁ h' : Heap} (g : Ms (δ ++ γ) α h₁ α' h') (k : ∀ b o, h.get? b = some o → h₁.get? b = some o) (f : ∀ a ∈ δ, h.get? a = Option.none) : Ms γ α h α' h' := by
  refine ⟨fun b o e n m => g.keep b o (k b o e) n fun z => (List.mem_append.mp z).elim (fun z => by rw [f b z] at e; cases e) m, fun b o e => g.there b o (k b o e), ?_⟩
  obtain ⟨δ, rfl, hf⟩ := g.ext
  refine ⟨δ, rfl, fun a ha => ?_⟩
  cases e : h.get? a with
  | none => rfl
  | some o => have := k a o e; rw [hf a ha] at this; first | exact Mine.nos this | exact Mine.ff0 this | exact Mine.tf0 this | exact Mine.sn0 this | cases this
theorem Ms.more {γ γ' α α' : List Addr} {h h' : Heap} (g : Ms γ α h α' h') (k : ∀ a ∈ γ, a ∈ γ') : Ms γ' α h α' h' := ⟨fun b o e n m => g.keep b o e n fun z => m (k b z), g.there, g.ext⟩
theorem Ms.kp {γ α α' β : List Addr} {h h' : Heap} (g : Ms γ α h α' h') (k : ∀ a ∈ γ, a ∈ β) : Kp h α β h' α' β := ⟨fun b o e a z => ⟨g.keep b o e a fun q => z (k _ q), g.off e a, z⟩, fun _ _ e => g.get e⟩
theorem VR.ms {γ α α' β : List Addr} {h h' : Heap} (g : Ms γ α h α' h') (k : ∀ a ∈ γ, a ∈ β) {v : Value} {d : V} (x : VR Wd Cl h α β v d) : VR Wd Cl h' α' β v d := x.kp (g.kp k)
theorem VRs.ms {γ α α' β : List Addr} {h h' : Heap} (g : Ms γ α h α' h') (k : ∀ a ∈ γ, a ∈ β) {v : List Value} {d : List V} (x : VRs Wd Cl h α β v d) : VRs Wd Cl h' α' β v d := x.kp (g.kp k)
theorem OR.ms {γ α α' β : List Addr} {h h' : Heap} (g : Ms γ α h α' h') (k : ∀ a ∈ γ, a ∈ β) {ob : Obj} {o : AO} (x : OR Wd Cl h α β ob o) : OR Wd Cl h' α' β ob o := x.kp (g.kp k)
/-- a frame's object changes -/
theorem St.ms {γ α β : List Addr} {h h' : Heap} {H : Hp} (x : St Wd Cl B h α β H) (g : Ms γ [] h [] h') (k : ∀ a ∈ γ, a ∈ β) : St Wd Cl B h' α β H := by
  have hn : ∀ a, a ∈ α → a ∉ γ := fun a ha hg => (x.out a (k a hg)).2.1 ha
  have g' : Ms γ α h α h' := ⟨fun b o e _ m => g.keep b o e List.not_mem_nil m, g.there, [], (List.append_nil _).symm, fun _ z => nomatch z⟩
  refine ⟨⟨x.len, x.nd, fun i o e => let ⟨a, ob, e1, e2, e3⟩ := x.at_ i o e; ⟨a, ob, e1, g.keep _ _ e2 List.not_mem_nil (hn a (List.mem_of_getElem? e1)), e3.ms g' k⟩⟩, fun b o e => ?_, fun a z => ?_⟩
  · obtain ⟨h1, h2, h3⟩ := x.glob b o e
    exact ⟨g.keep b o h1 List.not_mem_nil fun z => h3 (k b z), h2⟩
  · obtain ⟨⟨o, e⟩, r⟩ := x.out a z
    exact ⟨g.there a o e, r⟩
theorem Ms.upd {γ α : List Addr} {h h' : Heap} {a : Addr} (ea : a ∈ γ) (hs : Heap.SameBut a h h') (hn : ∃ o, h'.get? a = some o) : Ms γ α h α h' := by
  refine ⟨fun b o e _ hb => ?_, fun b o e => ?_, [], (List.append_nil _).symm, fun _ hm => nomatch hm⟩
  · have : b ≠ a := fun z => hb (z ▸ ea)
    exact (hs.2 b this).trans e
  · by_cases hb : b = a
    · exact hb ▸ hn
    · exact ⟨o, (hs.2 b hb).trans e⟩
end
end Mine
end
section
open PySem PySem.W PyProof.Rows
namespace Mine

/-- what the ground is: the world, the class, the base heap, my program, the main namespaces -/
structure Gd where
  prog : Program
  W : World
  Cl : Addr
  B : Heap
  P : Pg
  g : Addr
  bns : Addr
  mg : Str → Option Value
  mb : Str → Option Value
  K : Frag

/-- a def, as a function's object has it -/
structure FnOk (G : Gd) (fd : FuncData) (d : FD) : Prop where
  body : fd.body = .stmts d.body
  sc : fd.scope = d.scope
  glb : fd.globals = G.g
  blt : fd.builtins = G.bns
  clo : fd.closure = []
  co : d.scope.isCoroutine = false
  gen : d.scope.isGenerator = false
  kind : d.scope.kind = .function
  code : G.B.CodeRec fd.code fd.qualname
  bind : ∀ vs : List Value, vs.length = d.params.length → bindArgs fd ⟨vs, []⟩ = pure (d.params.zip vs)
  own : d.params.all (fun x => kindIs d.scope x isOwn) = true
  nd : d.params.Nodup
  names : (d.scope.names.map (·.1)).Nodup
  nofree : ∀ x, lk x d.scope.names ≠ some .free

noncomputable def AtFn (G : Gd) (v : Value) (d : FD) : Prop := ∃ a o fd, v = .ref a ∧ G.B.get? a = some o ∧ o.data = .func fd ∧ FnOk G fd d

structure En (G : Gd) : Prop where
  lim : G.B.NoLimit
  kin : G.K.In G.B
  gns : G.B.Ns G.g G.mg
  bnsAt : G.B.Ns G.bns G.mb
  glob : ∀ x d, G.P.glob x = some d → ∃ v, G.mg x = some v ∧ VR G.W G.Cl G.B [] [] v d
  blt : ∀ x, G.P.blt x = true → G.mg x = none ∧ G.mb x = some (bval x)
  fn : ∀ x d, G.P.defs false x = some d → G.P.cls x = false → ∃ v, G.mg x = some v ∧ keepIn G.K v = true ∧ AtFn G v d
  cls : ∀ x, G.P.cls x = true → G.mg x = some (.ref G.Cl)
  meth : ∀ x d, G.P.defs true x = some d → ∃ a, findIn G.K (.ref G.Cl) x = some (some (.ref a)) ∧ isFn G.K (.ref a) = true ∧ keepIn G.K (.ref a) = true ∧ AtFn G (.ref a) d
  keepC : keepIn G.K (.ref G.Cl) = true
  plain : plainGet G.K G.Cl (N "") = true
  hasD : hasDictIn G.K G.Cl = true
  attr : ∀ x, G.P.attr x = true → (∃ r, findIn G.K (.ref G.Cl) x = some r ∧ noGet G.K r = true) ∧ takerIn G.K G.Cl x = some none
  seta : findIn G.K (.ref G.Cl) "__setattr__" = some (some (.builtin "object.__setattr__"))
  over : plainOver G.K G.Cl = true
  makes : makesIn G.K G.Cl = true

noncomputable def kmap : NameKind → NameKind
  | .free => .cell
  | k => k

/-- a frame: my names, among the machine's -/
structure Fm (G : Gd) (h : Heap) (α β : List Addr) (sc : Scope) (env : Env) (ρ : Loc) : Prop where
  kind : env.scope.kind = .function
  glb : env.globals = G.g
  blt : env.builtins = G.bns
  ks : ∀ x k, lk x sc.names = some k → env.kindOf x = some (kmap k)
  ns : ∃ m, h.Ns env.locals m ∧ ∀ x d, lk x ρ = some d → env.kindOf x = some .local → ∃ v, m x = some v ∧ VR G.W G.Cl h α β v d
  cl : ∀ x, env.kindOf x = some .cell → ∃ c u, env.cells.lookup x = some c ∧ h.IsCell c u ∧ ∀ d, lk x ρ = some d → ∃ v, u = some v ∧ VR G.W G.Cl h α β v d
  lb : env.locals ∈ β
  cb : ∀ x c, (x, c) ∈ env.cells → c ∈ β ∧ c ≠ env.locals
  ap : ∀ x y c, env.cells.lookup x = some c → env.cells.lookup y = some c → x = y

section
variable {G : Gd} {h h' : Heap} {α α' β : List Addr} {H H' : Hp} {sc : Scope} {env : Env} {ρ : Loc} {A : Around} {E : Value → Shared → Prop} {s : Shared}

theorem Fm.mv (F : Fm G h α β sc env ρ) (x : St G.W G.Cl G.B h α β H) (g : Mv α h α' h') : Fm G h' α' β sc env ρ := by
  refine ⟨F.kind, F.glb, F.blt, F.ks, ?_, fun x' k => ?_, F.lb, F.cb, F.ap⟩
  · obtain ⟨m, ⟨o, es, ep, ho, r⟩, q⟩ := F.ns
    refine ⟨m, ⟨o, es, ep, g.keep _ _ ho (x.out _ F.lb).2.1, r⟩, fun x' d e k => ?_⟩
    obtain ⟨v, e1, e2⟩ := q x' d e k
    exact ⟨v, e1, e2.mv g⟩
  · obtain ⟨c, u, e1, ⟨o, e2, e3⟩, e4⟩ := F.cl x' k
    refine ⟨c, u, e1, ⟨o, g.keep _ _ e2 (x.out _ (F.cb _ _ (mem_of_lookup e1)).1).2.1, e3⟩, fun d e => ?_⟩
    obtain ⟨v, e5, e6⟩ := e4 d e
    exact ⟨v, e5, e6.mv g⟩

theorem FinV.from {r : V} {Q : Value → Shared → Prop} {α₁ : List Addr} {s₁ : Shared} (f : FinV G.W G.Cl G.B α β s H r Q) (g : Go α s α₁ s₁) : FinV G.W G.Cl G.B α₁ β s₁ H r Q :=
  fun v α' s' k => f v α' s' (g.trans k)

noncomputable def FinB (G : Gd) (α β : List Addr) (s : Shared) (H' : Hp) (r : Bool) (Q : Bool → Shared → Prop) : Prop :=
  ∀ α' s', Go α s α' s' → St G.W G.Cl G.B s'.heap α' β H' → Q r s'
noncomputable def FinL (G : Gd) (α β : List Addr) (s : Shared) (H' : Hp) (r : List V) (Q : List Value → Shared → Prop) : Prop :=
  ∀ vs α' s', Go α s α' s' → St G.W G.Cl G.B s'.heap α' β H' → VRs G.W G.Cl s'.heap α' β vs r → Q vs s'
noncomputable def partVal (v : Value) : Option Int → Prop
  | none => v = .none
  | some i => ∃ t, v = .int i t
noncomputable def FinO (G : Gd) (α β : List Addr) (s : Shared) (H' : Hp) (r : Option Int) (Q : Value → Shared → Prop) : Prop :=
  ∀ v α' s', Go α s α' s' → St G.W G.Cl G.B s'.heap α' β H' → partVal v r → Q v s'
theorem FinB.from {r : Bool} {Q : Bool → Shared → Prop} {α₁ : List Addr} {s₁ : Shared} (f : FinB G α β s H r Q) (g : Go α s α₁ s₁) : FinB G α₁ β s₁ H r Q :=
  fun α' s' k => f α' s' (g.trans k)
theorem FinL.from {r : List V} {Q : List Value → Shared → Prop} {α₁ : List Addr} {s₁ : Shared} (f : FinL G α β s H r Q) (g : Go α s α₁ s₁) : FinL G α₁ β s₁ H r Q :=
  fun v α' s' k => f v α' s' (g.trans k)
theorem FinO.from {r : Option Int} {Q : Value → Shared → Prop} {α₁ : List Addr} {s₁ : Shared} (f : FinO G α β s H r Q) (g : Go α s α₁ s₁) : FinO G α₁ β s₁ H r Q :=
  fun v α' s' k => f v α' s' (g.trans k)

/-- one of my names, loaded -/
theorem kindIs_some {x : Str} {p : NameKind → Bool} (e : kindIs sc x p = true) : ∃ k, lk x sc.names = some k ∧ p k = true := by
  unfold kindIs at e
  split at e
  · exact ⟨_, by assumption, e⟩
  · first | exact Mine.nos e | exact Mine.ff0 e | exact Mine.tf0 e | exact Mine.sn0 e | cases e
theorem not_dbg {x : Str} (e : leq (cps x) dbgN = false) : (x == ("__debug__" : Str)) = false := by
  cases q : x == ("__debug__" : Str) with
  | false => rfl
  | true =>
    rw [beq_iff_eq.mp q] at e
    revert e
    decide +kernel
theorem name_loc {x : Str} {pos : Pos} {d : V} {Q : Value → Shared → Prop} (F : Fm G s.heap α β sc env ρ) (e : leq (cps x) dbgN = false) (k : kindIs sc x isLoc = true) (q : lk x ρ = some d)
    (h : ∀ v, VR G.W G.Cl s.heap α β v d → Q v s) : wpAny (model G.prog G.W) A (eval (.Name x pos) env) Q E s := by
  obtain ⟨k, e1, e2⟩ := kindIs_some k
  have ek := F.ks x k e1
  have fin : kmap k = .local ∨ kmap k = .cell := by
    cases k <;> first | (cases e2; done) | (left; rfl) | (right; rfl)
  refine wpAny_Name ?_ (not_dbg e)
  rcases fin with c | c <;> rw [c] at ek
  · obtain ⟨m, hn, hq⟩ := F.ns
    obtain ⟨v, e3, e4⟩ := hq x d q ek
    exact wpAny_loadName_local F.kind ek hn e3 (h v e4)
  · obtain ⟨c, u, e3, e4, e5⟩ := F.cl x ek
    obtain ⟨v, rfl, e6⟩ := e5 d q
    exact wpAny_loadName_cell F.kind ek e3 e4 (h v e6)
theorem St.gns (N : En G) (x : St G.W G.Cl G.B h α β H) : h.Ns G.g G.mg := N.gns.keeps fun b o e => (x.base b o e).1
theorem St.bns (N : En G) (x : St G.W G.Cl G.B h α β H) : h.Ns G.bns G.mb := N.bnsAt.keeps fun b o e => (x.base b o e).1
theorem St.kin (N : En G) (x : St G.W G.Cl G.B h α β H) : G.K.In h := N.kin.keeps fun b o e => (x.base b o e).1
theorem name_glob {x : Str} {pos : Pos} {v : Value} {Q : Value → Shared → Prop} (N : En G) (X : St G.W G.Cl G.B s.heap α β H) (F : Fm G s.heap α β sc env ρ) (e : leq (cps x) dbgN = false) (k : kindIs sc x isGlob = true)
    (q : G.mg x = some v) (h : Q v s) : wpAny (model G.prog G.W) A (eval (.Name x pos) env) Q E s := by
  obtain ⟨k, e1, e2⟩ := kindIs_some k
  have ek := F.ks x k e1
  have : kmap k = .globalImplicit := by cases k <;> first | (cases e2; done) | rfl
  rw [this] at ek
  exact Calls.Name_function_global F.kind ek (Calls.loadGlobal_global (F.glb ▸ X.gns N) q h) (not_dbg e)
theorem name_blt {x : Str} {pos : Pos} {v : Value} {Q : Value → Shared → Prop} (N : En G) (X : St G.W G.Cl G.B s.heap α β H) (F : Fm G s.heap α β sc env ρ) (e : leq (cps x) dbgN = false) (k : kindIs sc x isGlob = true)
    (q : G.mg x = none) (q' : G.mb x = some v) (h : Q v s) : wpAny (model G.prog G.W) A (eval (.Name x pos) env) Q E s := by
  obtain ⟨k, e1, e2⟩ := kindIs_some k
  have ek := F.ks x k e1
  have : kmap k = .globalImplicit := by cases k <;> first | (cases e2; done) | rfl
  rw [this] at ek
  exact Calls.Name_function_global F.kind ek (Calls.loadGlobal_builtin (F.glb ▸ X.gns N) q (F.blt ▸ X.bns N) q' h) (not_dbg e)

/-- what a call brings, by my evaluator's word -/
noncomputable def CallOk (G : Gd) (k : Nat) (f : Bool → Str → List V → Hp → Option (V × Hp)) : Prop :=
  ∀ {m : Bool} {x : Str} {args : List V} {H H' : Hp} {r : V}, f m x args H = some (r, H') →
    (m = false → (G.P.cls x = true ∨ ∃ d, G.P.defs false x = some d)) ∧ (m = true → ∃ d, G.P.defs true x = some d) ∧
    ∀ {A : Around} {E : Value → Shared → Prop} {s : Shared} {α β : List Addr} {vs : List Value} {fv : Value} {Q : Value → Shared → Prop}, Rm A k → St G.W G.Cl G.B s.heap α β H → VRs G.W G.Cl s.heap α β vs args →
      (m = false → G.mg x = some fv) → (m = true → findIn G.K (.ref G.Cl) x = some (some fv)) → FinV G.W G.Cl G.B α β s H' r Q → wpAny (model G.prog G.W) A (call fv vs) Q E s

/-- the evaluator's table of calls -/
structure CxOk (G : Gd) (k : Nat) (C : Cx) : Prop where
  glob : C.glob = G.P.glob
  blt : C.blt = G.P.blt
  attr : C.attr = G.P.attr
  call : CallOk G k C.call

noncomputable def SEv (G : Gd) (C : Cx) (k n : Nat) : Prop := ∀ {sc : Scope} {e : Expr} {ρ : Loc} {H H' : Hp} {r : V}, ev C n sc e ρ H = some (r, H') →
  ∀ {A : Around} {E : Value → Shared → Prop} {s : Shared} {α β : List Addr} {env : Env} {Q : Value → Shared → Prop}, Rm A k → St G.W G.Cl G.B s.heap α β H → Fm G s.heap α β sc env ρ →
    FinV G.W G.Cl G.B α β s H' r Q → wpAny (model G.prog G.W) A (eval e env) Q E s
noncomputable def SEvI (G : Gd) (C : Cx) (k n : Nat) : Prop := ∀ {sc : Scope} {e : Expr} {ρ : Loc} {H H' : Hp} {r : V}, evI C n sc e ρ H = some (r, H') →
  ∀ {A : Around} {E : Value → Shared → Prop} {s : Shared} {α β : List Addr} {env : Env} {Q : Value → Shared → Prop}, Rm A k → St G.W G.Cl G.B s.heap α β H → Fm G s.heap α β sc env ρ →
    FinV G.W G.Cl G.B α β s H' r Q → wpAny (model G.prog G.W) A (eval e env) Q E s
noncomputable def SEvs (G : Gd) (C : Cx) (k n : Nat) : Prop := ∀ {sc : Scope} {es : List Expr} {ρ : Loc} {H H' : Hp} {r : List V}, evs C n sc es ρ H = some (r, H') →
  (∀ (env : Env) (pos : Pos), (starEach es env).any (·.1) = false ∧ (backTo pos (starEach es env)).any (·.1) = false) ∧ r.length = es.length ∧
  ∀ {A : Around} {E : Value → Shared → Prop} {s : Shared} {α β : List Addr} {env : Env} {pos : Pos} {Q : List Value → Shared → Prop}, Rm A k → St G.W G.Cl G.B s.heap α β H → Fm G s.heap α β sc env ρ →
    FinL G α β s H' r Q → wpAny (model G.prog G.W) A (spliced (backTo pos (starEach es env))) Q E s
noncomputable def SEvO (G : Gd) (C : Cx) (k n : Nat) : Prop := ∀ {sc : Scope} {e : Option Expr} {ρ : Loc} {H H' : Hp} {r : Option Int}, evO C n sc e ρ H = some (r, H') →
  ∀ {A : Around} {E : Value → Shared → Prop} {s : Shared} {α β : List Addr} {env : Env} {Q : Value → Shared → Prop}, Rm A k → St G.W G.Cl G.B s.heap α β H → Fm G s.heap α β sc env ρ →
    FinO G α β s H' r Q → wpAny (model G.prog G.W) A (evalPart e env) Q E s
noncomputable def SEvIf (G : Gd) (C : Cx) (k n : Nat) : Prop := ∀ {sc : Scope} {es : List Expr} {ρ : Loc} {H H' : Hp} {r : Bool}, evIf C n sc es ρ H = some (r, H') →
  ∀ {A : Around} {E : Value → Shared → Prop} {s : Shared} {α β : List Addr} {env : Env} {Q : Bool → Shared → Prop}, Rm A k → St G.W G.Cl G.B s.heap α β H → Fm G s.heap α β sc env ρ →
    FinB G α β s H' r Q → wpAny (model G.prog G.W) A (forIn es true fun c r => if r = true then do let ok ← isTrue c env (eval c env); pure (ForInStep.yield ok) else pure (ForInStep.yield r)) Q E s
noncomputable def SEvB (G : Gd) (C : Cx) (k n : Nat) : Prop := ∀ {sc : Scope} {op : BoolOp} {es : List Expr} {ρ : Loc} {H H' : Hp} {r : V}, evB C n sc op es ρ H = some (r, H') →
  ∀ {A : Around} {E : Value → Shared → Prop} {s : Shared} {α β : List Addr} {env : Env} {pos : Pos} {Q : Value → Shared → Prop}, Rm A k → St G.W G.Cl G.B s.heap α β H → Fm G s.heap α β sc env ρ →
    FinV G.W G.Cl G.B α β s H' r Q → wpAny (model G.prog G.W) A (boolOp pos op (evalEach es env)) Q E s
noncomputable def SEvC (G : Gd) (C : Cx) (k n : Nat) : Prop := ∀ {sc : Scope} {a : V} {ops : List CmpOp} {rs : List Expr} {ρ : Loc} {H H' : Hp} {r : Bool}, evC C n sc a ops rs ρ H = some (r, H') →
  ∀ {A : Around} {E : Value → Shared → Prop} {s : Shared} {α β : List Addr} {env : Env} {pos : Pos} {v : Value} {Q : Bool → Shared → Prop}, Rm A k → St G.W G.Cl G.B s.heap α β H → Fm G s.heap α β sc env ρ → VR G.W G.Cl s.heap α β v a →
    FinB G α β s H' r Q → wpAny (model G.prog G.W) A (compareChain pos v ops (markedEach ops rs (evalEach rs env))) (fun c s' => ∃ b, c = .bool b ∧ Q b s') E s ∧ wpAny (model G.prog G.W) A (testChain pos v ops (markedEach ops rs (evalEach rs env))) Q E s
noncomputable def SEvT (G : Gd) (C : Cx) (k n : Nat) : Prop := ∀ {sc : Scope} {e : Expr} {ρ : Loc} {H H' : Hp} {r : Bool}, evT C n sc e ρ H = some (r, H') →
  ∀ {A : Around} {E : Value → Shared → Prop} {s : Shared} {α β : List Addr} {env : Env} {Q : Bool → Shared → Prop}, Rm A k → St G.W G.Cl G.B s.heap α β H → Fm G s.heap α β sc env ρ →
    FinB G α β s H' r Q → wpAny (model G.prog G.W) A (isTrue e env (eval e env)) Q E s
noncomputable def SEvTs (G : Gd) (C : Cx) (k n : Nat) : Prop := ∀ {sc : Scope} {op : BoolOp} {es : List Expr} {ρ : Loc} {H H' : Hp} {r : Bool}, evTs C n sc op es ρ H = some (r, H') →
  ∀ {A : Around} {E : Value → Shared → Prop} {s : Shared} {α β : List Addr} {env : Env} {Q : Bool → Shared → Prop}, Rm A k → St G.W G.Cl G.B s.heap α β H → Fm G s.heap α β sc env ρ →
    FinB G α β s H' r Q → wpAny (model G.prog G.W) A (allTrue op es env) Q E s

structure Sall (G : Gd) (C : Cx) (k n : Nat) : Prop where
  ev : SEv G C k n
  evI : SEvI G C k n
  evs : SEvs G C k n
  evO : SEvO G C k n
  evIf : SEvIf G C k n
  evB : SEvB G C k n
  evC : SEvC G C k n
  evT : SEvT G C k n
  evTs : SEvTs G C k n
end
end Mine
end
section
open PySem PySem.W PyProof.Rows
namespace Mine
section
variable {G : Gd} {C : Cx} {k n : Nat}

theorem push_keep {h : Heap} (o : Obj) : ∀ b x, h.get? b = some x → (h.push o).get? b = some x := fun b x e => Heap.get?_push_of_some _ e

/-- a list display that stays what it is -/
theorem evI_ok (ih : Sall G C k n) : SEvI G C k (n + 1) := by
  intro sc e ρ H H' r q A E s α β env Q R X F f
  cases e
  case List es pos =>
    rw [eI_lst] at q
    refine ckd q fun hz q => mpd q fun x q2 e1 => ?_
    obtain ⟨ds, H1⟩ := x
    cases e1
    obtain ⟨a1, a2, a3⟩ := ih.evs q2
    refine List_ (a3 R X F fun vs α1 s1 g1 X1 V1 => ?_)
    have hl := V1.length
    have hz := szOk_le hz
    refine wpAny_newList ?_ (by rw [sizeLine_eq]; (first | lia | omega))
    have k1 := push_keep (h := s1.heap) { cls := .type "list", data := .seq vs.toArray }
    exact (f.from g1) _ _ _ (Go.heap (tk := s1.toks) (Mv.of_keep k1)) (X1.mv k1) (.lst (Heap.get?_push_size _ rfl) X1.offA X1.offB rfl rfl (V1.mv (Mv.of_keep k1)))
  all_goals exact ih.ev q R X F f

theorem star_of {e : Expr} (h : isStar e = false) (es : List Expr) (env : Env) : starEach (e :: es) env = (false, eval e env) :: starEach es env := by
  cases e <;> first | rfl | exact tf0 h
theorem evs_ok (ih : Sall G C k n) : SEvs G C k (n + 1) := by
  intro sc es ρ H H' r q
  cases es with
  | nil =>
    rw [e_nil] at q
    cases q
    exact ⟨fun _ _ => ⟨rfl, rfl⟩, rfl, fun {A E s α β env pos Q} R X F f => wpAny_pure (f _ _ _ (Go.refl _ _) X .nil)⟩
  | cons e es =>
    cases hs : isStar e with
    | true => rw [e_cons0, hs] at q; exact nos q
    | false =>
    rw [e_cons e es hs] at q
    refine bndE q fun x q1 q => mpd q fun y q2 q => ?_
    obtain ⟨d, H1⟩ := x
    obtain ⟨ds, H2⟩ := y
    cases q
    obtain ⟨a1, a2, a3⟩ := ih.evs q2
    have he := star_of hs es
    refine ⟨fun env pos => ?_, congrArg Nat.succ a2, fun {A E s α β env pos Q} R X F f => ?_⟩
    · rw [he]
      obtain ⟨b1, b2⟩ := a1 env pos
      exact ⟨b1, b2⟩
    · refine spliced_more (ih.ev q1 R X F fun v α1 s1 g1 X1 V1 => a3 R X1 (F.mv X g1.toMv) fun vs α2 s2 g2 X2 V2 => ?_) (he env)
      exact f _ _ _ (g1.trans g2) X2 (.cons (V1.mv g2.toMv) V2)

theorem evO_ok (ih : Sall G C k n) : SEvO G C k (n + 1) := by
  intro sc e ρ H H' r q A E s α β env Q R X F f
  cases e with
  | none =>
    cases q
    exact wpAny_pure (f _ _ _ (Go.refl _ _) X rfl)
  | some e =>
    rw [eO_some] at q
    obtain ⟨i, H1, q1, e2⟩ := intK_some q
    cases e2
    exact ih.ev q1 R X F fun v α1 s1 g1 X1 V1 => f _ _ _ g1 X1 (by cases V1 using VR.intE; exact ⟨_, rfl⟩)

theorem evIf_ok (ih : Sall G C k n) : SEvIf G C k (n + 1) := by
  intro sc es ρ H H' r q A E s α β env Q R X F f
  cases es with
  | nil =>
    cases q
    exact wpAny_pure (f _ _ (Go.refl _ _) X)
  | cons e es =>
    cases es with
    | cons _ _ => exact nos q
    | nil =>
      rw [List.forIn_cons]
      refine wpAny_bind ?_
      rw [if_pos rfl]
      exact wpAny_bind (ih.evT q R X F fun α1 s1 g1 X1 => wpAny_pure (wpAny_pure (f _ _ g1 X1)))

theorem boolOp_more {A : Around} {E : Value → Shared → Prop} {s : Shared} {M : Model} {pos : Pos} {op : BoolOp} {x y : Sem Value} {l : List (Sem Value)} {Q : Value → Shared → Prop}
    (h : wpAny M A x (fun v s => wpAny M A (truthy v) (fun t s => wpAny M A (match op, t with | .And, false | .Or, true => pure v | _, _ => boolOp pos op (y :: l)) Q E s) E s) E s) : wpAny M A (boolOp pos op (x :: y :: l)) Q E s :=
  wpAny_bind (wpAny_mono h (fun v s h => wpAny_bind (wpAny_standAt (wpAny_bind (wpAny_holding h)))) fun _ _ z => z)
theorem evB_ok (ih : Sall G C k n) : SEvB G C k (n + 1) := by
  intro sc op es ρ H H' r q A E s α β env pos Q R X F f
  cases es with
  | nil => exact nos q
  | cons e es =>
    cases es with
    | nil => exact ih.ev q R X F f
    | cons e2 es =>
      refine boolOp_more (x := eval e env) (y := eval e2 env) (l := evalEach es env) ?_
      cases op with
      | And =>
        rw [eB_and] at q
        refine bndE q fun x q1 q => bndE q fun t q2 q => ih.ev q1 R X F fun v α1 s1 g1 X1 V1 => truth_ok V1 q2 ?_
        cases t with
        | false => cases q; exact wpAny_pure (f _ _ _ g1 X1 V1)
        | true => exact ih.evB q R X1 (F.mv X g1.toMv) (f.from g1)
      | Or =>
        rw [eB_or] at q
        refine bndE q fun x q1 q => bndE q fun t q2 q => ih.ev q1 R X F fun v α1 s1 g1 X1 V1 => truth_ok V1 q2 ?_
        cases t with
        | true => cases q; exact wpAny_pure (f _ _ _ g1 X1 V1)
        | false => exact ih.evB q R X1 (F.mv X g1.toMv) (f.from g1)

theorem evI_noSet {sc : Scope} {e : Expr} {ρ : Loc} {H : Hp} {r : V × Hp} {op : CmpOp} (q : evI C n sc e ρ H = some r) : behindInMarks op e = false := by
  cases e <;> first | rfl | skip
  cases n with
  | zero => exact nos q
  | succ n =>
    cases n with
    | zero => exact nos q
    | succ n => exact nos q

/-- what a chain of comparisons does, as a value and as a test -/
noncomputable def ChP (G : Gd) (A : Around) (E : Value → Shared → Prop) (s : Shared) (pos : Pos) (v : Value) (ops : List CmpOp) (l : List (Sem Value)) (Q : Bool → Shared → Prop) : Prop :=
  wpAny (model G.prog G.W) A (compareChain pos v ops l) (fun c s' => ∃ b, c = .bool b ∧ Q b s') E s ∧ wpAny (model G.prog G.W) A (testChain pos v ops l) Q E s
section
variable {A : Around} {E : Value → Shared → Prop} {s : Shared} {pos : Pos} {v : Value} {op : CmpOp} {x : Sem Value} {Q : Bool → Shared → Prop} {M : Model}
theorem chain_one (h : wpAny (model G.prog G.W) A x (fun w s => wpAny (model G.prog G.W) A (compareOp op v w) (fun c s => ∃ b, c = .bool b ∧ Q b s) E s) E s) : ChP G A E s pos v [op] [x] Q :=
  ⟨wpAny_bind (wpAny_holding (wpAny_mono h (fun _ _ h => wpAny_bind (wpAny_standAt (wpAny_operateT h))) fun _ _ z => z)),
    wpAny_bind (wpAny_holding (wpAny_mono h (fun _ _ h => wpAny_bind (wpAny_standAt (wpAny_bind (wpAny_operateT (wpAny_mono h (fun _ _ h => by
      obtain ⟨b, rfl, h⟩ := h
      exact wpAny_holding (wpAny_truthy_bool h)) fun _ _ z => z))))) fun _ _ z => z))⟩
theorem chain_more {op2 : CmpOp} {ops : List CmpOp} {y : Sem Value} {l : List (Sem Value)} (h : wpAny (model G.prog G.W) A x (fun w s => wpAny (model G.prog G.W) A (compareOp op v w) (fun c s => ∃ b, c = .bool b ∧ (b = false → Q b s) ∧ (b = true → ChP G A E s pos w (op2 :: ops) (y :: l) Q)) E s) E s) : ChP G A E s pos v (op :: op2 :: ops) (x :: y :: l) Q := by
  constructor
  · refine wpAny_bind (wpAny_holding (wpAny_mono h (fun _ _ h => wpAny_bind (wpAny_standAt (wpAny_bind (wpAny_holding (wpAny_mono h (fun _ _ h => ?_) fun _ _ z => z))))) fun _ _ z => z))
    obtain ⟨b, rfl, h1, h2⟩ := h
    refine wpAny_bind (wpAny_release (wpAny_bind (wpAny_holding (wpAny_truthy_bool ?_))))
    cases b with
    | false => exact wpAny_pure ⟨_, rfl, h1 rfl⟩
    | true => exact (h2 rfl).1
  · refine wpAny_bind (wpAny_holding (wpAny_mono h (fun _ _ h => wpAny_bind (wpAny_standAt (wpAny_bind (wpAny_holding (wpAny_mono h (fun _ _ h => ?_) fun _ _ z => z))))) fun _ _ z => z))
    obtain ⟨b, rfl, h1, h2⟩ := h
    refine wpAny_bind (wpAny_release (wpAny_bind (wpAny_holding (wpAny_truthy_bool ?_))))
    cases b with
    | false => exact wpAny_pure (h1 rfl)
    | true => exact (h2 rfl).2
end
theorem marked_more (op2 : CmpOp) (ops : List CmpOp) (e2 : Expr) (rs : List Expr) (env : Env) : ∃ t ts, markedEach (op2 :: ops) (e2 :: rs) (evalEach (e2 :: rs) env) = t :: ts := by
  cases ops with
  | nil => cases rs with
    | nil => exact ⟨_, _, rfl⟩
    | cons _ _ => exact ⟨_, _, rfl⟩
  | cons _ _ => exact ⟨_, _, rfl⟩
theorem evC_ok (ih : Sall G C k n) : SEvC G C k (n + 1) := by
  intro sc a ops rs ρ H H' r q A E s α β env pos v Q R X F V0 f
  show ChP G A E s pos v ops _ Q
  cases ops with
  | nil => exact nos q
  | cons op ops =>
    cases rs with
    | nil => exact nos q
    | cons e rs =>
      cases ops with
      | nil =>
        cases rs with
        | cons e2 rs =>
          rw [eC_many] at q
          exact bndE q fun x q1 q => bndE q fun t q2 q => nos q
        | nil =>
          rw [eC_one] at q
          refine bndE q fun x q1 q => mpd q fun c q2 e1 => ?_
          cases e1
          rw [show markedEach [op] [e] (evalEach [e] env) = [markedBehindIn op e (eval e env)] from rfl, markedBehindIn_of_false (evI_noSet q1)]
          exact chain_one (ih.evI q1 R X F fun w α1 s1 g1 X1 V1 => cmpop_ok R X1 (V0.mv g1.toMv) V1 q2 fun tk => ⟨_, rfl, f _ _ (g1.trans Go.toks) X1⟩)
      | cons op2 ops =>
        cases rs with
        | nil =>
          rw [eC_few] at q
          exact bndE q fun x q1 q => bndE q fun t q2 q => nos q
        | cons e2 rs =>
          rw [eC_more] at q
          refine bndE q fun x q1 q => bndE q fun c q2 q => ?_
          obtain ⟨t, ts, hm2⟩ := marked_more op2 ops e2 rs env
          rw [show markedEach (op :: op2 :: ops) (e :: e2 :: rs) (evalEach (e :: e2 :: rs) env) = eval e env :: markedEach (op2 :: ops) (e2 :: rs) (evalEach (e2 :: rs) env) from rfl, hm2]
          refine chain_more (ih.evI q1 R X F fun w α1 s1 g1 X1 V1 => cmpop_ok R X1 (V0.mv g1.toMv) V1 q2 fun tk => ⟨_, rfl, fun e => ?_, fun e => ?_⟩)
          · rw [e] at q
            cases q
            exact e ▸ f _ _ (g1.trans Go.toks) X1
          · rw [e] at q
            rw [← hm2]
            exact ih.evC q R (s := { s1 with toks := tk }) X1 (F.mv X g1.toMv) V1 (f.from (g1.trans Go.toks))

/-- a test that is just a value, told whether it is true -/
noncomputable def isTV (e : Expr) (whole : Sem Value) : Sem Bool := do
  let v ← whole
  standAt e.pos
  holding [v] (truthy v)
theorem isTV_ok (ih : Sall G C k n) {sc : Scope} {e : Expr} {ρ : Loc} {H H' : Hp} {r : Bool} (q : tstV (ev C n sc e ρ H) = some (r, H')) {A : Around} {E : Value → Shared → Prop} {s : Shared} {α β : List Addr} {env : Env} {Q : Bool → Shared → Prop} (R : Rm A k) (X : St G.W G.Cl G.B s.heap α β H) (F : Fm G s.heap α β sc env ρ)
    (f : FinB G α β s H' r Q) : wpAny (model G.prog G.W) A (isTV e (eval e env)) Q E s := by
  refine bndE q fun x q1 q => mpd q fun b q2 e1 => ?_
  cases e1
  exact wpAny_bind (ih.ev q1 R X F fun v α1 s1 g1 X1 V1 => wpAny_bind (wpAny_standAt (wpAny_holding (truth_ok V1 q2 (f _ _ g1 X1)))))
theorem evT_ok (ih : Sall G C k n) : SEvT G C k (n + 1) := by
  intro sc e ρ H H' r q A E s α β env Q R X F f
  cases e
  case UnaryOp op x p =>
    cases op
    case Not =>
      rw [eT_not] at q
      refine mpd q fun x q2 e1 => ?_
      cases e1
      exact wpAny_isTrue_Not (ih.evT q2 R X F fun α1 s1 g1 X1 => f _ _ g1 X1)
    all_goals exact isTV_ok ih q R X F f
  case BoolOp op es p => exact ih.evTs q R X F f
  case IfExp t a b p =>
    rw [eT_ite] at q
    refine bndE q fun x q1 q => wpAny_bind (ih.evT q1 R X F fun α1 s1 g1 X1 => ?_)
    obtain ⟨c, H1⟩ := x
    cases c with
    | true => exact ih.evT q R X1 (F.mv X g1.toMv) (f.from g1)
    | false => exact ih.evT q R X1 (F.mv X g1.toMv) (f.from g1)
  case Compare l ops rs p =>
    rw [eT_cmp] at q
    exact bndE q fun x q1 q => wpAny_bind (ih.evI q1 R X F fun v α1 s1 g1 X1 V1 => (ih.evC q R X1 (F.mv X g1.toMv) V1 (f.from g1)).2)
  all_goals exact isTV_ok ih q R X F f

theorem evTs_ok (ih : Sall G C k n) : SEvTs G C k (n + 1) := by
  intro sc op es ρ H H' r q A E s α β env Q R X F f
  cases es with
  | nil =>
    cases op <;> (cases q; exact wpAny_pure (f _ _ (Go.refl _ _) X))
  | cons e es =>
    cases op with
    | And =>
      rw [eTs_and] at q
      refine bndE q fun x q1 q => wpAny_bind (ih.evT q1 R X F fun α1 s1 g1 X1 => ?_)
      obtain ⟨c, H1⟩ := x
      cases c with
      | false => cases q; exact wpAny_pure (f _ _ g1 X1)
      | true => exact ih.evTs q R X1 (F.mv X g1.toMv) (f.from g1)
    | Or =>
      rw [eTs_or] at q
      refine bndE q fun x q1 q => wpAny_bind (ih.evT q1 R X F fun α1 s1 g1 X1 => ?_)
      obtain ⟨c, H1⟩ := x
      cases c with
      | true => cases q; exact wpAny_pure (f _ _ g1 X1)
      | false => exact ih.evTs q R X1 (F.mv X g1.toMv) (f.from g1)
end
end Mine
end
section
open PySem PySem.W PyProof.Rows
namespace Mine
section
variable {G : Gd} {C : Cx} {k n : Nat} {sc : Scope} {ρ : Loc} {H H' : Hp} {A : Around} {E : Value → Shared → Prop} {s : Shared} {α β : List Addr} {env : Env}

theorem size_none (h : Heap) : h.get? h.objs.size = none := by
  cases e : h.get? h.objs.size with
  | none => rfl
  | some o => exact absurd (Heap.lt_size e) (Nat.lt_irrefl _)
theorem Mv.add {h : Heap} {α : List Addr} (ob : Obj) : Mv α h (α ++ [h.objs.size]) (h.push ob) :=
  ⟨fun b o e _ => push_keep ob b o e, fun b o e => ⟨o, push_keep ob b o e⟩, [h.objs.size], rfl, fun a z => by rw [List.mem_singleton.mp z]; exact size_none h⟩
/-- a new own object -/
theorem St.add {Wd : World} {Cl : Addr} {B h : Heap} {α β : List Addr} {H : Hp} {ob : Obj} {o : AO} (x : St Wd Cl B h α β H) (hg : (h.push ob).get? h.objs.size = some ob) (hr : OR Wd Cl (h.push ob) (α ++ [h.objs.size]) β ob o) :
    St Wd Cl B (h.push ob) (α ++ [h.objs.size]) β (H ++ [o]) := by
  have sN := size_none h
  have g : Mv α h (α ++ [h.objs.size]) (h.push ob) := Mv.add ob
  have lt : ∀ a ∈ α, a ≠ h.objs.size := fun a ha z => by
    obtain ⟨o, e⟩ := x.toHl.alloc ha
    rw [z, sN] at e; first | exact Mine.nos e | exact Mine.ff0 e | exact Mine.tf0 e | exact Mine.sn0 e | cases e
  refine ⟨⟨by simp [x.len], ?_, fun i o' e => ?_⟩, fun b o' e => ?_, fun a ha => ?_⟩
  · rw [List.nodup_append]
    exact ⟨x.nd, by simp, fun a ha b hb => by rw [List.mem_singleton.mp hb]; exact lt a ha⟩
  · rw [List.getElem?_append] at e
    split at e
    · obtain ⟨a, ob', e1, e2, e3⟩ := x.at_ i o' e
      exact ⟨a, ob', g.get e1, push_keep _ _ _ e2, e3.mv g⟩
    · rename_i hi
      have hi' : i - H.length = 0 := by
        have := (List.getElem?_eq_some_iff.mp e).1
        simp at this; exact this
      rw [hi'] at e
      cases e
      have : i = α.length := by have := x.len; (first | lia | omega)
      exact ⟨_, ob, by rw [this]; simp, hg, hr⟩
  · refine ⟨push_keep _ _ _ (x.base b o' e).1, fun z => ?_⟩
    rcases List.mem_append.mp z with z | z
    · exact (x.base b o' e).2 z
    · have := (x.base b o' e).1
      rw [List.mem_singleton.mp z, sN] at this; first | exact Mine.nos this | exact Mine.ff0 this | exact Mine.tf0 this | exact Mine.sn0 this | cases this
  · obtain ⟨⟨o', e⟩, r1, r2⟩ := x.out a ha
    refine ⟨⟨o', push_keep _ _ _ e⟩, fun z => ?_, r2⟩
    rcases List.mem_append.mp z with z | z
    · exact r1 z
    · rw [List.mem_singleton.mp z, sN] at e; first | exact Mine.nos e | exact Mine.ff0 e | exact Mine.tf0 e | exact Mine.sn0 e | cases e

theorem attrBase {o : Expr} {a : Str} {t : Sem Value} (h : baseOk o = true) : attributeBase o a env t = t := by
  cases o with
  | Call f as ks p =>
    cases f with
    | Name x q =>
      cases as with
      | nil =>
        cases ks with
        | nil => first | exact Mine.nos h | exact Mine.ff0 h | exact Mine.tf0 h | exact Mine.sn0 h | cases h
        | cons _ _ => rfl
      | cons _ _ => rfl
    | _ => rfl
  | _ => rfl

theorem vr_handed {h : Heap} {v : Value} {d : V} (x : VR G.W G.Cl h α β v d) : handedIn v = true := by cases x <;> rfl

theorem const_ok {c : Const} {kk : Nat} {pos : Pos} {d : V} {Q : Value → Shared → Prop} (X : St G.W G.Cl G.B s.heap α β H)
    (q : (match c with
      | .none => some (V.none, H)
      | .bool b => some (.bool b, H)
      | .int i => some (.int i, H)
      | .str x => match szOk (cps x).length with | true => some (.str (cps x), H) | false => none
      | _ => none) = some (d, H')) (f : FinV G.W G.Cl G.B α β s H' d Q) : wpAny (model G.prog G.W) A (eval (.Constant c kk pos) env) Q E s := by
  split at q
  · cases q; exact wpAny_pure (f.same X .none)
  · cases q; exact wpAny_pure (f.same X (.bool _))
  · cases q; exact wpAny_Constant_int (f.toks X _ (.int _ _))
  · split at q
    · rename_i hz
      cases q; exact Calls.Constant_str (f.toks X _ (.str rfl (szOk_le hz)))
    · first | exact Mine.nos q | exact Mine.ff0 q | exact Mine.tf0 q | exact Mine.sn0 q | cases q
  · first | exact Mine.nos q | exact Mine.ff0 q | exact Mine.tf0 q | exact Mine.sn0 q | cases q

theorem tuple_ok (ih : Sall G C k n) {es : List Expr} {kk : Nat} {pos : Pos} {r : List V} {Q : Value → Shared → Prop} (R : Rm A k) (X : St G.W G.Cl G.B s.heap α β H) (F : Fm G s.heap α β sc env ρ) (hz : szOk es.length = true)
    (q : evs C n sc es ρ H = some (r, H')) (f : FinV G.W G.Cl G.B α β s H' (.tup r) Q) : wpAny (model G.prog G.W) A (eval (.Tuple es kk pos) env) Q E s := by
  obtain ⟨a1, a2, a3⟩ := ih.evs q
  refine Tuple_ (a3 R X F fun vs α1 s1 g1 X1 V1 => ?_)
  have hl := V1.length
  have hz := szOk_le hz
  refine wpAny_newTuple ?_ (by rw [sizeLine_eq]; (first | lia | omega))
  have k1 := push_keep (h := s1.heap) { cls := .type "tuple", data := .seq vs.toArray }
  exact (f.from g1) _ _ _ (Go.heap (tk := s1.toks) (Mv.of_keep k1)) (X1.mv k1) (.tup (Heap.get?_push_size _ rfl) X1.offA X1.offB rfl rfl (V1.mv (Mv.of_keep k1)))

theorem list_ok (ih : Sall G C k n) {es : List Expr} {pos : Pos} {r : List V} {Q : Value → Shared → Prop} (R : Rm A k) (X : St G.W G.Cl G.B s.heap α β H) (F : Fm G s.heap α β sc env ρ) (hz : szOk es.length = true)
    (q : evs C n sc es ρ H = some (r, H')) (f : FinV G.W G.Cl G.B α β s (H' ++ [.list r]) (.ref H'.length) Q) : wpAny (model G.prog G.W) A (eval (.List es pos) env) Q E s := by
  obtain ⟨a1, a2, a3⟩ := ih.evs q
  refine List_ (a3 R X F fun vs α1 s1 g1 X1 V1 => ?_)
  have hl := V1.length
  have hz := szOk_le hz
  refine wpAny_newList ?_ (by rw [sizeLine_eq]; (first | lia | omega))
  have gA : Mv α1 s1.heap (α1 ++ [s1.heap.objs.size]) (s1.heap.push { cls := .type "list", data := .seq vs.toArray }) := Mv.add _
  refine (f.from g1) _ _ _ (Go.heap (tk := s1.toks) gA) (X1.add (Heap.get?_push_size _ rfl) (.list rfl rfl rfl (V1.mv gA) (by (first | lia | omega)))) (.ref ?_)
  rw [← X1.len]; simp

theorem instAt {h : Heap} {i : Nat} {fs : List (Str × V)} {v : Value} (X : St G.W G.Cl G.B h α β H) (V0 : VR G.W G.Cl h α β v (.obj i)) (q : H[i]? = some (.inst fs)) :
    ∃ a d es m, v = .ref a ∧ α[i]? = some d ∧ h.get? d = some (dictOf es m) ∧ W.InstAt h a (instObj G.Cl d) G.Cl (some (dictOf es m)) ∧ OR G.W G.Cl h α β (dictOf es m) (.inst fs) := by
  cases V0 using Mine.VR.objE with
  | obj h1 h2 h3 h4 =>
    obtain ⟨d, ob, e1, e2, e3⟩ := X.at_ _ _ q
    cases h4.symm.trans e1
    cases e3 with
    | inst c1 c2 c3 c4 => exact ⟨_, _, _, _, rfl, e1, e2, ⟨h1, rfl, rfl, e2⟩, .inst c1 c2 c3 c4⟩

theorem attr_ok (N : En G) (ih : Sall G C k n) {o : Expr} {a : Str} {pos : Pos} {i : Nat} {fs : List (Str × V)} {d : V} {Q : Value → Shared → Prop} (R : Rm A k) (X : St G.W G.Cl G.B s.heap α β H) (F : Fm G s.heap α β sc env ρ)
    (hb : baseOk o = true) (ha : G.P.attr a = true) (q : ev C n sc o ρ H = some (.obj i, H')) (q1 : H'[i]? = some (.inst fs)) (q2 : lk a fs = some d) (f : FinV G.W G.Cl G.B α β s H' d Q) :
    wpAny (model G.prog G.W) A (eval (.Attribute o a pos) env) Q E s := by
  refine Attribute_any_ (ih.ev q R X F fun v α1 s1 g1 X1 V1 => ?_) (by
    show (do
      let ov ← attributeBase o a env (eval o env)
      standAt pos.atName
      let r ← holding [ov] (getAttr ov a true)
      letTemporaryGo o ov r
      pure r) = _
    rw [attrBase hb])
  obtain ⟨x, dd, es, m, rfl, e1, e2, I, O⟩ := instAt X1 V1 q1
  cases O with
  | inst c1 c2 c3 c4 =>
    obtain ⟨w, e3, e4⟩ := c2 a d q2
    obtain ⟨⟨r, b1, b2⟩, _⟩ := N.attr a ha
    exact get_value (X1.kin N) I (plainGet_of N.plain).1 (findObj_own N.hasD b1 b2 e3) (vr_handed e4) ((f.from g1).toks X1 _ e4)

/-- a plain list of arguments, read -/
theorem evs_star {e : Expr} {es : List Expr} {r : List V × Hp} (q : evs C n sc (e :: es) ρ H = some r) : isStar e = false := by
  cases n with
  | zero => exact nos q
  | succ n =>
    cases h : isStar e with
    | false => rfl
    | true => rw [e_cons0, h] at q; exact nos q
theorem args_ok (ih : Sall G C k n) {es : List Expr} {pos : Pos} {r : List V} {fv : Value} {Q : Args → Shared → Prop} (R : Rm A k) (X : St G.W G.Cl G.B s.heap α β H) (F : Fm G s.heap α β sc env ρ)
    (q : evs C n sc es ρ H = some (r, H')) (f : FinL G α β s H' r fun vs s' => Q ⟨vs, []⟩ s') : wpAny (model G.prog G.W) A (evalArgs fv true (backTo pos (starEach es env)) []) Q E s := by
  cases es with
  | nil =>
    cases n with
    | zero => exact nos q
    | succ n =>
      have e := Prod.mk.inj (Option.some.inj q)
      exact evalArgs_nil3 (f _ _ _ (Go.refl _ _) (e.2 ▸ X) (e.1 ▸ .nil))
  | cons e es =>
    have a5 := (ih.evs q).2.2 (pos := pos) (E := E) R X F f
    rw [star_of (evs_star q)] at a5 ⊢
    exact Calls.evalArgs_plain a5

theorem callWith_ok (N : En G) (ih : Sall G C k n) {es : List Expr} {pos : Pos} {r : List V} {fv : Value} {first : List Value} {Q : Value → Shared → Prop} (R : Rm A k) (X : St G.W G.Cl G.B s.heap α β H) (F : Fm G s.heap α β sc env ρ)
    (hk : keepIn G.K fv = true) (q : evs C n sc es ρ H = some (r, H')) (f : FinL G α β s H' r fun vs s' => wpAny (model G.prog G.W) A (call fv (first ++ vs)) Q E s') : wpAny (model G.prog G.W) A (callWith pos fv first (backTo pos (starEach es env)) []) Q E s := by
  refine callWith_of (P := fun h => G.K.In h) ?_ (keeps_K hk) (args_ok ih R X F q fun vs α1 s1 g1 X1 V1 => ⟨X1.kin N, f _ _ _ g1 X1 V1⟩)
  rw [((ih.evs q).1 env pos).2]; rfl
end
end Mine
end
section
open PySem PySem.W PyProof.Rows
namespace Mine
section
variable {G : Gd} {C : Cx} {k n : Nat} {sc : Scope} {ρ : Loc} {H H' : Hp} {A : Around} {E : Value → Shared → Prop} {s : Shared} {α β : List Addr} {env : Env}

theorem bnd_some {n : Nat} {i : Int} {d : Option Nat} {x : Nat} (e : bnd n (some i) d = some x) : 0 ≤ i ∧ x = min i.toNat n := by
  unfold bnd at e
  dsimp only at e
  split at e
  · rename_i h1 h2
    cases e
    exact ⟨of_decide_eq_true h1, rfl⟩
  · first | exact Mine.nos e | exact Mine.ff0 e | exact Mine.tf0 e | exact Mine.sn0 e | cases e
theorem clip_ok {n i : Nat} : max (0 : Int) (min (i : Int) (n : Int)) = ((min i n : Nat) : Int) := by (first | lia | omega)
theorem slice_ix {lo hi : Option Int} {n x y : Nat} (hx : bnd n lo (some 0) = some x) (hy : bnd n hi (some n) = some y) : Builtin.Str.strSliceIndices lo hi 1 n = (List.range (y - x)).map (x + ·) ∧ y ≤ n := by
  have ix : ∀ {v : Option Int} {d z : Nat}, bnd n v (some d) = some z → (match v with | none => (d : Int) | some i => max 0 (min (if i < 0 then i + n else i) n)) = (z : Int) := fun {v d z} h => by
    cases v with
    | none => exact congrArg _ (Option.some.inj h)
    | some i =>
      obtain ⟨h0, e⟩ := bnd_some h
      obtain ⟨j, rfl⟩ := Int.eq_ofNat_of_zero_le h0
      dsimp only
      rw [if_neg (Int.not_lt.mpr h0), clip_ok, e]
      rfl
  refine ⟨?_, ?_⟩
  · rw [← sliceRange_one, ← ix hx, ← ix hy]
    cases lo <;> cases hi <;> rfl
  · cases hi with
    | none => exact Nat.le_of_eq (Option.some.inj hy).symm
    | some j => rw [(bnd_some hy).2]; exact Nat.min_le_right _ _

theorem part_of {v : Value} {r : Option Int} (h : partVal v r) : ∃ l : Option (Int × Tok), v = partValue l ∧ l.map (·.1) = r := by
  cases r with
  | none => exact ⟨none, h, rfl⟩
  | some i => obtain ⟨t, rfl⟩ := h; exact ⟨some (i, t), rfl, rfl⟩

theorem slice_text {xs : Str} {L U : Option (Int × Tok)} {x y : Nat} (hy : y ≤ (cps xs).length) (hp : slicePicked xs L U none = (List.range (y - x)).map (x + ·)) :
    cps (if (((Option.map (fun (x : Int × Tok) => x.fst) none).getD 1 == 1 && (slicePicked xs L U none).length == xs.length) = true) then xs else ⟨((slicePicked xs L U none).filterMap (xs.cps[·]?)).toArray⟩) = ((cps xs).take y).drop x := by
  split
  · rename_i hc
    have hc := beq_iff_eq.mp (Bool.and_eq_true_iff.mp hc).2
    rw [hp, List.length_map, List.length_range, cps_len] at hc
    have h2 : y = (cps xs).length := Nat.le_antisymm hy (hc ▸ Nat.sub_le ..)
    rw [h2, List.take_length]
    cases x with
    | zero => rfl
    | succ x =>
      have : (cps xs).length = 0 := by (first | lia | omega)
      rw [List.length_eq_zero_iff.mp this]; rfl
  · rw [hp, pick_run, List.drop_take]; rfl
theorem slice_strOk {value sl : Expr} {vl vu : Value} {xs : Str} {t : Tok} {lo hi : Option Int} {x y : Nat} {h : Heap} {ob : Nat} {Q : Value → Shared → Prop} (l1 : (cps xs).length ≤ 1000000) (hl : partVal vl lo) (hu : partVal vu hi) (hx : bnd (cps xs).length lo (some 0) = some x) (hy : bnd (cps xs).length hi (some (cps xs).length) = some y)
    (X1 : St G.W G.Cl G.B s.heap α β H) (ho : s.heap.get? ob = some { cls := .type "slice", data := .fields #[vl, vu, .none] }) (f : FinV G.W G.Cl G.B α β s H (.str (((cps xs).take y).drop x)) Q) : wpAny (model G.prog G.W) A (subscriptTail value sl (.str xs t) (.ref ob)) Q E s := by
  obtain ⟨ops, hs⟩ := sub_form sl (.str xs t) (.ref ob)
  obtain ⟨L, rfl, hL⟩ := part_of hl
  obtain ⟨U, rfl, hU⟩ := part_of hu
  have ix := slice_ix hx hy
  rw [← cps_len] at ix
  have hw := slice_text (xs := xs) (L := L) (U := U) (x := x) (cps_len xs ▸ ix.2) (by unfold slicePicked; rw [hL, hU]; exact ix.1)
  have hlen : (((cps xs).take y).drop x).length ≤ (cps xs).length := by
    rw [List.length_drop, List.length_take]
    exact Nat.le_trans (Nat.sub_le ..) (Nat.min_le_right ..)
  refine tail_any (typeIs_str _ xs t) PySem.F.slot_str_getitem.lookup (wpAny_getItem_str_slice (l := L) (u := U) (st := none) ⟨_, ho, rfl, rfl⟩ rfl ?_) hs
  refine post_val_or_str ⟨?_, fun t' kk => ?_⟩
  · rw [cps_len, hw, sizeLine_eq]; (first | lia | omega)
  · exact f.toks X1 _ (.str hw (Nat.le_trans hlen l1))
theorem slice_ok {value sl : Expr} {a vl vu : Value} {da r : V} {lo hi : Option Int} {Q : Value → Shared → Prop} (X : St G.W G.Cl G.B s.heap α β H) (ha : VR G.W G.Cl s.heap α β a da) (hl : partVal vl lo) (hu : partVal vu hi)
    (e : slice da lo hi = some r) (f : FinV G.W G.Cl G.B α β s H r Q) :
    wpAny (model G.prog G.W) A (subscriptTail value sl a (.ref s.heap.objs.size)) Q E { s with heap := s.heap.push { cls := .type "slice", data := .fields #[vl, vu, .none] } } := by
  have k1 := push_keep (h := s.heap) { cls := .type "slice", data := .fields #[vl, vu, .none] }
  have g1 : Go α s α { s with heap := s.heap.push { cls := .type "slice", data := .fields #[vl, vu, .none] } } := Go.heap (tk := s.toks) (Mv.of_keep k1)
  have X1 := X.mv k1
  cases da <;> first | exact nos e | skip
  · rename_i l
    cases ha using Mine.VR.strE with
    | str e1 l1 =>
    change (match bnd l.length lo (some 0), bnd l.length hi (some l.length) with | some x, some y => some (V.str ((l.take y).drop x)) | _, _ => none) = _ at e
    cases hx : bnd l.length lo (some 0) with
    | none => rw [hx] at e; exact nos e
    | some x =>
    cases hy : bnd l.length hi (some l.length) with
    | none => rw [hx, hy] at e; exact nos e
    | some y =>
    rw [hx, hy] at e
    subst e1
    exact slice_strOk (h := s.heap) l1 hl hu hx hy X1 (Heap.get?_push_size _ rfl) (Option.some.inj e ▸ f.from g1)
  · cases lo with
    | some _ => cases hi <;> exact nos e
    | none =>
    cases hi with
    | none => exact nos e
    | some i =>
    rename_i l
    change (match decide (0 ≤ i), szOk l.length with | true, true => some (V.lst (l.take i.toNat)) | _, _ => none) = _ at e
    cases h0 : decide (0 ≤ i) with
    | false => rw [h0] at e; exact nos e
    | true =>
    cases hz : szOk l.length with
    | false => rw [h0, hz] at e; exact nos e
    | true =>
    rw [h0, hz] at e
    have h0 := of_decide_eq_true h0
    have hz := szOk_le hz
    cases ha using Mine.VR.lstE with
    | lst q1 q2 q3 q4 q5 q6 =>
    rename_i aa ob vs m
    have hlen := q6.length
    have hl' : vl = .none := hl
    obtain ⟨t, rfl⟩ := hu
    subst hl'
    obtain ⟨ops, hs⟩ := sub_form sl (.ref aa) (.ref s.heap.objs.size)
    have hL : (s.heap.push { cls := .type "slice", data := .fields #[Value.none, .int i t, .none] }).IsList aa vs.toArray := ⟨_, k1 _ _ q1, q4, _, q5⟩
    refine tail_any hL.typeIs list_getitem_lookup (wpAny_getItem_list_slice hL (Heap.IsSliceOf.new ..) .none (.int i t) .none (by simp) ?_ (by rw [List.size_toArray, sizeLine_eq]; (first | lia | omega))) hs
    have hi' : ((i.toNat : Nat) : Int) = i := Int.toNat_of_nonneg h0
    have hsl : slicePick vs.toArray none (some i) none = (vs.take i.toNat).toArray := by
      rw [← hi', slicePick_upto']; simp; try (first | lia | omega)
    rw [hsl]
    have k2 := push_keep (h := s.heap.push { cls := .type "slice", data := .fields #[Value.none, .int i t, .none] }) { cls := .type "list", data := .seq (vs.take i.toNat).toArray }
    exact (Option.some.inj e ▸ f.from g1 : FinV G.W G.Cl G.B α β _ H (.lst (l.take i.toNat)) Q).grow X1 s.toks k2 (.lst (Heap.get?_push_size _ rfl) X1.offA X1.offB rfl rfl (((q6.take _).mv g1.toMv).mv (Mv.of_keep k2)))
end
end Mine
end
section
open PySem PySem.W PyProof.Rows
namespace Mine
section
variable {G : Gd} {C : Cx} {k n : Nat} {sc : Scope} {ρ : Loc} {H H' : Hp} {A : Around} {E : Value → Shared → Prop} {s : Shared} {α β : List Addr} {env : Env}

noncomputable def Kd (v : Value) : Prop := (∃ i, v = .builtin i) ∨ ∃ T, v = .type T
theorem kdB (i : String) : Kd (.builtin i) := .inl ⟨_, rfl⟩
theorem kdT (T : String) : Kd (.type T) := .inr ⟨_, rfl⟩
theorem kdC {c : Bool} {a b : Value} (x : Kd a) (y : Kd b) : Kd (bif c then a else b) := by
  cases c
  · exact y
  · exact x
theorem bval_kind (f : Str) : Kd (bval f) := kdC (kdB _) (kdC (kdT _) (kdC (kdB _) (kdC (kdT _) (kdC (kdB _) (kdC (kdB _) (kdC (kdB _) (kdC (kdT _) (kdB _))))))))

theorem nameCall_ok (En : En G) (cx : CxOk G k C) (ih : Sall G C k n) {f : Str} {args : List Expr} {p pos : Pos} {r : V} {vs : List V} {H1 : Hp} {Q : Value → Shared → Prop} (R : Rm A k) (X : St G.W G.Cl G.B s.heap α β H) (F : Fm G s.heap α β sc env ρ)
    (kg : kindIs sc f isGlob = true) (nd : leq (cps f) dbgN = false) (q : evs C n sc args ρ H = some (vs, H1))
    (q2 : (match C.blt f with
          | true => (builtin f H1 vs).map fun v => (v, H1)
          | false => C.call false f vs H1) = some (r, H')) (fin : FinV G.W G.Cl G.B α β s H' r Q) :
    wpAny (model G.prog G.W) A (eval (.Call (.Name f p) args [] pos) env) Q E s := by
  cases hb : C.blt f with
  | true =>
    rw [hb] at q2
    dsimp only at q2
    rw [Option.map_eq_some_iff] at q2
    obtain ⟨v, q2, e1⟩ := q2
    cases e1
    rw [cx.blt] at hb
    obtain ⟨b1, b2⟩ := En.blt f hb
    have go : wpAny (model G.prog G.W) A (evalArgs (bval f) true (backTo pos (starEach args env)) []) (fun a s₁ => wpAny (model G.prog G.W) A (call (bval f) ([] ++ a.pos) a.kw) Q E s₁) E s :=
      args_ok ih R X F q fun ws α1 s1 g1 X1 V1 => builtin_ok R X1 V1 q2 (fin.from g1)
    have hp := ((ih.evs q).1 env pos).2
    refine Call_ (name_blt En X F nd kg b1 b2 ?_) rfl
    rcases bval_kind f with ⟨i, e⟩ | ⟨T, e⟩
    · rw [e] at go ⊢; exact Calls.callWith_builtin hp go
    · rw [e] at go ⊢; exact PySem.callWith_type hp go
  | false =>
    rw [hb] at q2
    dsimp only at q2
    obtain ⟨c1, -, c3⟩ := cx.call q2
    have hfv : ∃ fv, G.mg f = some fv ∧ keepIn G.K fv = true := by
      cases hc : G.P.cls f with
      | true => exact ⟨_, En.cls f hc, En.keepC⟩
      | false =>
        rcases c1 rfl with h | ⟨d, h⟩
        · rw [hc] at h; first | exact Mine.nos h | exact Mine.ff0 h | exact Mine.tf0 h | exact Mine.sn0 h | cases h
        · obtain ⟨v, h1, h2, _⟩ := En.fn f d h hc
          exact ⟨v, h1, h2⟩
    obtain ⟨fv, h1, h2⟩ := hfv
    refine Call_ (name_glob En X F nd kg h1 (callWith_ok En ih R X F h2 q fun ws α1 s1 g1 X1 V1 => ?_)) rfl
    exact c3 R X1 V1 (fun _ => h1) (fun h => nomatch h) (fin.from g1)

theorem few_of {args : List Expr} {pos : Pos} (h1 : (backTo pos (starEach args env)).any (·.1) = false) (h2 : args.length ≤ 3) : methodCallForm (args.length + ([] : List Keyword).length) (backTo pos (starEach args env)) (backToKw pos (keywordEach [] env)) = true := by
  unfold methodCallForm
  have : (backTo pos (starEach args env)).all (fun x => !x.1) = true := by
    rw [List.all_eq_not_any_not]
    simp only [Bool.not_not]
    rw [h1]; rfl
  rw [this]
  have hk : backToKw pos (keywordEach [] env) = [] := rfl
  rw [hk]
  simp
  (first | lia | omega)

/-- a method's call, by the method's form -/
theorem methForm {o : Expr} {m : Str} {apos pos : Pos} {args : List Expr} {Q : Value → Shared → Prop} (hb : baseOk o = true) (hline : Nat.beq apos.endLine pos.line = true) (hp : (backTo pos (starEach args env)).any (·.1) = false) (hl : args.length ≤ 3)
    (h : wpAny (model G.prog G.W) A (eval o env) (fun ov s₁ => ∀ pl, wpAny (model G.prog G.W) A (getMethod ov m pl) (fun fv s₂ => wpAny (model G.prog G.W) A (callWith pos fv.1 fv.2 (backTo pos (starEach args env)) []) Q E s₂) E s₁) E s) :
    wpAny (model G.prog G.W) A (eval (.Call (.Attribute o m apos) args [] pos) env) Q E s := by
  rw [arm_eval_Call, attrBase hb]
  refine wpAny_bind (wpAny_mono h (fun ov s₁ h₁ => wpAny_bind (wpAny_standAt ?_)) fun _ _ e => e)
  unfold methodCall
  rw [few_of hp hl]
  have hpos : methodCallPos true o env apos pos = pure pos := by
    unfold methodCallPos
    have : (apos.endLine == pos.line) = true := by rw [Nat.beq_eq] at hline; exact beq_iff_eq.mpr hline
    simp [this]
  refine wpAny_bind (wpAny_holding ?_)
  unfold calleeOf
  rw [if_pos rfl]
  refine wpAny_mono (h₁ _) (fun fv s₂ h₂ => ?_) fun _ _ e => e
  obtain ⟨fv, first⟩ := fv
  exact wpAny_bind (wpAny_of_eq hpos h₂)

theorem mstr_ok (ih : Sall G C k n) {o : Expr} {m : Str} {args : List Expr} {apos pos : Pos} {r : V} {H0 : Hp} {Q : Value → Shared → Prop} (R : Rm A k) (X : St G.W G.Cl G.B s.heap α β H) (F : Fm G s.heap α β sc env ρ)
    (hb : baseOk o = true) (hline : Nat.beq apos.endLine pos.line = true) (hl3 : args.length ≤ 3) {l : List Nat} (q0 : ev C n sc o ρ H = some (.str l, H0)) {x : List V × Hp} (q1 : evs C n sc args ρ H0 = some x) (q2 : strMeth m x.2 l x.1 = some r) (e : x.2 = H') (fin : FinV G.W G.Cl G.B α β s H' r Q) : wpAny (model G.prog G.W) A (eval (.Call (.Attribute o m apos) args [] pos) env) Q E s := by
  obtain ⟨vs, H1⟩ := x
  have hp := ((ih.evs q1).1 env pos).2
  refine methForm hb hline hp hl3 (ih.ev q0 R X F fun w α1 s1 g1 X1 V1 pl => ?_)
  cases V1 using Mine.VR.strE with
  | str e1 l1 =>
  rw [← e1] at q2
  obtain ⟨id, c1, c2, c3⟩ := strMeth_ok (prog := G.prog) (Wd := G.W) (Cl := G.Cl) (B := G.B) q2
  exact getMethod_builtin (typeIs_str _ _ _) PySem.F.plainAttrs_str c1 c2 (fun a z => nomatch z) (Calls.callWith_builtin hp (args_ok ih R X1 (F.mv X g1.toMv) q1 fun ws α2 s2 g2 X2 V2 => c3 X2 (e1 ▸ l1) V2 (e ▸ (fin.from g1).from g2)))
theorem mref_ok (ih : Sall G C k n) {o : Expr} {m : Str} {args : List Expr} {apos pos : Pos} {r : V} {H0 : Hp} {Q : Value → Shared → Prop} (R : Rm A k) (X : St G.W G.Cl G.B s.heap α β H) (F : Fm G s.heap α β sc env ρ)
    (hb : baseOk o = true) (hline : Nat.beq apos.endLine pos.line = true) (hl3 : args.length ≤ 3) {i : Nat} {xs0 xs : List V} (q0 : ev C n sc o ρ H = some (.ref i, H0)) (q00 : H0[i]? = some (.list xs0)) {x : List V × Hp} (q1 : evs C n sc args ρ H0 = some x) (q2 : x.2[i]? = some (.list xs)) (q : listMeth m x.2 i xs x.1 = some (r, H')) (fin : FinV G.W G.Cl G.B α β s H' r Q) : wpAny (model G.prog G.W) A (eval (.Call (.Attribute o m apos) args [] pos) env) Q E s := by
  obtain ⟨vs, H1⟩ := x
  have hp := ((ih.evs q1).1 env pos).2
  refine methForm hb hline hp hl3 (ih.ev q0 R X F fun w α1 s1 g1 X1 V1 pl => ?_)
  cases V1 using Mine.VR.refE with
  | ref e1 =>
  obtain ⟨a', ob, f1, f2, f3⟩ := X1.at_ _ _ q00
  have ea := Option.some.inj (e1.symm.trans f1)
  rw [← ea] at f2
  obtain ⟨id, c1, c2, c3⟩ := listMeth_ok (prog := G.prog) (Wd := G.W) (Cl := G.Cl) (B := G.B) q2 q
  cases f3 with
  | list d1 d0 d2 d3 d4 =>
  have hL : s1.heap.IsList _ _ := ⟨_, f2, d1, _, d2⟩
  exact getMethod_builtin hL.typeIs PySem.F.plainAttrs_list c1 c2 (fun a z => by cases z; exact ⟨_, f2, d0⟩) (Calls.callWith_builtin hp (args_ok ih R X1 (F.mv X g1.toMv) q1 fun ws α2 s2 g2 X2 V2 => c3 X2 (g2.get e1) V2 ((fin.from g1).from g2)))
theorem mobj_ok (En : En G) (cx : CxOk G k C) (ih : Sall G C k n) {o : Expr} {m : Str} {args : List Expr} {apos pos : Pos} {r : V} {H0 : Hp} {Q : Value → Shared → Prop} (R : Rm A k) (X : St G.W G.Cl G.B s.heap α β H) (F : Fm G s.heap α β sc env ρ)
    (hb : baseOk o = true) (hline : Nat.beq apos.endLine pos.line = true) (hl3 : args.length ≤ 3) {i : Nat} {fs : List (Str × V)} (q0 : ev C n sc o ρ H = some (.obj i, H0)) (q00 : H0[i]? = some (.inst fs)) (q3 : lk m fs = none) {x : List V × Hp} (q1 : evs C n sc args ρ H0 = some x) (q : C.call true m (.obj i :: x.1) x.2 = some (r, H')) (fin : FinV G.W G.Cl G.B α β s H' r Q) : wpAny (model G.prog G.W) A (eval (.Call (.Attribute o m apos) args [] pos) env) Q E s := by
  obtain ⟨vs, H1⟩ := x
  refine methForm hb hline ((ih.evs q1).1 env pos).2 hl3 (ih.ev q0 R X F fun w α1 s1 g1 X1 V1 pl => ?_)
  obtain ⟨-, c2, c3⟩ := cx.call q
  obtain ⟨d, hd⟩ := c2 rfl
  obtain ⟨fa, m1, m2, m3, m4⟩ := En.meth m d hd
  obtain ⟨x, dd, es, mm, rfl, e1, e2, I, O⟩ := instAt X1 V1 q00
  cases O with
  | inst o1 o2 o3 o4 =>
  exact method_fn (X1.kin En) I (plainGet_of En.plain).1 (plainGet_of En.plain).2 m1 (beq_iff_eq.mp m2) (by show (lookIn m (dictOf es mm)).map _ = _; rw [lookIn_dict, o3 m q3]; rfl)
    (callWith_ok En ih R X1 (F.mv X g1.toMv) m3 q1 fun ws α2 s2 g2 X2 V2 => c3 R X2 (.cons (V1.mv g2.toMv) V2) (fun z => nomatch z) (fun _ => m1) ((fin.from g1).from g2))
inductive MetI (ar : Hp → Option (List V × Hp)) (sm : Hp → List Nat → List V → Option V) (lm : Hp → Nat → List V → List V → Option (V × Hp)) (cl : List V → Hp → Option (V × Hp)) (m : Str) (H0 : Hp) (r : V) (H' : Hp) : V → Prop
  | str (l : List Nat) (x : List V × Hp) (q1 : ar H0 = some x) (q2 : sm x.2 l x.1 = some r) (e : x.2 = H') : MetI ar sm lm cl m H0 r H' (.str l)
  | ref (i : Nat) (xs0 xs : List V) (x : List V × Hp) (q0 : H0[i]? = some (.list xs0)) (q1 : ar H0 = some x) (q2 : x.2[i]? = some (.list xs)) (q : lm x.2 i xs x.1 = some (r, H')) : MetI ar sm lm cl m H0 r H' (.ref i)
  | obj (i : Nat) (fs : List (Str × V)) (x : List V × Hp) (q0 : H0[i]? = some (.inst fs)) (q3 : lk m fs = none) (q1 : ar H0 = some x) (q : cl (.obj i :: x.1) x.2 = some (r, H')) : MetI ar sm lm cl m H0 r H' (.obj i)
theorem methK_inv {ar : Hp → Option (List V × Hp)} {sm : Hp → List Nat → List V → Option V} {lm : Hp → Nat → List V → List V → Option (V × Hp)} {cl : List V → Hp → Option (V × Hp)} {m : Str} {y : V × Hp} {r : V} {H' : Hp} (q : methK ar sm lm cl m y = some (r, H')) : MetI ar sm lm cl m y.2 r H' y.1 := by
  obtain ⟨v, H0⟩ := y
  cases v <;> first | exact nos q | skip
  · exact bndE q fun x q1 q => mpd q fun v q2 e => by
      have e := Prod.mk.inj e
      exact .str _ x q1 (e.1 ▸ q2) e.2
  · rename_i i
    change (match H0[i]? with | some (.list _) => (ar H0).bind fun a => (match a.2[i]? with | some (.list xs) => lm a.2 i xs a.1 | _ => none) | _ => none) = _ at q
    cases e0 : H0[i]? with
    | none => rw [e0] at q; exact nos q
    | some o0 =>
    rw [e0] at q
    cases o0 with
    | inst => exact nos q
    | list xs0 =>
    refine bndE q fun x q1 q => ?_
    cases e1 : x.2[i]? with
    | none => rw [e1] at q; exact nos q
    | some o1 =>
    rw [e1] at q
    cases o1 with
    | inst => exact nos q
    | list xs => exact .ref i xs0 xs x e0 q1 e1 q
  · rename_i i
    change (match H0[i]? with | some (.inst fs) => (match lk m fs with | none => (ar H0).bind fun a => cl (.obj i :: a.1) a.2 | some _ => none) | _ => none) = _ at q
    cases e0 : H0[i]? with
    | none => rw [e0] at q; exact nos q
    | some o0 =>
    rw [e0] at q
    cases o0 with
    | list => exact nos q
    | inst fs =>
    dsimp only at q
    cases e1 : lk m fs with
    | some v => rw [e1] at q; exact nos q
    | none => rw [e1] at q; exact bndE q fun x q1 q => .obj i fs x e0 e1 q1 q
theorem methCall_ok (En : En G) (cx : CxOk G k C) (ih : Sall G C k n) {o : Expr} {m : Str} {args : List Expr} {apos pos : Pos} {r : V} {Q : Value → Shared → Prop} (R : Rm A k) (X : St G.W G.Cl G.B s.heap α β H) (F : Fm G s.heap α β sc env ρ)
    (hg : (Nat.beq apos.endLine pos.line && Nat.ble args.length 3 && baseOk o) = true)
    (q : (ev C n sc o ρ H).bind (methK (evs C n sc args ρ) (strMeth m) (listMeth m) (fun vs H => C.call true m vs H) m) = some (r, H')) (fin : FinV G.W G.Cl G.B α β s H' r Q) : wpAny (model G.prog G.W) A (eval (.Call (.Attribute o m apos) args [] pos) env) Q E s := by
  rw [Bool.and_eq_true, Bool.and_eq_true] at hg
  have hl3 := Nat.le_of_ble_eq_true hg.1.2
  refine bndE q fun y q0 q => ?_
  have z := methK_inv q
  obtain ⟨v, H0⟩ := y
  cases z with
  | str l x q1 q2 e => exact mstr_ok ih R X F hg.2 hg.1.1 hl3 q0 q1 q2 e fin
  | ref i xs0 xs x q00 q1 q2 q3 => exact mref_ok ih R X F hg.2 hg.1.1 hl3 q0 q00 q1 q2 q3 fin
  | obj i fs x q00 q3 q1 q4 => exact mobj_ok En cx ih R X F hg.2 hg.1.1 hl3 q0 q00 q3 q1 q4 fin
end
end Mine
end
section
open PySem PySem.W PyProof.Rows
namespace Mine
section
variable {Wd : World} {Cl : Addr}
theorem VR.gen {h h' : Heap} {α α' β β' : List Addr} (k : ∀ b o, h.get? b = some o → b ∉ α → b ∉ β → h'.get? b = some o ∧ b ∉ α' ∧ b ∉ β') (g : ∀ (i : Nat) a, α[i]? = some a → α'[i]? = some a) {v : Value} {d : V} (x : VR Wd Cl h α β v d) : VR Wd Cl h' α' β' v d := x.kp ⟨k, g⟩
theorem VRs.gen {h h' : Heap} {α α' β β' : List Addr} (k : ∀ b o, h.get? b = some o → b ∉ α → b ∉ β → h'.get? b = some o ∧ b ∉ α' ∧ b ∉ β') (g : ∀ (i : Nat) a, α[i]? = some a → α'[i]? = some a) {v : List Value} {d : List V} (x : VRs Wd Cl h α β v d) : VRs Wd Cl h' α' β' v d := x.kp ⟨k, g⟩
theorem OR.gen {h h' : Heap} {α α' β β' : List Addr} (k : ∀ b o, h.get? b = some o → b ∉ α → b ∉ β → h'.get? b = some o ∧ b ∉ α' ∧ b ∉ β') (g : ∀ (i : Nat) a, α[i]? = some a → α'[i]? = some a) {ob : Obj} {o : AO} (x : OR Wd Cl h α β ob o) : OR Wd Cl h' α' β' ob o := x.kp ⟨k, g⟩
end

section
variable {G : Gd} {A : Around} {E : Value → Shared → Prop} {s : Shared} {α β : List Addr} {H : Hp}

noncomputable def ownedIters : List String := ["enumerate", "zip", "dict_itemiterator", "dict_reverseitemiterator", "odict_iterator", "itertools.zip_longest", "itertools.pairwise"]

/-- an iterator over values of mine that keep -/
structure Itr (G : Gd) (A : Around) (I : Addr) (ds : List V) (h0 : Heap) (α0 β0 : List Addr) (J : Nat → Heap → Prop) : Prop where
  next : ∀ (i : Nat) (d : V) (s : Shared) (Q : Option Value → Shared → Prop) (E : Value → Shared → Prop), ds[i]? = some d → J i s.heap →
    (∀ v h' tk, VR G.W G.Cl h0 α0 β0 v d → J (i + 1) h' → (∀ b o, b ≠ I → s.heap.get? b = some o → h'.get? b = some o) → Q (some v) { s with heap := h', toks := tk }) → wpAny (model G.prog G.W) A (pyNext (.ref I)) Q E s
  done : ∀ (s : Shared) (Q : Option Value → Shared → Prop) (E : Value → Shared → Prop), J ds.length s.heap →
    (∀ h' tk, (∀ b o, b ≠ I → s.heap.get? b = some o → h'.get? b = some o) → Q none { s with heap := h', toks := tk }) → wpAny (model G.prog G.W) A (pyNext (.ref I)) Q E s
  self : ∀ i (s : Shared) (Q : Value → Shared → Prop) (E : Value → Shared → Prop), J i s.heap → Q (.ref I) s → wpAny (model G.prog G.W) A (pyIter (.ref I)) Q E s
  keep : ∀ i h h', J i h → (∀ o, h.get? I = some o → h'.get? I = some o) → (∀ b o, h0.get? b = some o → b ∉ α0 → b ∉ β0 → h'.get? b = some o) → J i h'
  cls : ∀ i h, J i h → ∃ o n, h.get? I = some o ∧ o.cls = .type n ∧ ownedIters.contains n = false

/-- what an iterator hands out is no owned tuple -/
theorem letOwned_ok {t : Expr} {I : Addr} {v : Value} {o : Obj} {n : String} {Q : Unit → Shared → Prop} (e : s.heap.get? I = some o) (hc : o.cls = .type n) (hn : ownedIters.contains n = false) (h : Q () s) :
    wpAny (model G.prog G.W) A (letOwnedTupleGo t (.ref I) v) Q E s := by
  have body : wpAny (model G.prog G.W) A (do
    let (.ref r, .ref a) := ((.ref I : Value), v) | return
    let o ← load r
    match o.cls, o.data with
    | .type n, .fields vs =>
      if ["enumerate", "zip", "dict_itemiterator", "dict_reverseitemiterator", "odict_iterator", "itertools.zip_longest", "itertools.pairwise"].contains n && vs[0]? == some (rawInt a) then
        rule "for.unpacks-the-owned-tuple"
        updateField r 0 .none
    | _, _ => pure () : Sem Unit) Q E s := by
    cases v with
    | ref a =>
      refine wpAny_bind (wpAny_load e ?_)
      rw [hc]
      cases o.data with
      | fields vs =>
        show wpAny _ A (if (ownedIters.contains n && vs[0]? == some (rawInt a)) = true then _ else _) Q E s
        rw [hn, Bool.false_and, if_neg Bool.false_ne_true]
        exact wpAny_pure h
      | _ => exact wpAny_pure h
    | _ => exact wpAny_pure h
  cases t <;> first | exact wpAny_pure h | exact body

theorem iter_ok {v : Value} {src : V} {ds : List V} {Q : Value → Shared → Prop} (hh : A.handled = none) (X : St G.W G.Cl G.B s.heap α β H) (V0 : VR G.W G.Cl s.heap α β v src) (e : iter src = some ds)
    (h : ∀ (o : Obj) (J : Nat → Heap → Prop), (s.heap.push o).get? s.heap.objs.size = some o → Itr G A s.heap.objs.size ds s.heap α β J → J 0 (s.heap.push o) → Q (.ref s.heap.objs.size) { s with heap := s.heap.push o }) :
    wpAny (model G.prog G.W) A (pyIter v) Q E s := by
  have ne : ∀ {a : Addr} {o : Obj}, s.heap.get? a = some o → a ≠ s.heap.objs.size := fun e z => by
    rw [z, size_none] at e; first | exact Mine.nos e | exact Mine.ff0 e | exact Mine.tf0 e | exact Mine.sn0 e | cases e
  unfold iter at e
  split at e
  · cases e
    cases V0 using Mine.VR.strE with
    | str e1 l1 =>
    rename_i x t
    subst e1
    have it : ∀ (T : String), ownedIters.contains T = false → Walks G.prog G.W A s.heap.objs.size [s.heap.objs.size] [s.heap.objs.size] x.cps.size (SignAt x) (fun i h => h.IsStrIter s.heap.objs.size T x t i) →
        Itr G A s.heap.objs.size ((cps x).map fun c => .str [c]) s.heap α β (fun i h => h.IsStrIter s.heap.objs.size T x t i) := fun T hT W => by
      have hlen : ((cps x).map fun c => V.str [c]).length = x.cps.size := by simp [cps]
      refine ⟨fun i d s' Q E hd st q => W.item i s' Q E ?_ st fun w h' tk P st' kp => q w h' tk ?_ st' fun b o hb => kp b o (by simpa using hb), fun s' Q E st q => W.done s' Q E (hlen ▸ st) fun h' tk kp => q h' tk fun b o hb => kp b o (by simpa using hb),
        fun i s' Q E st q => W.self i s' Q E st q, fun i h h' st k1 k2 => W.frame i h h' st fun b hb o ho => by rw [List.mem_singleton.mp hb] at ho ⊢; exact k1 o ho, fun i h st => let ⟨o, e1, e2, _⟩ := st; ⟨o, T, e1, e2, hT⟩⟩
      · rw [← hlen]; exact (List.getElem?_eq_some_iff.mp hd).1
      · obtain ⟨c, u, e1, e2⟩ := P
        subst e2
        rw [List.getElem?_map, Option.map_eq_some_iff] at hd
        obtain ⟨c', e3, rfl⟩ := hd
        have : c = c' := by
          have : (cps x)[i]? = some c := by simpa [cps] using e1
          rw [this] at e3; cases e3; rfl
        subst this
        exact .str rfl (by simp)
    cases ha : x.cps.all (· < 128)
    · exact wpAny_pyIter_wide ha (h _ _ (Heap.get?_push_size _ rfl) (it "str_iterator" (by decide) (Walks.strWide hh _ x t)) ⟨_, Heap.get?_push_size _ rfl, rfl, rfl⟩)
    · exact wpAny_pyIter_ascii ha (h _ _ (Heap.get?_push_size _ rfl) (it "str_ascii_iterator" (by decide) (Walks.strAscii hh _ x t)) ⟨_, Heap.get?_push_size _ rfl, rfl, rfl⟩)
  · split at e
    · cases e
      cases V0 using Mine.VR.tupE with
      | tup q1 q2 q3 q4 q5 q6 =>
      rename_i a ob vs n
      have hT : s.heap.IsTuple a vs.toArray := ⟨_, q1, q4, _, q5⟩
      have hne := ne q1
      have W := Walks.tuple (prog := G.prog) (w := G.W) hh s.heap.objs.size a hne vs.toArray
      have hlen : ds.length = vs.toArray.size := by rw [List.size_toArray, q6.length]
      refine wpAny_pyIter_tuple hT (h _ (fun i h => h.IsTupleIter s.heap.objs.size a i ∧ h.IsTuple a vs.toArray) (Heap.get?_push_size _ rfl) ⟨fun i d s' Q E hd st q => W.item i s' Q E ?_ st fun w h' tk P st' kp => q w h' tk ?_ st' fun b o hb => kp b o (by simpa using hb), fun s' Q E st q => W.done s' Q E (hlen ▸ st) fun h' tk kp => q h' tk fun b o hb => kp b o (by simpa using hb),
        fun i s' Q E st q => W.self i s' Q E st q, fun i h h' st k1 k2 => ⟨let ⟨o, e1, r⟩ := st.1; ⟨o, k1 o e1, r⟩, ⟨_, k2 _ _ q1 q2 q3, q4, _, q5⟩⟩, fun i h st => let ⟨o, e1, e2, _⟩ := st.1; ⟨o, _, e1, e2, by decide⟩⟩ ⟨⟨_, Heap.get?_push_size _ rfl, rfl, rfl⟩, ⟨_, push_keep _ _ _ q1, q4, _, q5⟩⟩)
      · rw [← hlen]; exact (List.getElem?_eq_some_iff.mp hd).1
      · obtain ⟨y, e1, e2⟩ := q6.get hd
        have P' : vs[i]? = some w := by simpa using P
        rw [e1] at P'; first | exact Mine.nos P' | exact Mine.ff0 P' | exact Mine.tf0 P' | exact Mine.sn0 P' | cases P'
        exact e2
    · first | exact Mine.nos e | exact Mine.ff0 e | exact Mine.tf0 e | exact Mine.sn0 e | cases e
  · split at e
    · cases e
      cases V0 using Mine.VR.lstE with
      | lst q1 q2 q3 q4 q5 q6 =>
      rename_i a ob vs n
      have hT : s.heap.IsList a vs.toArray := ⟨_, q1, q4, _, q5⟩
      have hne := ne q1
      have W := Walks.list (prog := G.prog) (w := G.W) hh s.heap.objs.size a hne vs.toArray
      have hlen : ds.length = vs.toArray.size := by rw [List.size_toArray, q6.length]
      refine wpAny_pyIter_list hT (h _ (fun i h => h.IsListIter s.heap.objs.size a i ∧ h.IsList a vs.toArray) (Heap.get?_push_size _ rfl) ⟨fun i d s' Q E hd st q => W.item i s' Q E ?_ st fun w h' tk P st' kp => q w h' tk ?_ st' fun b o hb => kp b o (by simpa using hb), fun s' Q E st q => W.done s' Q E (hlen ▸ st) fun h' tk kp => q h' tk fun b o hb => kp b o (by simpa using hb),
        fun i s' Q E st q => W.self i s' Q E st q, fun i h h' st k1 k2 => ⟨let ⟨o, e1, r⟩ := st.1; ⟨o, k1 o e1, r⟩, ⟨_, k2 _ _ q1 q2 q3, q4, _, q5⟩⟩, fun i h st => let ⟨o, e1, e2, _⟩ := st.1; ⟨o, _, e1, e2, by decide⟩⟩ ⟨⟨_, Heap.get?_push_size _ rfl, rfl, rfl⟩, ⟨_, push_keep _ _ _ q1, q4, _, q5⟩⟩)
      · rw [← hlen]; exact (List.getElem?_eq_some_iff.mp hd).1
      · obtain ⟨y, e1, e2⟩ := q6.get hd
        have P' : vs[i]? = some w := by simpa using P
        rw [e1] at P'; first | exact Mine.nos P' | exact Mine.ff0 P' | exact Mine.tf0 P' | exact Mine.sn0 P' | cases P'
        exact e2
    · first | exact Mine.nos e | exact Mine.ff0 e | exact Mine.tf0 e | exact Mine.sn0 e | cases e
  · rename_i a b
    split at e
    · rename_i hz
      cases e
      rw [Bool.and_eq_true, Bool.and_eq_true] at hz
      have z1 := szOk_le hz.1.1
      have z2 : a.natAbs < 1000000000000 := Nat.le_of_ble_eq_true hz.1.2
      have z3 : b.natAbs < 1000000000000 := Nat.le_of_ble_eq_true hz.2
      cases V0 using Mine.VR.rngE with
      | rng q1 q2 q3 q4 q5 =>
      have hsz := rangeSize_nat a b
      have fits : ∀ x : Int, x.natAbs < 10000000000000 → Builtin.Range.rangeFitsLong x = true := fun x hx => by
        unfold Builtin.Range.rangeFitsLong
        rw [Bool.and_eq_true, decide_eq_true_eq, decide_eq_true_eq]
        (first | lia | omega)
      have hsm : Builtin.Range.small a b 1 = true := by
        unfold Builtin.Range.small
        rw [hsz, fits a (by (first | lia | omega)), fits b (by (first | lia | omega)), fits 1 (by decide), fits ((b - a).toNat : Int) (by (first | lia | omega))]
        simp only [Bool.and_true, Bool.true_and]
        rw [if_pos (by decide), fits (b + (1 - 1)) (by (first | lia | omega)), Bool.or_true]
      have W := Walks.range (prog := G.prog) (w := G.W) hh s.heap.objs.size a 1 (b - a).toNat
      have hlen : ((List.range (b - a).toNat).map fun (i : Nat) => V.int (a + i)).length = (b - a).toNat := by simp
      refine wpAny_pyIter_range q1 hsm (h _ (fun i h => IsRangeIter h s.heap.objs.size (a + (i : Nat) * 1) (((b - a).toNat : Int) - (i : Nat)) 1) (Heap.get?_push_size _ rfl) ⟨fun i d s' Q E hd st q => W.item i s' Q E ?_ st fun w h' tk P st' kp => q w h' tk ?_ st' fun b o hb => kp b o (by simpa using hb), fun s' Q E st q => W.done s' Q E (by rw [hlen] at st; exact st) fun h' tk kp => q h' tk fun b o hb => kp b o (by simpa using hb),
        fun i s' Q E st q => W.self i s' Q E st q, fun i h h' st k1 k2 => k1 _ st, fun i h st => ⟨_, _, st, rfl, by decide⟩⟩ ?_)
      · have := (List.getElem?_eq_some_iff.mp hd).1
        rw [hlen] at this; exact this
      · obtain ⟨t, rfl⟩ := P
        rw [List.getElem?_map, Option.map_eq_some_iff] at hd
        obtain ⟨c', e3, rfl⟩ := hd
        have := (List.getElem?_eq_some_iff.mp e3)
        obtain ⟨_, e4⟩ := this
        rw [List.getElem_range] at e4
        subst e4
        rw [Int.mul_one]
        exact .int _ _
      · show (s.heap.push _).get? _ = _
        rw [hsz]
        refine (Heap.get?_push_size _ rfl).trans ?_
        simp [rawInt]
    · first | exact Mine.nos e | exact Mine.ff0 e | exact Mine.tf0 e | exact Mine.sn0 e | cases e
  · first | exact Mine.nos e | exact Mine.ff0 e | exact Mine.tf0 e | exact Mine.sn0 e | cases e
end
end Mine
end
section
open PySem PySem.W PyProof.Rows
namespace Mine
section
variable {G : Gd} {A : Around} {E : Value → Shared → Prop} {s : Shared} {α β : List Addr} {H : Hp} {sc : Scope} {env : Env} {ρ : Loc}

/-- the frame's own objects -/
noncomputable def frm (env : Env) : List Addr := env.locals :: env.cells.map (·.2)
theorem Fm.frB {h : Heap} (F : Fm G h α β sc env ρ) : ∀ a ∈ frm env, a ∈ β := fun a ha => by
  rcases List.mem_cons.mp ha with e | e
  · exact e ▸ F.lb
  · obtain ⟨⟨x, c⟩, h1, rfl⟩ := List.mem_map.mp e
    exact (F.cb x c h1).1
theorem Fm.less {h : Heap} {ρ' : Loc} (F : Fm G h α β sc env ρ) (k : ∀ x d, lk x ρ' = some d → lk x ρ = some d) : Fm G h α β sc env ρ' :=
  ⟨F.kind, F.glb, F.blt, F.ks, let ⟨m, e, q⟩ := F.ns; ⟨m, e, fun x d l => q x d (k x d l)⟩, fun x e => let ⟨c, u, e1, e2, e3⟩ := F.cl x e; ⟨c, u, e1, e2, fun d l => e3 d (k x d l)⟩, F.lb, F.cb, F.ap⟩

theorem Gs.of {γ : List Addr} {h' : Heap} {tk : Nat} (g : Ms γ α s.heap α h') : Gs γ α s α { s with heap := h', toks := tk } := ⟨g, ⟨_, _, rfl⟩⟩

/-- a step of the frame or less -/
theorem Fm.ms {h h' : Heap} {α' γ : List Addr} (F : Fm G h α β sc env ρ) (X : St G.W G.Cl G.B h α β H) (g : Ms γ α h α' h') (k : ∀ a ∈ γ, a ∈ β) (n : ∀ a ∈ γ, a ∉ frm env) : Fm G h' α' β sc env ρ := by
  refine ⟨F.kind, F.glb, F.blt, F.ks, ?_, fun x' kk => ?_, F.lb, F.cb, F.ap⟩
  · obtain ⟨m, ⟨o, es, ep, ho, r⟩, q⟩ := F.ns
    refine ⟨m, ⟨o, es, ep, g.keep _ _ ho (X.out _ F.lb).2.1 (fun z => n _ z List.mem_cons_self), r⟩, fun x' d e kk => ?_⟩
    obtain ⟨v, e1, e2⟩ := q x' d e kk
    exact ⟨v, e1, e2.ms g k⟩
  · obtain ⟨c, u, e1, ⟨o, e2, e3⟩, e4⟩ := F.cl x' kk
    have hm := mem_of_lookup e1
    refine ⟨c, u, e1, ⟨o, g.keep _ _ e2 (X.out _ (F.cb _ _ hm).1).2.1 (fun z => n _ z (List.mem_cons_of_mem _ (List.mem_map.mpr ⟨_, hm, rfl⟩))), e3⟩, fun d e => ?_⟩
    obtain ⟨v, e5, e6⟩ := e4 d e
    exact ⟨v, e5, e6.ms g k⟩

theorem store_local {x : Str} {v : Value} {d : V} {Q : Unit → Shared → Prop} (X : St G.W G.Cl G.B s.heap α β H) (F : Fm G s.heap α β sc env ρ) (k : env.kindOf x = some .local) (V0 : VR G.W G.Cl s.heap α β v d)
    (h : ∀ s', Gs [env.locals] α s α s' → St G.W G.Cl G.B s'.heap α β H → Fm G s'.heap α β sc env (up x d ρ) → Q () s') : wpAny (model G.prog G.W) A (storeName env x v) Q E s := by
  obtain ⟨m, hn, hq⟩ := F.ns
  refine wpAny_storeName_local k hn (fun h' hn' hs' => ?_) (by rw [F.kind]; rfl)
  have ex : ∃ o, h'.get? env.locals = some o := let ⟨o, _, _, e, _⟩ := hn'; ⟨o, e⟩
  have g : ∀ α : List Addr, Ms [env.locals] α s.heap α h' := fun α => Ms.upd List.mem_cons_self hs' ex
  have kb : ∀ a ∈ [env.locals], a ∈ β := fun a ha => by rw [List.mem_singleton.mp ha]; exact F.lb
  refine h _ (Gs.of (g α)) (X.ms (g []) kb) ⟨F.kind, F.glb, F.blt, F.ks, ⟨_, hn', fun y d' e ky => ?_⟩, fun y ky => ?_, F.lb, F.cb, F.ap⟩
  · rw [lk_up] at e
    by_cases hy : y = x
    · rw [if_pos hy] at e ⊢
      cases e
      exact ⟨v, rfl, V0.ms (g α) kb⟩
    · rw [if_neg hy] at e ⊢
      obtain ⟨w, e1, e2⟩ := hq y d' e ky
      exact ⟨w, e1, e2.ms (g α) kb⟩
  · obtain ⟨c, u, e1, e2, e4⟩ := F.cl y ky
    refine ⟨c, u, e1, e2.sameBut hs' (F.cb _ _ (mem_of_lookup e1)).2, fun d' e => ?_⟩
    have hy : y ≠ x := fun z => by rw [z, k] at ky; first | exact Mine.nos ky | exact Mine.ff0 ky | exact Mine.tf0 ky | exact Mine.sn0 ky | cases ky
    rw [lk_up, if_neg hy] at e
    obtain ⟨w, e5, e6⟩ := e4 d' e
    exact ⟨w, e5, e6.ms (g α) kb⟩

theorem store_ok {x : Str} {v : Value} {d : V} {Q : Unit → Shared → Prop} (X : St G.W G.Cl G.B s.heap α β H) (F : Fm G s.heap α β sc env ρ) (k : kindIs sc x isOwn = true) (V0 : VR G.W G.Cl s.heap α β v d)
    (h : ∀ s', Gs (frm env) α s α s' → St G.W G.Cl G.B s'.heap α β H → Fm G s'.heap α β sc env (up x d ρ) → Q () s') : wpAny (model G.prog G.W) A (storeName env x v) Q E s := by
  obtain ⟨kk, e1, e2⟩ := kindIs_some k
  have ek := F.ks x kk e1
  have fin : kmap kk = .local ∨ kmap kk = .cell := by
    cases kk <;> first | (cases e2; done) | (left; rfl) | (right; rfl)
  rcases fin with c | c <;> rw [c] at ek
  · exact store_local X F ek V0 fun s' g X' F' => h s' ⟨g.toMs.more (fun a ha => by rw [List.mem_singleton.mp ha]; exact List.mem_cons_self), g.same⟩ X' F'
  · obtain ⟨c, u, e3, e4, e5⟩ := F.cl x ek
    have hm := mem_of_lookup e3
    refine wpAny_storeName_cell F.kind ek e3 e4 fun h' hc' hs' => ?_
    have cf : c ∈ frm env := List.mem_cons_of_mem _ (List.mem_map.mpr ⟨_, hm, rfl⟩)
    have g : ∀ α : List Addr, Ms (frm env) α s.heap α h' := fun α => Ms.upd cf hs' (let ⟨o, e, _⟩ := hc'; ⟨o, e⟩)
    refine h _ (Gs.of (tk := s.toks) (g α)) (X.ms (g []) F.frB) ⟨F.kind, F.glb, F.blt, F.ks, ?_, fun y ky => ?_, F.lb, F.cb, F.ap⟩
    · obtain ⟨m, hn, hq⟩ := F.ns
      refine ⟨m, hn.sameBut hs' (fun z => (F.cb _ _ hm).2 z.symm), fun y d' e ky => ?_⟩
      have hy : y ≠ x := fun z => by rw [z, ek] at ky; first | exact Mine.nos ky | exact Mine.ff0 ky | exact Mine.tf0 ky | exact Mine.sn0 ky | cases ky
      rw [lk_up, if_neg hy] at e
      obtain ⟨w, e1, e2⟩ := hq y d' e ky
      exact ⟨w, e1, e2.ms (g α) F.frB⟩
    · by_cases hy : y = x
      · subst hy
        refine ⟨c, _, e3, hc', fun d' e => ?_⟩
        rw [lk_up, if_pos rfl] at e
        cases e
        exact ⟨v, rfl, V0.ms (g α) F.frB⟩
      · obtain ⟨c', u', f1, f2, f3⟩ := F.cl y ky
        refine ⟨c', u', f1, f2.sameBut hs' (fun z => hy (F.ap _ _ c (z ▸ f1) e3)), fun d' e => ?_⟩
        rw [lk_up, if_neg hy] at e
        obtain ⟨w, e5, e6⟩ := f3 d' e
        exact ⟨w, e5, e6.ms (g α) F.frB⟩

/-- a comprehension's targets -/
theorem lk_c (z x : Str) (v : V) (ρ : Loc) : lk z ((x, v) :: ρ) = if z = x then some v else lk z ρ := by
  rw [lk_1]
  by_cases h : z = x
  · rw [if_pos h, h, seq_self]
  · rw [if_neg h, seq_ne h]
theorem compTgt2 {x y : Str} {p q r : Pos} {c : Nat} {v : Value} {a b : V} {Q : Unit → Shared → Prop} (hh : A.handled = none) (X : St G.W G.Cl G.B s.heap α β H) (F : Fm G s.heap α β sc env ρ) (hxy : x ≠ y) (kx : env.kindOf x = some .local) (ky : env.kindOf y = some .local)
    (V0 : VR G.W G.Cl s.heap α β v (.tup [a, b])) (h : ∀ s', Gs [env.locals] α s α s' → St G.W G.Cl G.B s'.heap α β H → Fm G s'.heap α β sc env ((x, a) :: (y, b) :: ρ) → Q () s') : wpAny (model G.prog G.W) A (assign (.Tuple [.Name x p, .Name y q] c r) env v) Q E s := by
  cases V0 using Mine.VR.tupE with
  | tup q1 q2 q3 q4 q5 q6 =>
  cases q6 using Mine.VRs.consE with
  | cons w1 w2 =>
  cases w2 using Mine.VRs.consE with
  | cons w2 w3 =>
  cases w3 using Mine.VRs.nilE
  rename_i ta ob nn u1 u2
  refine PySem.wpAny_assign_Tuple hh (⟨_, q1, q4, _, q5⟩ : s.heap.IsTuple ta [u1, u2].toArray) rfl rfl fun h1 hx => ?_
  have k1 : ∀ b o, s.heap.get? b = some o → h1.get? b = some o := fun b o e => hx b o (fun z => sn0 (e.symm.trans (z ▸ size_none _))) e
  have g1 : Go α s α { s with heap := h1 } := Go.heap (tk := s.toks) (Mv.of_keep k1)
  refine wpAny_assignInOrder_more (wpAny_assign_Name (store_local (X.mv k1) (F.mv X g1.toMv) kx (w1.mv g1.toMv) fun s2 g2 X2 F2 => ?_))
  have kb : ∀ a ∈ [env.locals], a ∈ β := fun a ha => List.mem_singleton.mp ha ▸ F.lb
  refine wpAny_assignInOrder_more (wpAny_assign_Name (store_local X2 F2 ky ((w2.mv g1.toMv).ms g2.toMs kb) fun s3 g3 X3 F3 => ?_))
  refine wpAny_assignInOrder_none (h s3 ((g1.gs.trans g2).trans g3) X3 (F3.less fun z d' e => ?_))
  rw [lk_up, lk_up]
  rw [lk_c, lk_c] at e
  by_cases hz : z = x
  · rw [if_pos hz] at e; rw [if_neg (hz ▸ hxy), if_pos hz]; exact e
  · rw [if_neg hz] at e ⊢; exact e
theorem compTgt_ok {t : Expr} {xs : List Str} {v : Value} {d : V} {own : Loc} {Q : Unit → Shared → Prop} (hh : A.handled = none) (X : St G.W G.Cl G.B s.heap α β H) (F : Fm G s.heap α β sc env ρ) (e1 : tnames t = some xs) (e2 : tbind xs d = some own)
    (ks : ∀ x ∈ xs, env.kindOf x = some .local) (V0 : VR G.W G.Cl s.heap α β v d)
    (h : ∀ s', Gs [env.locals] α s α s' → St G.W G.Cl G.B s'.heap α β H → Fm G s'.heap α β sc env (own ++ ρ) → Q () s') : wpAny (model G.prog G.W) A (assign t env v) Q E s := by
  cases tnames_inv e1 with
  | one x p h1 h2 =>
    rw [h2] at e2 ks
    rw [h1]
    refine wpAny_assign_Name (store_local X F (ks x (.head _)) V0 fun s' g X' F' => h s' g X' (F'.less fun y d' e => ?_))
    rw [← Option.some.inj e2, List.cons_append, List.nil_append, lk_c] at e
    rw [lk_up]
    exact e
  | two x y p q r c h1 h2 h3 =>
    rw [h2] at e2 ks
    rw [h1]
    obtain ⟨l, q1, e2⟩ := Option.bind_eq_some_iff.mp e2
    obtain ⟨w, q2, e2⟩ := Option.map_eq_some_iff.mp e2
    rw [tupV_some q1, two_ok q2] at V0
    rw [← e2] at h
    exact compTgt2 hh X F (fun z => tf0 ((z ▸ seq_self x : seq x y = true).symm.trans h3)) (ks x (.head _)) (ks y (.tail _ (.head _))) V0 h
end
end Mine
end
section
open PySem PySem.W PyProof.Rows
namespace Mine

/-- a list comprehension's loop, with any target and tests -/
theorem compLoop_any {prog : Program} {w : World} {A : Around} {s : Shared} {elt target iter : Expr} {ifs : List Expr} {scope : Scope} {pos : Pos} {it acc : Value} {env : Env} {R : Result → Shared → Prop} (I : Nat → Shared → Prop)
    (turn : ∀ n s, I n s → wpAny (model prog w) A (pyNext it) (fun r s₁ => match r with
      | none => R (.ok .next) s₁
      | some v => wpAny (model prog w) A (letOwnedTupleGo target it v) (fun _ s₁' => wpAny (model prog w) A (assign target env v) (fun _ s₂ =>
          wpAny (model prog w) A (forIn ifs true fun c r => if r = true then do let ok ← isTrue c env (eval c env); pure (ForInStep.yield ok) else pure (ForInStep.yield r)) (fun ok s₃ =>
            if ok = true then wpAny (model prog w) A (eval elt env) (fun x s₄ =>
              wpAny (model prog w) A (call (.builtin "list.append") [acc, x]) (fun _ s₅ => ∃ m, m < n ∧ I m s₅) (notedBy (model prog w) A env fun e s' => R (.error e) s') s₄) (notedBy (model prog w) A env fun e s' => R (.error e) s') s₃
            else ∃ m, m < n ∧ I m s₃) (notedBy (model prog w) A env fun e s' => R (.error e) s') s₂) (notedBy (model prog w) A env fun e s' => R (.error e) s') s₁')
          (notedBy (model prog w) A env fun e s' => R (.error e) s') s₁) (notedBy (model prog w) A env fun e s' => R (.error e) s') s)
    (n : Nat) (h : I n s) : codeAny (model prog w) A (.compLoop (.ListComp elt [⟨target, iter, ifs, 0⟩] scope pos) 0 it acc env) R s := by
  refine codeAny_loop rfl I (fun n s hI => ?_) n h
  show wpAny _ A ((compTurn (.ListComp elt [⟨target, iter, ifs, 0⟩] scope pos) 0 it acc env).onRaise (fun x => do noteFrame x env; theTreesLotGoes x)) _ _ s
  refine wpAny_noted ?_
  rw [compTurn_list]
  refine wpAny_bind (wpAny_standAt (wpAny_bind (wpAny_mono (turn n s hI) (fun r s₁ h₁ => ?_) fun _ _ h' => h')))
  cases r with
  | none => exact wpAny_pure h₁
  | some v =>
    refine wpAny_bind (wpAny_mono h₁ (fun _ s₁' h₁' => ?_) fun _ _ h' => h')
    refine wpAny_bind (wpAny_mono h₁' (fun _ s₂ h₂ => wpAny_bind (wpAny_mono h₂ (fun ok s₃ h₃ => ?_) fun _ _ h' => h')) fun _ _ h' => h')
    cases ok with
    | false => exact wpAny_pure ⟨rfl, h₃⟩
    | true =>
      exact wpAny_bind (wpAny_bind (wpAny_mono h₃ (fun x s₄ h₄ => wpAny_bind (wpAny_mono h₄ (fun _ s₅ h₅ => wpAny_pure (wpAny_pure ⟨rfl, h₅⟩)) fun _ _ h' => h')) fun _ _ h' => h'))

/-- my names, but for those -/
noncomputable def hide (xs : List Str) : Loc → Loc
  | [] => []
  | p :: r => match anyS p.1 xs with
    | true => hide xs r
    | false => p :: hide xs r
theorem lk_hide (x : Str) (xs : List Str) : ∀ ρ : Loc, lk x (hide xs ρ) = match anyS x xs with | true => none | false => lk x ρ
  | [] => by cases anyS x xs <;> rfl
  | p :: r => by
    unfold hide
    have ih := lk_hide x xs r
    cases h : anyS p.1 xs with
    | true =>
      dsimp only
      rw [ih]
      cases hx : anyS x xs with
      | true => rfl
      | false =>
        dsimp only
        have : x ≠ p.1 := fun z => by rw [z, h] at hx; first | exact Mine.nos hx | exact Mine.ff0 hx | exact Mine.tf0 hx | exact Mine.sn0 hx | cases hx
        rw [lk_1, seq_ne this]
    | false =>
      dsimp only
      rw [lk_1, ih]
      by_cases hp : x = p.1
      · subst hp; rw [seq_self, h]; dsimp only; rw [lk_1, seq_self]
      · rw [seq_ne hp]
        cases hx : anyS x xs with
        | true => rfl
        | false => dsimp only; rw [lk_1, seq_ne hp]
theorem lk_append (x : Str) : ∀ a b : Loc, lk x (a ++ b) = match lk x a with | some v => some v | none => lk x b
  | [], b => rfl
  | p :: r, b => by
    rw [List.cons_append, lk_1, lk_1]
    cases seq x p.1 with
    | true => rfl
    | false => exact lk_append x r b
theorem anyS_iff {x : Str} : ∀ {xs : List Str}, anyS x xs = true ↔ x ∈ xs
  | [] => by simp [anyS_0]
  | y :: r => by
    rw [anyS_1]
    by_cases h : x = y
    · subst h; simp [seq_self]
    · rw [seq_ne h]; simp [h, anyS_iff (xs := r)]
theorem tbind_lk {xs : List Str} {d : V} {own : Loc} (e : tbind xs d = some own) (x : Str) (h : anyS x xs = true) : ∃ v, lk x own = some v := by
  have h := anyS_iff.mp h
  cases xs with
  | nil => exact nos e
  | cons a xs =>
  cases xs with
  | nil => exact ⟨d, by rw [← Option.some.inj e, lk_c, if_pos (List.mem_singleton.mp h)]⟩
  | cons b xs =>
  cases xs with
  | cons => exact nos e
  | nil =>
  obtain ⟨l, _, e⟩ := Option.bind_eq_some_iff.mp e
  obtain ⟨w, _, e⟩ := Option.map_eq_some_iff.mp e
  rw [← e, lk_c, lk_c]
  by_cases h1 : x = a
  · exact ⟨_, if_pos h1⟩
  · rw [if_neg h1]
    exact ⟨_, if_pos (List.mem_singleton.mp ((List.mem_cons.mp h).resolve_left h1))⟩
theorem hide_own {xs : List Str} {d : V} {own : Loc} (e : tbind xs d = some own) (ρ : Loc) (x : Str) : lk x (own ++ ρ) = lk x (own ++ hide xs ρ) := by
  rw [lk_append, lk_append]
  cases h : lk x own with
  | some v => rfl
  | none =>
    dsimp only
    rw [lk_hide]
    cases hx : anyS x xs with
    | false => rfl
    | true => obtain ⟨v, e'⟩ := tbind_lk e x hx; rw [h] at e'; first | exact Mine.nos e' | exact Mine.ff0 e' | exact Mine.tf0 e' | exact Mine.sn0 e' | cases e'

section
variable {G : Gd} {A : Around} {E : Value → Shared → Prop} {s : Shared} {α β : List Addr} {H : Hp} {sc : Scope} {env : Env} {ρ : Loc}

/-- an iterator's end: what is no more looked at may have changed -/
theorem St.gen {h h' : Heap} {β' : List Addr} {I : Addr} (X : St G.W G.Cl G.B h α β H) (k : ∀ b o, b ≠ I → h.get? b = some o → h'.get? b = some o) (i : I ∈ β) (n : ∀ a ∈ β', a ∈ β ∧ a ≠ I) : St G.W G.Cl G.B h' α β' H := by
  have kk : ∀ b o, h.get? b = some o → b ∉ α → b ∉ β → h'.get? b = some o ∧ b ∉ α ∧ b ∉ β' := fun b o e ha hb => ⟨k b o (fun z => hb (z ▸ i)) e, ha, fun z => hb (n b z).1⟩
  have iα : ∀ a ∈ α, a ≠ I := fun a ha z => (X.out I i).2.1 (z ▸ ha)
  refine ⟨⟨X.len, X.nd, fun j o e => ?_⟩, fun b o e => ?_, fun a z => ?_⟩
  · obtain ⟨a, ob, e1, e2, e3⟩ := X.at_ j o e
    exact ⟨a, ob, e1, k _ _ (iα a (List.mem_of_getElem? e1)) e2, e3.gen kk fun _ _ e => e⟩
  · obtain ⟨h1, h2, h3⟩ := X.glob b o e
    exact ⟨k _ _ (fun z => h3 (z ▸ i)) h1, h2⟩
  · obtain ⟨⟨o, e⟩, r⟩ := X.out a (n a z).1
    exact ⟨⟨o, k _ _ (n a z).2 e⟩, r⟩
theorem Fm.gen {h h' : Heap} {α' β' : List Addr} (F : Fm G h α β sc env ρ) (X : St G.W G.Cl G.B h α β H) (k : ∀ b o, h.get? b = some o → b ∉ α → h'.get? b = some o ∧ b ∉ α') (g : ∀ (i : Nat) a, α[i]? = some a → α'[i]? = some a)
    (kb : ∀ b o, h.get? b = some o → b ∉ β → b ∉ β') (kb' : ∀ b ∈ β, b ∈ β') : Fm G h' α' β' sc env ρ := by
  have kk : ∀ b o, h.get? b = some o → b ∉ α → b ∉ β → h'.get? b = some o ∧ b ∉ α' ∧ b ∉ β' := fun b o e ha hb => ⟨(k b o e ha).1, (k b o e ha).2, kb b o e hb⟩
  refine ⟨F.kind, F.glb, F.blt, F.ks, ?_, fun x' kx => ?_, kb' _ F.lb, fun x c hc => ⟨kb' _ (F.cb x c hc).1, (F.cb x c hc).2⟩, F.ap⟩
  · obtain ⟨m, ⟨o, es, ep, ho, r⟩, q⟩ := F.ns
    refine ⟨m, ⟨o, es, ep, (k _ _ ho (X.out _ F.lb).2.1).1, r⟩, fun x' d e kx => ?_⟩
    obtain ⟨v, e1, e2⟩ := q x' d e kx
    exact ⟨v, e1, e2.gen kk g⟩
  · obtain ⟨c, u, e1, ⟨o, e2, e3⟩, e4⟩ := F.cl x' kx
    refine ⟨c, u, e1, ⟨o, (k _ _ e2 (X.out _ (F.cb _ _ (mem_of_lookup e1)).1).2.1).1, e3⟩, fun d e => ?_⟩
    obtain ⟨v, e5, e6⟩ := e4 d e
    exact ⟨v, e5, e6.gen kk g⟩

/-- the cells that a comprehension's frame shares with its frame -/
noncomputable def closeL (env : Env) : List (Str × NameKind) → List (Str × Addr) → List (Str × Addr)
  | [], cs => cs
  | (n, k) :: r, cs => if k == .free then closeL env r ((n, (env.cells.lookup n).getD 0) :: cs) else closeL env r cs
theorem closureFor_eq {sc' : Scope} (h : ∀ p ∈ sc'.names, p.2 = .free → ∃ c, env.cells.lookup p.1 = some c) : closureFor sc' env = pure (closeL env sc'.names []) := by
  unfold closureFor
  have : ∀ (names : List (Str × NameKind)) (cs : List (Str × Addr)), (∀ p ∈ names, p.2 = .free → ∃ c, env.cells.lookup p.1 = some c) →
      (forIn names cs fun (x : Str × NameKind) (r : List (Str × Addr)) => (if (x.2 == NameKind.free) = true then do let c ← cellOf env x.1; pure (ForInStep.yield ((x.1, c) :: r)) else pure (ForInStep.yield r) : Sem (ForInStep (List (Str × Addr))))) = pure (closeL env names cs) := by
    intro names
    induction names with
    | nil => intro cs _; rfl
    | cons p r ih =>
      intro cs hp
      rw [List.forIn_cons]
      unfold closeL
      by_cases hk : (p.2 == NameKind.free) = true
      · obtain ⟨c, hc⟩ := hp p List.mem_cons_self (beq_iff_eq.mp hk)
        have hco : cellOf env p.1 = pure c := by unfold cellOf; rw [hc]
        rw [if_pos hk, if_pos hk, hco]
        simp only [pure_bind, hc, Option.getD_some]
        exact ih _ fun q hq => hp q (List.mem_cons_of_mem _ hq)
      · rw [if_neg hk, if_neg hk]
        simp only [pure_bind]
        exact ih _ fun q hq => hp q (List.mem_cons_of_mem _ hq)
  have h2 := this sc'.names [] h
  simp only [bind_pure]
  refine Eq.trans ?_ h2
  congr 1
theorem closeL_lookup (x : Str) : ∀ (names : List (Str × NameKind)) (cs : List (Str × Addr)), (∀ c, cs.lookup x = some c → c = (env.cells.lookup x).getD 0) → 
    (∀ c, (closeL env names cs).lookup x = some c → c = (env.cells.lookup x).getD 0) ∧ (((x, NameKind.free) ∈ names ∨ (cs.lookup x).isSome = true) → ((closeL env names cs).lookup x).isSome = true)
  | [], cs, h => ⟨h, fun q => q.elim (fun z => nomatch z) id⟩
  | (n, k) :: r, cs, h => by
    unfold closeL
    by_cases hk : (k == NameKind.free) = true
    · rw [if_pos hk]
      have h' : ∀ c, List.lookup x ((n, (env.cells.lookup n).getD 0) :: cs) = some c → c = (env.cells.lookup x).getD 0 := fun c e => by
        rw [List.lookup_cons] at e
        by_cases hx : x = n
        · subst hx; simp at e; exact e.symm
        · rw [beq_eq_false_iff_ne.mpr hx] at e; exact h c e
      obtain ⟨a, b⟩ := closeL_lookup x r _ h'
      refine ⟨a, fun q => b ?_⟩
      rcases q with q | q
      · rcases List.mem_cons.mp q with q | q
        · cases q; right; simp
        · exact .inl q
      · right
        rw [List.lookup_cons]
        by_cases hx : x = n
        · subst hx; simp
        · rw [beq_eq_false_iff_ne.mpr hx]; exact q
    · rw [if_neg hk]
      obtain ⟨a, b⟩ := closeL_lookup x r cs h
      refine ⟨a, fun q => b ?_⟩
      rcases q with q | q
      · rcases List.mem_cons.mp q with q | q
        · cases q; exact absurd rfl hk
        · exact .inl q
      · exact .inr q
theorem closeL_mem : ∀ (names : List (Str × NameKind)) (cs : List (Str × Addr)) (p : Str × Addr), p ∈ closeL env names cs → p ∈ cs ∨ ((p.1, NameKind.free) ∈ names ∧ p.2 = (env.cells.lookup p.1).getD 0)
  | [], cs, p, h => .inl h
  | (n, k) :: r, cs, p, h => by
    unfold closeL at h
    split at h
    · rename_i hk
      rcases closeL_mem r _ p h with q | q
      · rcases List.mem_cons.mp q with q | q
        · subst q; rw [beq_iff_eq.mp hk]; exact .inr ⟨List.mem_cons_self, rfl⟩
        · exact .inl q
      · exact .inr ⟨List.mem_cons_of_mem _ q.1, q.2⟩
    · rcases closeL_mem r _ p h with q | q
      · exact .inl q
      · exact .inr ⟨List.mem_cons_of_mem _ q.1, q.2⟩

theorem lookup_relabel {names : List (Str × NameKind)} {x : Str} {k : NameKind} (e : names.lookup x = some k) :
    (names.map fun (n, k) => if (k == NameKind.free && env.scope.kind == .function && env.kindOf n == some .cell) then (n, NameKind.cell) else (n, k)).lookup x = some (if (k == NameKind.free && env.scope.kind == .function && env.kindOf x == some .cell) then .cell else k) := by
  induction names with
  | nil => first | exact Mine.nos e | exact Mine.ff0 e | exact Mine.tf0 e | exact Mine.sn0 e | cases e
  | cons p r ih =>
    obtain ⟨n, k'⟩ := p
    rw [List.map_cons]
    by_cases hx : x = n
    · subst hx
      simp only [List.lookup_cons_self, Option.some.injEq] at e
      subst e
      dsimp only
      split <;> simp
    · rw [List.lookup_cons, beq_eq_false_iff_ne.mpr hx] at e
      dsimp only at e ⊢
      split <;> (rw [List.lookup_cons, beq_eq_false_iff_ne.mpr hx]; exact ih e)

/-- what the check of a comprehension's scope says -/
theorem compSc {sc' : Scope} {xs : List Str} (e : compScOk sc sc' xs = true) : sc'.kind = .function ∧ (∀ x ∈ xs, lk x sc'.names = some .local) ∧
    ∀ p ∈ sc'.names, (p.2 = .local ∧ (p.1 ∈ xs ∨ p.1 = dot0) ∧ lk p.1 sc'.names = some .local) ∨ (p.2 = .free ∧ lk p.1 sc.names = some .cell) ∨ p.2 = .globalImplicit := by
  unfold compScOk at e
  rw [Bool.and_eq_true, Bool.and_eq_true] at e
  have loc1 : ∀ {sc : Scope} {x : Str}, kindIs sc x isLoc1 = true → lk x sc.names = some .local := fun h => by
    obtain ⟨k, h1, h2⟩ := kindIs_some h
    cases k <;> first | exact h1 | cases h2
  refine ⟨?_, fun x hx => loc1 (List.all_eq_true.mp e.1.2 x hx), fun p hp => ?_⟩
  · have := e.1.1
    split at this
    · assumption
    · first | exact Mine.nos this | exact Mine.ff0 this | exact Mine.tf0 this | exact Mine.sn0 this | cases this
  · have := List.all_eq_true.mp e.2 p hp
    obtain ⟨n, k⟩ := p
    cases k with
    | «local» =>
      dsimp only at this
      rw [Bool.and_eq_true, Bool.or_eq_true] at this
      exact .inl ⟨rfl, this.1.imp anyS_iff.mp seq_iff.mp, loc1 this.2⟩
    | free =>
      obtain ⟨k, h1, h2⟩ := kindIs_some this
      refine .inr (.inl ⟨rfl, ?_⟩)
      cases k <;> first | exact h1 | cases h2
    | globalImplicit => exact .inr (.inr rfl)
    | _ => first | exact Mine.nos this | exact Mine.ff0 this | exact Mine.tf0 this | exact Mine.sn0 this | cases this
theorem lk_mem {α : Type} {x : Str} {k : α} : ∀ {l : List (Str × α)}, lk x l = some k → (x, k) ∈ l
  | p :: r, e => by
    rw [lk_1] at e
    by_cases h : x = p.1
    · rw [seq_iff.mpr h] at e
      cases e
      rw [h]; exact List.mem_cons_self
    · rw [seq_ne h] at e
      exact List.mem_cons_of_mem _ (lk_mem e)

/-- a comprehension's frame -/
theorem compFm {h : Heap} {sc' : Scope} {xs : List Str} {Cc : Addr} {m : Str → Option Value} (F : Fm G h α β sc env ρ) (e : compScOk sc sc' xs = true) (d0 : lk dot0 ρ = none) (hm : h.Ns Cc m) (hC : Cc ∈ β) (nC : Cc ∉ frm env) :
    Fm G h α β sc' (compEnvC sc' (closeL env sc'.names []) Cc env) (hide xs ρ) := by
  obtain ⟨c1, c2, c3⟩ := compSc e
  have kof : ∀ x k, lk x sc'.names = some k → Env.kindOf (compEnvC sc' (closeL env sc'.names []) Cc env) x = some (kmap k) := fun x k hx => by
    rw [lk_eq] at hx
    show (relabel sc' env).names.lookup x = _
    unfold relabel
    dsimp only
    rw [lookup_relabel hx]
    have hm := mem_of_lookup hx
    rcases c3 _ hm with ⟨z, _⟩ | ⟨z, z2⟩ | z <;> (dsimp only at z; subst z)
    · rfl
    · have := F.ks _ _ z2
      dsimp only [kmap] at this
      rw [F.kind, this]; rfl
    · rfl
  have back : ∀ x kk, Env.kindOf (compEnvC sc' (closeL env sc'.names []) Cc env) x = some kk → ∃ k, lk x sc'.names = some k ∧ kk = kmap k := fun x kk hk => by
    cases hx : lk x sc'.names with
    | some k => exact ⟨k, rfl, by rw [kof x k hx] at hk; cases hk; rfl⟩
    | none =>
      exfalso
      rw [lk_eq] at hx
      have : (relabel sc' env).names.lookup x = none := by
        unfold relabel
        dsimp only
        clear hk kof
        revert hx
        generalize sc'.names = l
        intro hx
        induction l with
        | nil => rfl
        | cons p r ih =>
          obtain ⟨n, k'⟩ := p
          rw [List.map_cons]
          by_cases h : x = n
          · subst h; simp at hx
          · rw [List.lookup_cons, beq_eq_false_iff_ne.mpr h] at hx
            dsimp only at hx ⊢
            split <;> (rw [List.lookup_cons, beq_eq_false_iff_ne.mpr h]; exact ih hx)
      have hk' : (relabel sc' env).names.lookup x = some kk := hk
      rw [this] at hk'; first | exact Mine.nos hk' | exact Mine.ff0 hk' | exact Mine.tf0 hk' | exact Mine.sn0 hk' | cases hk'
  have cellOf : ∀ x, Env.kindOf (compEnvC sc' (closeL env sc'.names []) Cc env) x = some .cell → lk x sc'.names = some .free ∧ lk x sc.names = some .cell := fun x hk => by
    obtain ⟨k, h1, h2⟩ := back x _ hk
    rcases c3 _ (lk_mem h1) with ⟨z, _⟩ | ⟨z, z2⟩ | z <;> (dsimp only at z; subst z)
    · first | exact Mine.nos h2 | exact Mine.ff0 h2 | exact Mine.tf0 h2 | exact Mine.sn0 h2 | cases h2
    · exact ⟨h1, z2⟩
    · first | exact Mine.nos h2 | exact Mine.ff0 h2 | exact Mine.tf0 h2 | exact Mine.sn0 h2 | cases h2
  have getc : ∀ x, lk x sc.names = some .cell → ∃ c, env.cells.lookup x = some c := fun x hx => let ⟨c, _, e, _⟩ := F.cl x (F.ks _ _ hx); ⟨c, e⟩
  have memc : ∀ x c, (x, c) ∈ closeL env sc'.names [] → env.cells.lookup x = some c := fun x c hm => by
    rcases closeL_mem _ _ _ hm with q | ⟨q1, q2⟩
    · first | exact Mine.nos q | exact Mine.ff0 q | exact Mine.tf0 q | exact Mine.sn0 q | cases q
    · rcases c3 _ q1 with ⟨z, _⟩ | ⟨z, z2⟩ | z
      · first | exact Mine.nos z | exact Mine.ff0 z | exact Mine.tf0 z | exact Mine.sn0 z | cases z
      · obtain ⟨c', hc'⟩ := getc x z2
        dsimp only at q2
        rw [hc'] at q2 ⊢
        rw [q2]; rfl
      · first | exact Mine.nos z | exact Mine.ff0 z | exact Mine.tf0 z | exact Mine.sn0 z | cases z
  refine ⟨c1, F.glb, F.blt, kof, ⟨m, hm, fun x d el hk => ?_⟩, fun x hk => ?_, hC, fun x c hc => ?_, fun x y c hx hy => ?_⟩
  · exfalso
    obtain ⟨k, h1, h2⟩ := back x _ hk
    rw [lk_hide] at el
    rcases c3 _ (lk_mem h1) with ⟨z, z2, _⟩ | ⟨z, z2⟩ | z <;> (dsimp only at z; subst z)
    · rcases z2 with z2 | z2
      · rw [anyS_iff.mpr z2] at el; first | exact Mine.nos el | exact Mine.ff0 el | exact Mine.tf0 el | exact Mine.sn0 el | cases el
      · subst z2
        rw [d0] at el
        split at el <;> cases el
    · first | exact Mine.nos h2 | exact Mine.ff0 h2 | exact Mine.tf0 h2 | exact Mine.sn0 h2 | cases h2
    · first | exact Mine.nos h2 | exact Mine.ff0 h2 | exact Mine.tf0 h2 | exact Mine.sn0 h2 | cases h2
  · obtain ⟨h1, h2⟩ := cellOf x hk
    obtain ⟨c, u, e1, e2, e3⟩ := F.cl x (F.ks _ _ h2)
    have hl := (closeL_lookup (env := env) x sc'.names [] (fun c z => nomatch z)).2 (.inl (lk_mem h1))
    obtain ⟨c', hc'⟩ := Option.isSome_iff_exists.mp hl
    have := memc _ _ (mem_of_lookup hc')
    rw [e1] at this; first | exact Mine.nos this | exact Mine.ff0 this | exact Mine.tf0 this | exact Mine.sn0 this | cases this
    refine ⟨c, u, hc', e2, fun d el => e3 d ?_⟩
    rw [lk_hide] at el
    split at el
    · first | exact Mine.nos el | exact Mine.ff0 el | exact Mine.tf0 el | exact Mine.sn0 el | cases el
    · exact el
  · have := mem_of_lookup (memc x c hc)
    refine ⟨(F.cb x c this).1, fun z => nC ?_⟩
    have z' : c = Cc := z
    subst z'
    exact List.mem_cons_of_mem _ (List.mem_map.mpr ⟨_, this, rfl⟩)
  · exact F.ap x y c (memc _ _ (mem_of_lookup hx)) (memc _ _ (mem_of_lookup hy))
end
end Mine
end
section
open PySem PySem.W PyProof.Rows
namespace Mine
section
variable {G : Gd} {C : Cx} {k n : Nat} {A : Around} {E : Value → Shared → Prop} {s : Shared} {α β : List Addr} {H : Hp} {sc : Scope} {env : Env} {ρ : Loc}

theorem iter_len {h : Heap} {v : Value} {src : V} {ds : List V} (V0 : VR G.W G.Cl h α β v src) (e : iter src = some ds) : ds.length ≤ 1000000 := by
  cases src <;> first | exact nos e | skip
  · cases V0 using VR.strE with
    | str e1 l1 => rw [← Option.some.inj e, List.length_map]; exact l1
  · exact ckm e fun h e => e ▸ szOk_le h
  · exact ckm e fun h e => e ▸ szOk_le h
  · refine ckm e fun h e => ?_
    rw [Bool.and_eq_true, Bool.and_eq_true] at h
    rw [← e, List.length_map, List.length_range]
    exact szOk_le h.1.1

/-- what a comprehension's loop does at its end -/
structure CompEnd (G : Gd) (s : Shared) (α β : List Addr) (sc : Scope) (env : Env) (ρ : Loc) (H' : Hp) (rs : List V) (acc : Value) (Cc : Addr) (α' : List Addr) (s' : Shared) : Prop where
  g : Go α s α' s'
  X : St G.W G.Cl G.B s'.heap α' (Cc :: β) H'
  V : VR G.W G.Cl s'.heap α' (Cc :: β) acc (.lst rs)
  F : Fm G s'.heap α' (Cc :: β) sc env ρ
  N : ∃ m, s'.heap.Ns Cc m
  nC : s.heap.get? Cc = none
  Cβ : Cc ∉ β

/-- one element -/
noncomputable def compE (C : Cx) (n : Nat) (sc' : Scope) (elt : Expr) (ifs : List Expr) (xs : List Str) (ρ : Loc) (v : V) (H : Hp) : Option (Option V × Hp) :=
  match tbind xs v with
  | some own => match evIf C n sc' ifs (own ++ ρ) H with
    | some (true, H) => (ev C n sc' elt (own ++ ρ) H).map fun r => (some r.1, r.2)
    | some (false, H) => some (none, H)
    | none => none
  | none => none
theorem compE_b (C : Cx) (n : Nat) (sc' : Scope) (elt : Expr) (ifs : List Expr) (xs : List Str) (ρ : Loc) (v : V) (H : Hp) : compE C n sc' elt ifs xs ρ v H = (tbind xs v).bind fun own => (evIf C n sc' ifs (own ++ ρ) H).bind fun x =>
    bif x.1 then (ev C n sc' elt (own ++ ρ) x.2).map fun r => (some r.1, r.2) else some (none, x.2) := by kernel_rfl
theorem compF_b (f : V → Hp → Option (Option V × Hp)) (v : V) (vs : List V) (H : Hp) : compF f (v :: vs) H = (f v H).bind fun x => match x.1 with
    | some r => (compF f vs x.2).map fun y => (r :: y.1, y.2)
    | none => compF f vs x.2 := by kernel_rfl

/-- what a comprehension's loop rests on -/
structure CP where
  G : Gd
  f : V → Hp → Option (Option V × Hp)
  I : Addr
  D : Addr
  Cc : Addr
  α1 : List Addr
  β : List Addr
  s0 : Shared
  J : Nat → Heap → Prop
  vs : List V
  rs : List V
  H' : Hp
noncomputable def CP.b (p : CP) : List Addr := [p.I, p.D, p.Cc]
structure CS (p : CP) (s1 : Shared) : Prop where
  k14 : ∀ b x, s1.heap.get? b = some x → p.s0.heap.get? b = some x
  fresh : ∀ a ∈ p.b, s1.heap.get? a = none
  neID : p.I ≠ p.D
  neIC : p.I ≠ p.Cc
  neDC : p.D ≠ p.Cc
  offβ : ∀ a ∈ p.β, a ∉ p.b
  same : ∃ h t, p.s0 = { s1 with heap := h, toks := t }
/-- where the loop stands -/
structure CI (p : CP) (j : Nat) (α' : List Addr) (H'' : Hp) (ys : List Value) (rs1 rs2 : List V) (s' : Shared) : Prop where
  hj : j ≤ p.vs.length
  J : p.J j s'.heap
  g : Gs p.b p.α1 p.s0 α' s'
  X : St p.G.W p.G.Cl p.G.B s'.heap α' (p.b ++ p.β) H''
  N : ∃ m, s'.heap.Ns p.Cc m
  acc : ∃ ob m, s'.heap.get? p.D = some ob ∧ ob.cls = .type "list" ∧ ob.data = .seq (List.toArray ys) m
  vv : VRs p.G.W p.G.Cl s'.heap α' (p.b ++ p.β) ys rs1
  q : compF p.f (p.vs.drop j) H'' = some (rs2, p.H')
  e : p.rs = rs1 ++ rs2
  l : ys.length ≤ j
section
variable {p : CP} {s1 s' : Shared} {j : Nat} {α' : List Addr} {H'' : Hp} {ys : List Value} {rs1 rs2 : List V}
theorem CP.mI : p.I ∈ p.b := .head _
theorem CP.mD : p.D ∈ p.b := .tail _ (.head _)
theorem CP.mC : p.Cc ∈ p.b := .tail _ (.tail _ (.head _))
theorem CP.bE {a : Addr} {P : Prop} (h : a ∈ p.b) (h1 : a = p.I → P) (h2 : a = p.D → P) (h3 : a = p.Cc → P) : P :=
  (List.mem_cons.mp h).elim h1 fun h => (List.mem_cons.mp h).elim h2 fun h => h3 (List.mem_singleton.mp h)
theorem CS.off (cs : CS p s1) {a : Addr} {x : Obj} {P : Prop} (h : a ∈ p.b) (e : s1.heap.get? a = some x) : P := sn0 (e.symm.trans (cs.fresh a h))
theorem CS.offδ (cs : CS p s1) {b : Addr} {x : Obj} (e : s1.heap.get? b = some x) (hb : b ∉ p.β) : b ∉ p.b ++ p.β := fun hm => (List.mem_append.mp hm).elim (fun z => cs.off z e) hb
theorem CI.keep1 (cs : CS p s1) (c : CI p j α' H'' ys rs1 rs2 s') {b : Addr} {x : Obj} (e : s1.heap.get? b = some x) (hb : b ∉ p.α1) : s'.heap.get? b = some x := c.g.keep b x (cs.k14 b x e) hb fun z => cs.off z e
theorem CI.off1 (cs : CS p s1) (c : CI p j α' H'' ys rs1 rs2 s') {b : Addr} {x : Obj} (e : s1.heap.get? b = some x) (hb : b ∉ p.α1) : b ∉ α' := c.g.toMs.off (cs.k14 b x e) hb
theorem CI.out (c : CI p j α' H'' ys rs1 rs2 s') {a : Addr} (h : a ∈ p.b) : a ∉ α' := (c.X.out a (List.mem_append_left _ h)).2.1
/-- past a step of the iterator -/
theorem CI.keep5 (cs : CS p s1) (c : CI p j α' H'' ys rs1 rs2 s') {h5 : Heap} (kp : ∀ b o, b ≠ p.I → s'.heap.get? b = some o → h5.get? b = some o) {b : Addr} {x : Obj} (e : s1.heap.get? b = some x) (hb : b ∉ p.α1) : h5.get? b = some x :=
  kp b x (fun z => cs.off (z ▸ CP.mI) e) (c.keep1 cs e hb)
theorem CI.kp1 (cs : CS p s1) (c : CI p j α' H'' ys rs1 rs2 s') {h5 : Heap} (kp : ∀ b o, b ≠ p.I → s'.heap.get? b = some o → h5.get? b = some o) : Kp s1.heap p.α1 p.β h5 α' (p.b ++ p.β) :=
  ⟨fun b o e ha hb => ⟨c.keep5 cs kp e ha, c.off1 cs e ha, cs.offδ e hb⟩, fun _ _ e => c.g.toMs.get e⟩

theorem CI.done {sc0 : Scope} {env0 : Env} {ρ0 : Loc} {α0 : List Addr} {H1 : Hp} {s : Shared} (cs : CS p s1) (c : CI p p.vs.length α' H'' ys rs1 rs2 s') (g1 : Go α0 s p.α1 s1) (X1 : St p.G.W p.G.Cl p.G.B s1.heap p.α1 p.β H1) (F1 : Fm p.G s1.heap p.α1 p.β sc0 env0 ρ0)
    {h' : Heap} {tk : Nat} (kp : ∀ b o, b ≠ p.I → s'.heap.get? b = some o → h'.get? b = some o) : CompEnd p.G s α0 p.β sc0 env0 ρ0 p.H' p.rs (.ref p.D) p.Cc α' { s' with heap := h', toks := tk } := by
  have q := c.q
  rw [List.drop_length] at q
  obtain ⟨rfl, rfl⟩ := Prod.mk.inj (Option.some.inj q)
  obtain ⟨ob, dn, Do, Dc, Dd⟩ := c.acc
  have nm : ∀ {a : Addr}, a ∈ p.b → a ∉ p.β := fun h z => cs.offβ _ z h
  have nc : ∀ {a : Addr}, a ∉ p.b → a ∉ p.β → a ∉ p.Cc :: p.β := fun h z w => (List.mem_cons.mp w).elim (fun q => h (q ▸ CP.mC)) z
  refine ⟨g1.trans ⟨⟨fun b x e hb => c.keep5 cs kp e hb, fun b x e => ?_, c.g.ext.elim fun δ e => ⟨δ, e.1, fun a ha => ?_⟩⟩, ?_⟩, ?_, ?_, ?_, ?_, ?_, nm CP.mC⟩
  · obtain ⟨x', e'⟩ := c.g.there b x (cs.k14 b x e)
    exact ⟨x', kp b x' (fun z => cs.off (z ▸ CP.mI) e) e'⟩
  · cases q : s1.heap.get? a with
    | none => rfl
    | some x => exact nos ((e.2 a ha).symm.trans (cs.k14 a x q))
  · obtain ⟨h0, t0, e0⟩ := c.g.same
    obtain ⟨h1, t1, e1⟩ := cs.same
    exact ⟨h', tk, by rw [e0, e1]⟩
  · refine c.X.gen (I := p.I) (β' := p.Cc :: p.β) kp (List.mem_append_left _ CP.mI) fun a ha => ?_
    rcases List.mem_cons.mp ha with rfl | ha
    · exact ⟨List.mem_append_left _ CP.mC, cs.neIC.symm⟩
    · exact ⟨List.mem_append_right _ ha, fun z => cs.offβ a ha (z ▸ CP.mI)⟩
  · have vy : VRs p.G.W p.G.Cl h' α' (p.Cc :: p.β) ys rs1 := c.vv.kp ⟨fun b x e ha hb => ⟨kp b x (fun z => hb (z ▸ List.mem_append_left _ CP.mI)) e, ha, nc (fun z => hb (List.mem_append_left _ z)) fun z => hb (List.mem_append_right _ z)⟩, fun _ _ e => e⟩
    rw [c.e, List.append_nil]
    exact .lst (kp p.D ob cs.neID.symm Do) (c.out CP.mD) (fun w => (List.mem_cons.mp w).elim cs.neDC (nm CP.mD)) Dc Dd vy
  · exact F1.gen X1 (fun b x e hb => ⟨c.keep5 cs kp e hb, c.off1 cs e hb⟩) (fun _ _ e => c.g.toMs.get e) (fun b x e hb z => (List.mem_cons.mp z).elim (fun z => cs.off (z ▸ CP.mC) e) hb) fun b hb => List.mem_cons_of_mem _ hb
  · obtain ⟨m, x, es, ep, e, r⟩ := c.N
    exact ⟨m, x, es, ep, kp _ _ cs.neIC.symm e, r⟩
  · cases e : s.heap.get? p.Cc with
    | none => rfl
    | some x => exact (g1.there _ _ e).elim fun x' e' => cs.off CP.mC e'

theorem CI.next (cs : CS p s1) {A : Around} (It : Itr p.G A p.I p.vs s1.heap p.α1 p.β p.J) (c : CI p j α' H'' ys rs1 rs2 s') (hj : j < p.vs.length) {h5 : Heap} {tk : Nat} (J5 : p.J (j + 1) h5) (kp : ∀ b o, b ≠ p.I → s'.heap.get? b = some o → h5.get? b = some o) (gI : Gs p.b α' s' α' { s' with heap := h5, toks := tk })
    {α9 : List Addr} {s9 : Shared} {H9 : Hp} {ys9 : List Value} {rs9 rsr : List V} (g9 : Gs [p.D, p.Cc] α' { s' with heap := h5, toks := tk } α9 s9) (X9 : St p.G.W p.G.Cl p.G.B s9.heap α9 (p.b ++ p.β) H9) (N9 : ∃ m, s9.heap.Ns p.Cc m)
    (D9 : ∃ ob m, s9.heap.get? p.D = some ob ∧ ob.cls = .type "list" ∧ ob.data = .seq (List.toArray ys9) m) (V9 : VRs p.G.W p.G.Cl s9.heap α9 (p.b ++ p.β) ys9 rs9) (q9 : compF p.f (p.vs.drop (j + 1)) H9 = some (rsr, p.H')) (e9 : p.rs = rs9 ++ rsr) (l9 : ys9.length ≤ j + 1) : CI p (j + 1) α9 H9 ys9 rs9 rsr s9 :=
  ⟨hj, It.keep _ _ _ J5 (fun x e => g9.keep _ _ e (c.out CP.mI) fun z => (List.mem_cons.mp z).elim cs.neID fun z => cs.neIC (List.mem_singleton.mp z)) (fun b x e ha hb => g9.keep _ _ (c.keep5 cs kp e ha) (c.off1 cs e ha) fun z => cs.off (List.mem_cons_of_mem _ z) e),
    (c.g.trans gI).trans ⟨g9.toMs.more fun a ha => List.mem_cons_of_mem _ ha, g9.same⟩, X9, N9, D9, V9, q9, e9, l9⟩
end

/-- what is left of a turn, once the iterator gave v -/
noncomputable def TurnP (G : Gd) (A : Around) (elt tgt : Expr) (ifs : List Expr) (acc it : Value) (env : Env) (K : Shared → Prop) (Er : Value → Shared → Prop) (v : Value) (s : Shared) : Prop :=
  wpAny (model G.prog G.W) A (letOwnedTupleGo tgt it v) (fun _ s₁' => wpAny (model G.prog G.W) A (assign tgt env v) (fun _ s₂ =>
    wpAny (model G.prog G.W) A (forIn ifs true fun c r => if r = true then do let ok ← isTrue c env (eval c env); pure (ForInStep.yield ok) else pure (ForInStep.yield r)) (fun ok s₃ =>
      if ok = true then wpAny (model G.prog G.W) A (eval elt env) (fun x s₄ =>
        wpAny (model G.prog G.W) A (call (.builtin "list.append") [acc, x]) (fun _ s₅ => K s₅) Er s₄) Er s₃
      else K s₃) Er s₂) Er s₁') Er s

theorem comp_turn {p : CP} (ih : Sall p.G C k n) {elt tgt : Expr} {ifs : List Expr} {sc' : Scope} {xs : List Str} {s1 s' : Shared} {j : Nat} {α' : List Addr} {H1 H'' : Hp} {ys : List Value} {rs1 rs2 : List V} {h5 : Heap} {tk : Nat} {v : Value} {d : V} {K : Shared → Prop} {Er : Value → Shared → Prop}
    (hf : p.f = compE C n sc' elt ifs xs ρ) (R : Rm A k) (cs : CS p s1) (X1 : St p.G.W p.G.Cl p.G.B s1.heap p.α1 p.β H1) (F1 : Fm p.G s1.heap p.α1 p.β sc env ρ) (ht : tnames tgt = some xs) (hc : compScOk sc sc' xs = true) (d0 : lk dot0 ρ = none)
    (It : Itr p.G A p.I p.vs s1.heap p.α1 p.β p.J) (hl : p.vs.length ≤ 1000000) (c : CI p j α' H'' ys rs1 rs2 s') (hd : p.vs[j]? = some d) (V5 : VR p.G.W p.G.Cl s1.heap p.α1 p.β v d) (J5 : p.J (j + 1) h5) (kp : ∀ b o, b ≠ p.I → s'.heap.get? b = some o → h5.get? b = some o)
    (fin : ∀ α9 H9 ys9 rs9 rsr s9, CI p (j + 1) α9 H9 ys9 rs9 rsr s9 → K s9) : TurnP p.G A elt tgt ifs (.ref p.D) (.ref p.I) (compEnvC sc' (closeL env sc'.names []) p.Cc env) K Er v { s' with heap := h5, toks := tk } := by
  have hj' : j < p.vs.length := (List.getElem?_eq_some_iff.mp hd).1
  have qF := c.q
  rw [show p.vs.drop j = d :: p.vs.drop (j + 1) from by rw [List.drop_eq_getElem_cons hj', (List.getElem?_eq_some_iff.mp hd).2], compF_b] at qF
  refine bndE qF fun x e qF => ?_
  rw [hf, compE_b] at e
  refine bndE e fun own hb e => bndE e fun y qi e => ?_
  obtain ⟨oI, TI, eI, cI, hIn⟩ := It.cls _ _ J5
  refine letOwned_ok (s := { s' with heap := h5, toks := tk }) eI cI hIn ?_
  have gI : ∀ α : List Addr, Ms [p.I] α s'.heap α h5 := fun α => ⟨fun b x e _ hb => kp b x (fun z => hb (List.mem_singleton.mpr z)) e, fun b x e => by
    by_cases hb : b = p.I
    · exact ⟨oI, hb ▸ eI⟩
    · exact ⟨x, kp b x hb e⟩, [], (List.append_nil _).symm, fun _ z => nomatch z⟩
  have kbI : ∀ a ∈ [p.I], a ∈ p.b ++ p.β := fun a ha => List.mem_singleton.mp ha ▸ List.mem_append_left _ CP.mI
  have kbD : ∀ a ∈ [p.D], a ∈ p.b ++ p.β := fun a ha => List.mem_singleton.mp ha ▸ List.mem_append_left _ CP.mD
  have kbC : ∀ a ∈ [p.Cc], a ∈ p.b ++ p.β := fun a ha => List.mem_singleton.mp ha ▸ List.mem_append_left _ CP.mC
  have K1 := c.kp1 cs kp
  have gI5 : Gs p.b α' s' α' { s' with heap := h5, toks := tk } := Gs.of ((gI α').more fun a ha => List.mem_singleton.mp ha ▸ CP.mI)
  have FP : Fm p.G h5 α' (p.b ++ p.β) sc env ρ := F1.gen X1 (fun b x e hb => ⟨c.keep5 cs kp e hb, c.off1 cs e hb⟩) K1.g (fun b x e hb => cs.offδ e hb) fun b hb => List.mem_append_right _ hb
  obtain ⟨m5, N5⟩ : ∃ m, h5.Ns p.Cc m := by
    obtain ⟨m, x, es, ep, e, r⟩ := c.N
    exact ⟨m, x, es, ep, kp _ _ cs.neIC.symm e, r⟩
  have FC := compFm (xs := xs) FP hc d0 N5 (List.mem_append_left _ CP.mC) fun ha => cs.offβ _ (F1.frB _ ha) CP.mC
  obtain ⟨ob, dn, Do, Dc, Dd⟩ := c.acc
  have D5 : h5.get? p.D = some ob := kp p.D ob cs.neID.symm Do
  have VY5 := c.vv.ms (gI α') kbI
  refine compTgt_ok (s := { s' with heap := h5, toks := tk }) R.hd (c.X.ms (gI []) kbI) FC ht hb (fun x hx => FC.ks x _ ((compSc hc).2.1 x hx)) (V5.kp K1) fun s6 g6 X6 F6 => ?_
  have F6' := F6.less (ρ' := own ++ ρ) fun x d' e => by rw [← hide_own hb]; exact e
  have g6' : Gs [p.Cc] α' { s' with heap := h5, toks := tk } α' s6 := g6
  refine ih.evIf qi R X6 F6' fun α7 s7 g7 X7 => ?_
  have g57 := g6'.trans g7.gs
  have toDC : ∀ {α8 : List Addr} {s8 : Shared}, Gs [p.Cc] α' { s' with heap := h5, toks := tk } α8 s8 → Gs [p.D, p.Cc] α' { s' with heap := h5, toks := tk } α8 s8 := fun g => ⟨g.toMs.more fun a ha => .tail _ ha, g.same⟩
  have Dk : ∀ {α8 : List Addr} {s8 : Shared}, Gs [p.Cc] α' { s' with heap := h5, toks := tk } α8 s8 → s8.heap.get? p.D = some ob := fun g => g.keep _ _ D5 (c.out CP.mD) fun z => cs.neDC (List.mem_singleton.mp z)
  have F7 := F6'.mv X6 g7.toMv
  obtain ⟨t, H7⟩ := y
  cases t with
  | false =>
    cases e
    obtain ⟨m7, N7, _⟩ := F7.ns
    exact fin _ _ _ _ _ _ (c.next cs It hj' J5 kp gI5 (toDC g57) X7 ⟨m7, N7⟩ ⟨ob, dn, Dk g57, Dc, Dd⟩ (VY5.ms g57.toMs kbC) qF c.e (Nat.le_succ_of_le c.l))
  | true =>
    refine mpd e fun y qe e => ?_
    obtain ⟨r, Hy⟩ := y
    cases e
    refine mpd qF fun z qr e => ?_
    obtain ⟨rsr, Hr⟩ := z
    cases e
    refine ih.ev qe R X7 F7 fun u α8 s8 g8 X8 V8 => ?_
    have g58 := g57.trans g8.gs
    refine list_append_raw (items := List.toArray ys) (Dk g58) Dc Dd (fun h9 ob9 o1 o2 o0 o3 hs => ?_) (by rw [List.size_toArray, sizeLine_eq]; have := c.l; (first | lia | omega))
    obtain ⟨m9, o3⟩ := o3
    have gD9 : ∀ α : List Addr, Ms [p.D] α s8.heap α h9 := fun α => Ms.upd List.mem_cons_self hs ⟨_, o1⟩
    obtain ⟨m8, N8, _⟩ := (F7.mv X7 g8.toMv).ns
    refine fin _ _ _ _ _ _ (c.next cs It hj' J5 kp gI5 (s9 := { s8 with heap := h9 }) (ys9 := ys ++ [u]) (rs9 := rs1 ++ [r]) ((toDC g58).trans (Gs.of (tk := s8.toks) ((gD9 α8).more fun a ha => List.mem_singleton.mp ha ▸ .head _))) (X8.ms (gD9 []) kbD) ⟨m8, N8.sameBut hs cs.neDC.symm⟩
      ⟨ob9, m9, o1, o2, by rw [o3, List.push_toArray]⟩ (((VY5.ms g58.toMs kbC).ms (gD9 α8) kbD).append (.cons (V8.ms (gD9 α8) kbD) .nil)) qr (by rw [c.e, List.append_assoc]; rfl) (by rw [List.length_append]; exact Nat.succ_le_succ c.l))

theorem comp_loop {p : CP} (ih : Sall p.G C k n) {elt tgt it : Expr} {ifs : List Expr} {sc' : Scope} {pos : Pos} {xs : List Str} {s1 : Shared} {H1 : Hp} {use : Option (Value → Sem Unit)} {Q : Value → Shared → Prop} {α0 : List Addr}
    (hf : p.f = compE C n sc' elt ifs xs ρ) (R : Rm A k) (cs : CS p s1) (g1 : Go α0 s p.α1 s1) (X1 : St p.G.W p.G.Cl p.G.B s1.heap p.α1 p.β H1) (F1 : Fm p.G s1.heap p.α1 p.β sc env ρ) (ht : tnames tgt = some xs) (hc : compScOk sc sc' xs = true) (d0 : lk dot0 ρ = none)
    (It : Itr p.G A p.I p.vs s1.heap p.α1 p.β p.J) (hl : p.vs.length ≤ 1000000) (hU : ∀ acc Cc α' s', CompEnd p.G s α0 p.β sc env ρ p.H' p.rs acc Cc α' s' → compPost (model p.G.prog p.G.W) A E use Q acc Cc (.ok .next) s')
    (c0 : CI p 0 p.α1 H1 [] [] p.rs p.s0) : codeAny (model p.G.prog p.G.W) A (.compLoop (.ListComp elt [⟨tgt, it, ifs, 0⟩] sc' pos) 0 (.ref p.I) (.ref p.D) (compEnvC sc' (closeL env sc'.names []) p.Cc env)) (compPost (model p.G.prog p.G.W) A E use Q (.ref p.D) p.Cc) p.s0 :=
  compLoop_any (fun m s' => ∃ j α' H'' ys rs1 rs2, m = p.vs.length - j ∧ CI p j α' H'' ys rs1 rs2 s') (fun m s' inv => by
    obtain ⟨j, α', H'', ys, rs1, rs2, rfl, c⟩ := inv
    cases hd : p.vs[j]? with
    | none =>
      have : j = p.vs.length := Nat.le_antisymm c.hj (List.getElem?_eq_none_iff.mp hd)
      subst this
      exact It.done s' _ _ c.J fun h' tk kp => hU _ _ α' _ (c.done cs g1 X1 F1 kp)
    | some d =>
      have hj' : j < p.vs.length := (List.getElem?_eq_some_iff.mp hd).1
      exact It.next j d s' _ _ hd c.J fun v h5 tk V5 J5 kp => comp_turn ih hf R cs X1 F1 ht hc d0 It hl c hd V5 J5 kp fun α9 H9 ys9 rs9 rsr s9 c9 => ⟨_, Nat.sub_lt_sub_left hj' (Nat.lt_succ_self j), _, _, _, _, _, _, rfl, c9⟩)
    p.vs.length ⟨0, _, _, _, _, _, rfl, c0⟩

theorem comp_start {p : CP} (ih : Sall p.G C k n) {elt tgt it : Expr} {ifs : List Expr} {sc' : Scope} {pos : Pos} {xs : List Str} {s1 : Shared} {H1 : Hp} {use : Option (Value → Sem Unit)} {Q : Value → Shared → Prop} {α0 : List Addr} {h2 h3 : Heap} {o : Obj} {M : Str → Option Value}
    (hf : p.f = compE C n sc' elt ifs xs ρ) (R : Rm A k) (g1 : Go α0 s p.α1 s1) (X1 : St p.G.W p.G.Cl p.G.B s1.heap p.α1 p.β H1) (F1 : Fm p.G s1.heap p.α1 p.β sc env ρ) (ht : tnames tgt = some xs) (hc : compScOk sc sc' xs = true) (d0 : lk dot0 ρ = none)
    (It : Itr p.G A p.I p.vs s1.heap p.α1 p.β p.J) (hl : p.vs.length ≤ 1000000) (hU : ∀ acc Cc α' s', CompEnd p.G s α0 p.β sc env ρ p.H' p.rs acc Cc α' s' → compPost (model p.G.prog p.G.W) A E use Q acc Cc (.ok .next) s')
    (I2 : h2.get? p.I = some o) (nI : s1.heap.get? p.I = none) (kI : ∀ b x, s1.heap.get? b = some x → h2.get? b = some x) (nD : h2.get? p.D = none) (kD : ∀ b x, h2.get? b = some x → h3.get? b = some x) (gD : h3.get? p.D = some { cls := .type "list", data := .seq ([] : List Value).toArray }) (nC : h3.get? p.Cc = none)
    (ns4 : p.s0.heap.Ns p.Cc M) (k34 : ∀ b x, h3.get? b = some x → p.s0.heap.get? b = some x) (J0 : p.J 0 h2) (qc : compF p.f p.vs H1 = some (p.rs, p.H')) (same : ∃ h t, p.s0 = { s1 with heap := h, toks := t }) :
    codeAny (model p.G.prog p.G.W) A (.compStart (.ListComp elt [⟨tgt, it, ifs, 0⟩] sc' pos) 0 (.ref p.I) (.ref p.D) (compEnvC sc' (closeL env sc'.names []) p.Cc env)) (compPost (model p.G.prog p.G.W) A E use Q (.ref p.D) p.Cc) p.s0 := by
  have none_of : ∀ {b : Addr} {h : Heap}, (∀ b x, s1.heap.get? b = some x → h.get? b = some x) → h.get? b = none → s1.heap.get? b = none := fun {b h} kk e => by
    cases e' : s1.heap.get? b with
    | none => rfl
    | some x => exact nos (e.symm.trans (kk b x e'))
  have k13 : ∀ b x, s1.heap.get? b = some x → h3.get? b = some x := fun b x e => kD b x (kI b x e)
  have k14 : ∀ b x, s1.heap.get? b = some x → p.s0.heap.get? b = some x := fun b x e => k34 b x (k13 b x e)
  have fresh : ∀ a ∈ p.b, s1.heap.get? a = none := fun a ha => CP.bE ha (fun z => z ▸ nI) (fun z => z ▸ none_of kI nD) (fun z => z ▸ none_of k13 nC)
  have I3 := kD _ _ I2
  have cs : CS p s1 := ⟨k14, fresh, fun z => sn0 (I2.symm.trans (z ▸ nD)), fun z => sn0 (I3.symm.trans (z ▸ nC)), fun z => sn0 (gD.symm.trans (z ▸ nC)), fun a ha hm => (X1.out a ha).1.elim fun x e => sn0 (e.symm.trans (fresh a hm)), same⟩
  have X4 : St p.G.W p.G.Cl p.G.B p.s0.heap p.α1 (p.b ++ p.β) H1 := X1.enl k14 fun a ha => ⟨fresh a ha, CP.bE ha (fun z => ⟨_, z ▸ k34 _ _ I3⟩) (fun z => ⟨_, z ▸ k34 _ _ gD⟩) (fun z => let ⟨x, _, _, e, _⟩ := ns4; ⟨x, z ▸ e⟩)⟩
  have kJ : ∀ b o, s1.heap.get? b = some o → b ∉ p.α1 → b ∉ p.β → p.s0.heap.get? b = some o := fun b x e _ _ => k14 b x e
  have J4 := It.keep _ _ p.s0.heap J0 (fun x e => k34 _ _ (kD _ _ e)) kJ
  have loop := comp_loop (pos := pos) (it := it) (E := E) (use := use) (Q := Q) ih hf R cs g1 X1 F1 ht hc d0 It hl hU ⟨Nat.zero_le _, J4, Gs.refl _ _ _, X4, ⟨_, ns4⟩, ⟨_, _, k34 _ _ gD, rfl, rfl⟩, .nil, qc, rfl, Nat.zero_le _⟩
  exact codeAny_compStart_list loop (It.self 0 p.s0 _ _ J4 loop)

theorem comp_core (ih : Sall G C k n) {elt tgt it : Expr} {ifs : List Expr} {sc' : Scope} {pos p0 : Pos} {src : V} {vs rs : List V} {xs : List Str} {H1 H' : Hp} {use : Option (Value → Sem Unit)} {Q : Value → Shared → Prop}
    (R : Rm A k) (X : St G.W G.Cl G.B s.heap α β H) (F : Fm G s.heap α β sc env ρ)
    (q0 : ev C n sc it ρ H = some (src, H1)) (hi : iter src = some vs) (ht : tnames tgt = some xs) (hc : compScOk sc sc' xs = true) (d0 : lk dot0 ρ = none)
    (qc : compF (compE C n sc' elt ifs xs ρ) vs H1 = some (rs, H'))
    (hU : ∀ acc Cc α' s', CompEnd G s α β sc env ρ H' rs acc Cc α' s' → compPost (model G.prog G.W) A E use Q acc Cc (.ok .next) s') :
    wpAny (model G.prog G.W) A (comprehension (.ListComp elt [⟨tgt, it, ifs, 0⟩] sc' pos) sc' env p0 (newList []) false (eval it env) use) Q E s := by
  obtain ⟨c1, c2, c3⟩ := compSc hc
  have noSet : ∀ x, foldedSetIterable it env x = pure x := fun x => by
    cases it <;> first | rfl | skip
    cases n with
    | zero => exact nos q0
    | succ n => exact nos q0
  refine wpAny_comprehension_free (cl := closeL env sc'.names []) rfl noSet (closureFor_eq fun p hp hf => ?_) c1 (fun p hp hl => ?_) ?_
  · rcases c3 p hp with ⟨z, _⟩ | ⟨z, z2⟩ | z
    · rw [z] at hf; exact NameKind.noConfusion hf
    · obtain ⟨c, _, e, _⟩ := F.cl p.1 (F.ks _ _ z2)
      exact ⟨c, e⟩
    · rw [z] at hf; exact NameKind.noConfusion hf
  · rcases c3 p hp with ⟨z, z2, z3⟩ | ⟨z, z2⟩ | z
    · rw [← lk_eq]; exact z3
    · rw [z] at hl; exact NameKind.noConfusion hl
    · rw [z] at hl; exact NameKind.noConfusion hl
  refine ih.ev q0 R X F fun w α1 s1 g1 X1 V1 => iter_ok R.hd X1 V1 hi fun o J ho It J0 => ?_
  refine wpAny_newList ?_ (by rw [sizeLine_eq]; exact Nat.zero_le _)
  refine wpAny_newFunctionEnv (fun p hp z => ?_) (fun x hx => nomatch hx) (fun h4 ns4 sb4 => ?_) c1
  · rcases c3 p hp with ⟨z', _⟩ | ⟨z', _⟩ | z' <;> (rw [z'] at z; exact NameKind.noConfusion z)
  have kI := push_keep (h := s1.heap) o
  have kD := push_keep (h := s1.heap.push o) { cls := .type "list", data := .seq ([] : List Value).toArray }
  have nC3 := size_none ((s1.heap.push o).push { cls := .type "list", data := .seq ([] : List Value).toArray })
  have gD : ((s1.heap.push o).push { cls := .type "list", data := .seq ([] : List Value).toArray }).get? (s1.heap.push o).objs.size = some { cls := .type "list", data := .seq ([] : List Value).toArray } := Heap.get?_push_size _ rfl
  exact comp_start (p := ⟨G, _, s1.heap.objs.size, (s1.heap.push o).objs.size, ((s1.heap.push o).push { cls := .type "list", data := .seq ([] : List Value).toArray }).objs.size, α1, β, { s1 with heap := h4, toks := s1.toks + 0 }, J, vs, rs, H'⟩)
    ih rfl R g1 X1 (F.mv X g1.toMv) ht hc d0 It (iter_len V1 hi) hU ho (size_none _) kI (size_none _) kD gD nC3 ns4 (fun b x e => (sb4.2 b fun z => sn0 (e.symm.trans (z ▸ nC3))).trans (push_keep _ b x e)) J0 qc ⟨_, _, rfl⟩
end
end Mine
end
section
open PySem PySem.W PyProof.Rows
namespace Mine
section
variable {G : Gd} {C : Cx} {k n : Nat} {A : Around} {E : Value → Shared → Prop} {s : Shared} {α β : List Addr} {H : Hp} {sc : Scope} {env : Env} {ρ : Loc}

/-- after the loop the comprehension's names go -/
theorem compEnd_fin {H' : Hp} {rs : List V} {acc : Value} {Cc : Addr} {α' : List Addr} {s' : Shared} {Q : Value → Shared → Prop} (c : CompEnd G s α β sc env ρ H' rs acc Cc α' s') (f : FinV G.W G.Cl G.B α β s H' (.lst rs) Q) :
    compPost (model G.prog G.W) A E none Q acc Cc (.ok .next) s' := by
  obtain ⟨g, X, V0, F, N, nC, Cβ⟩ := c
  obtain ⟨m, hm⟩ := N
  refine ⟨m, hm, fun h' hs => f acc α' _ ?_ (X.gen (I := Cc) (fun b o hb e => (hs.2 b hb).trans e) List.mem_cons_self fun a ha => ⟨List.mem_cons_of_mem _ ha, fun z => Cβ (z ▸ ha)⟩)
    (V0.gen (fun b o e ha hb => ⟨(hs.2 b fun z => hb (by simp [z])).trans e, ha, fun z => hb (List.mem_cons_of_mem _ z)⟩) fun _ _ e => e)⟩
  refine ⟨⟨fun b o e hb => (hs.2 b fun z => by rw [z, nC] at e; cases e).trans (g.keep b o e hb), fun b o e => ?_, g.ext⟩, ?_⟩
  · obtain ⟨o', e'⟩ := g.there b o e
    exact ⟨o', (hs.2 b fun z => by rw [z, nC] at e; cases e).trans e'⟩
  · obtain ⟨h0, t0, rfl⟩ := g.same
    exact ⟨h', t0, rfl⟩

theorem ob {α β : Type} {o : Option α} {f : α → Option β} {x : β} (h : o.bind f = some x) {P : Prop} (k : ∀ a, o = some a → f a = some x → P) : P :=
  let ⟨a, e, q⟩ := Option.bind_eq_some_iff.mp h; k a e q
section
variable {e : Expr} {r : V} {H' : Hp} {Q : Value → Shared → Prop}
theorem evn_ok (En : En G) (cx : CxOk G k C) {x : Str} {p : Pos} (q : ev C (n + 1) sc (.Name x p) ρ H = some (r, H')) (X : St G.W G.Cl G.B s.heap α β H) (F : Fm G s.heap α β sc env ρ) (f : FinV G.W G.Cl G.B α β s H' r Q) :
    wpAny (model G.prog G.W) A (eval (.Name x p) env) Q E s := by
  rw [e_name] at q
  cases nd : leq (cps x) dbgN with
  | true => rw [nd] at q; exact nos q
  | false =>
    rw [nd] at q
    cases kl : kindIs sc x isLoc with
    | true =>
      rw [kl] at q
      obtain ⟨v, q9, e1⟩ := Option.map_eq_some_iff.mp q
      cases e1
      exact name_loc F nd kl q9 fun w V1 => f.same X V1
    | false =>
      rw [kl] at q
      cases kg : kindIs sc x isGlob with
      | true =>
        rw [kg] at q
        obtain ⟨v, q9, e1⟩ := Option.map_eq_some_iff.mp q
        cases e1
        rw [cx.glob] at q9
        obtain ⟨w, e2, V1⟩ := En.glob x _ q9
        exact name_glob En X F nd kg e2 (f.same X (V1.lift X.glob))
      | false => rw [kg] at q; exact nos q
theorem evi_ok (cx : CxOk G k C) (ih : Sall G C k n) {b i : Expr} {p : Pos} (q : ev C (n + 1) sc (.Subscript b i p) ρ H = some (r, H')) (R : Rm A k) (X : St G.W G.Cl G.B s.heap α β H) (F : Fm G s.heap α β sc env ρ) (f : FinV G.W G.Cl G.B α β s H' r Q) :
    wpAny (model G.prog G.W) A (eval (.Subscript b i p) env) Q E s := by
  cases hi : isSlice i with
  | false =>
    rw [e_idx _ _ _ hi] at q
    refine ob q fun y q1 q => ob q fun z q2 q => ?_
    obtain ⟨v, q4, e1⟩ := Option.map_eq_some_iff.mp q
    cases e1
    exact Subscript_ (ih.evI q1 R X F fun w α1 s1 g1 X1 V1 => ih.ev q2 R X1 (F.mv X g1.toMv) fun u α2 s2 g2 X2 V2 => sub_ok X2 (V1.mv g2.toMv) V2 q4 ((f.from g1).from g2))
  | true =>
    cases i with
    | Slice lo hi' st p1 =>
      cases st with
      | some st =>
        have q : (evI C n sc b ρ H).bind (fun x => (ev C n sc (.Slice lo hi' (some st) p1) ρ x.2).bind fun y => (sub y.2 x.1 y.1).map (vh y.2)) = some (r, H') := by rw [← q]; kernel_rfl
        exact ob q fun y q1 q => ob q fun z q2 q => by cases n <;> exact nos q2
      | none =>
        rw [e_sli] at q
        refine ob q fun y q1 q => ob q fun z q2 q => ob q fun u q3 q => ?_
        obtain ⟨v, q4, e1⟩ := Option.map_eq_some_iff.mp q
        cases e1
        refine Subscript_ (ih.evI q1 R X F fun w α1 s1 g1 X1 V1 => wpAny_Slice (ih.evO q2 R X1 (F.mv X g1.toMv) fun u α2 s2 g2 X2 V2 => ih.evO q3 R X2 ((F.mv X g1.toMv).mv X1 g2.toMv) fun u2 α3 s3 g3 X3 V3 => ?_))
        exact evalPart_none_step (slice_ok X3 ((V1.mv g2.toMv).mv g3.toMv) V2 V3 q4 (((f.from g1).from g2).from g3))
    | _ => exact ff0 hi
theorem eva_ok (En : En G) (cx : CxOk G k C) (ih : Sall G C k n) {o : Expr} {a : Str} {p : Pos} (q : ev C (n + 1) sc (.Attribute o a p) ρ H = some (r, H')) (R : Rm A k) (X : St G.W G.Cl G.B s.heap α β H) (F : Fm G s.heap α β sc env ρ) (f : FinV G.W G.Cl G.B α β s H' r Q) :
    wpAny (model G.prog G.W) A (eval (.Attribute o a p) env) Q E s := by
  rw [e_att] at q
  obtain ⟨ha, q⟩ := chk_some q
  rw [Bool.and_eq_true, cx.attr] at ha
  unfold attK at q
  split at q
  · rename_i i H1 q1
    split at q
    · rename_i fs q2
      obtain ⟨v, q3, e1⟩ := Option.map_eq_some_iff.mp q
      cases e1
      exact attr_ok En ih R X F ha.2 ha.1 q1 q2 q3 f
    · exact nos q
  · exact nos q
theorem evk_ok (En : En G) (cx : CxOk G k C) (ih : Sall G C k n) {fn : Expr} {as : List Expr} {ks : List Keyword} {p : Pos} (q : ev C (n + 1) sc (.Call fn as ks p) ρ H = some (r, H')) (R : Rm A k) (X : St G.W G.Cl G.B s.heap α β H) (F : Fm G s.heap α β sc env ρ) (f : FinV G.W G.Cl G.B α β s H' r Q) :
    wpAny (model G.prog G.W) A (eval (.Call fn as ks p) env) Q E s := by
  cases fn with
  | Name x p1 =>
    cases ks with
    | cons _ _ => exact nos q
    | nil =>
      rw [e_call] at q
      obtain ⟨kg, q⟩ := chk_some q
      rw [Bool.and_eq_true, Bool.not_eq_true'] at kg
      refine ob q fun y q1 q => ?_
      exact nameCall_ok En cx ih R X F kg.1 kg.2 q1 q f
  | Attribute o m p1 =>
    cases ks with
    | cons _ _ => exact nos q
    | nil =>
      rw [e_meth] at q
      obtain ⟨hg, q⟩ := chk_some q
      exact methCall_ok En cx ih R X F hg q f
  | _ => cases ks <;> exact nos q
theorem evc_ok {elt : Expr} {gs : List Comprehension} {sc' : Scope} {p : Pos} (q : ev C (n + 1) sc (.ListComp elt gs sc' p) ρ H = some (r, H')) :
    ∃ tgt it ifs src vs xs rs H1, gs = [⟨tgt, it, ifs, 0⟩] ∧ r = .lst rs ∧ ev C n sc it ρ H = some (src, H1) ∧ iter src = some vs ∧ tnames tgt = some xs ∧ compScOk sc sc' xs = true ∧ lk dot0 ρ = none ∧ compF (compE C n sc' elt ifs xs ρ) vs H1 = some (rs, H') := by
  cases gs with
  | nil => exact nos q
  | cons g gs =>
    obtain ⟨tgt, it, ifs, as⟩ := g
    cases as with
    | negSucc _ => cases gs <;> exact nos q
    | ofNat as =>
    cases as with
    | succ _ => cases gs <;> exact nos q
    | zero =>
      cases gs with
      | cons _ _ => exact nos q
      | nil =>
        have q : _ = some (r, H') := (e_comp0 ..).symm.trans q
        refine ob q fun y q0 q => ?_
        cases hi : iter y.1 with
        | none => rw [hi] at q; exact nos q
        | some vs =>
          cases ht : tnames tgt with
          | none => rw [hi, ht] at q; exact nos q
          | some xs =>
            rw [hi, ht] at q
            obtain ⟨hc, q⟩ := chk_some q
            obtain ⟨⟨rs, H2⟩, qc, e1⟩ := Option.map_eq_some_iff.mp q
            cases e1
            rw [Bool.and_eq_true] at hc
            refine ⟨_, _, _, _, _, _, _, _, rfl, rfl, q0, hi, ht, hc.1, Option.isNone_iff_eq_none.mp hc.2, ?_⟩
            rw [← qc]
            refine congrArg (fun f => compF f vs y.2) (funext fun v => funext fun H => ?_)
            unfold compE
            kernel_rfl
end
theorem ev_ok (En : En G) (cx : CxOk G k C) (ih : Sall G C k n) : SEv G C k (n + 1) := by
  intro sc e ρ H H' r q A E s α β env Q R X F f
  cases e with
  | Constant c kk p => exact const_ok X q f
  | Name x p => exact evn_ok En cx q X F f
  | BinOp l op rr p =>
    rw [e_bin] at q
    refine ob q fun y q1 q => ob q fun z q2 q => ?_
    obtain ⟨v, q3, e1⟩ := Option.map_eq_some_iff.mp q
    cases e1
    exact wpAny_BinOp (ih.evI q1 R X F fun w α1 s1 g1 X1 V1 => ih.evI q2 R X1 (F.mv X g1.toMv) fun u α2 s2 g2 X2 V2 => binop_ok X2 (V1.mv g2.toMv) V2 q3 ((f.from g1).from g2))
  | UnaryOp op x p =>
    rw [e_un] at q
    refine ob q fun y q1 q => ?_
    obtain ⟨v, q3, e1⟩ := Option.map_eq_some_iff.mp q
    cases e1
    exact wpAny_UnaryOp (ih.ev q1 R X F fun w α1 s1 g1 X1 V1 => unop_ok X1 V1 q3 (f.from g1))
  | BoolOp op es p => exact ih.evB q R X F f
  | Compare l ops rs p =>
    rw [e_cmp] at q
    refine ob q fun y q1 q => ?_
    obtain ⟨⟨b, H2⟩, q3, e1⟩ := Option.map_eq_some_iff.mp q
    cases e1
    show wpAny _ A (do compareChain p (← eval l env) ops (markedEach ops rs (evalEach rs env))) Q E s
    refine wpAny_bind (ih.evI q1 R X F fun w α1 s1 g1 X1 V1 => ?_)
    refine wpAny_mono (ih.evC q3 R X1 (F.mv X g1.toMv) V1 (Q := fun b s' => Q (.bool b) s') fun α2 s2 g2 X2 => f _ _ _ (g1.trans g2) X2 (.bool _)).1 (fun c s' z => ?_) fun _ _ z => z
    obtain ⟨b, rfl, z⟩ := z
    exact z
  | IfExp t a b p =>
    refine wpAny_IfExp ?_
    rw [e_ite] at q
    refine ob q fun y q1 q => ih.evT q1 R X F fun α1 s1 g1 X1 => ?_
    cases hy : y.1 with
    | true => rw [hy] at q; rw [if_pos rfl]; exact ih.ev q R X1 (F.mv X g1.toMv) (f.from g1)
    | false => rw [hy] at q; rw [if_neg Bool.false_ne_true]; exact ih.ev q R X1 (F.mv X g1.toMv) (f.from g1)
  | Tuple es kk p =>
    rw [e_tup] at q
    obtain ⟨hz, q⟩ := chk_some q
    obtain ⟨⟨ds, H1⟩, q1, e1⟩ := Option.map_eq_some_iff.mp q
    cases e1
    exact tuple_ok ih R X F hz q1 f
  | List es p =>
    rw [e_lst] at q
    obtain ⟨hz, q⟩ := chk_some q
    obtain ⟨⟨ds, H1⟩, q1, e1⟩ := Option.map_eq_some_iff.mp q
    cases e1
    exact list_ok ih R X F hz q1 f
  | ListComp elt gs sc' p =>
    obtain ⟨tgt, it, ifs, src, vs, xs, rs, H1, rfl, rfl, q0, hi, ht, hc, d0, qc⟩ := evc_ok q
    exact comp_core ih R X F q0 hi ht hc d0 qc fun acc Cc α' s' ce => compEnd_fin ce f
  | Attribute o a p => exact eva_ok En cx ih q R X F f
  | Subscript b i p => exact evi_ok cx ih q R X F f
  | Call fn as ks p => exact evk_ok En cx ih q R X F f
  | _ => exact nos q

theorem sall (En : En G) (cx : CxOk G k C) : ∀ n, Sall G C k n
  | 0 => by
    refine ⟨?_, ?_, ?_, ?_, ?_, ?_, ?_, ?_, ?_⟩
    · intro sc e ρ H H' r q; exact nos q
    · intro sc e ρ H H' r q; exact nos q
    · intro sc e ρ H H' r q; exact nos q
    · intro sc e ρ H H' r q; exact nos q
    · intro sc e ρ H H' r q; exact nos q
    · intro sc op e ρ H H' r q; exact nos q
    · intro sc a ops e ρ H H' r q; exact nos q
    · intro sc e ρ H H' r q; exact nos q
    · intro sc op e ρ H H' r q; exact nos q
  | n + 1 =>
    have ih := sall En cx n
    ⟨ev_ok En cx ih, evI_ok ih, evs_ok ih, evO_ok ih, evIf_ok ih, evB_ok ih, evC_ok ih, evT_ok ih, evTs_ok ih⟩
end
end Mine
end
section
open PySem PySem.W PyProof.Rows
namespace Mine
section
variable {prog : Program} {w : World} {A : Around} {E : Value → Shared → Prop} {s : Shared}

theorem dict_mapSeq {o : Obj} {xs : Array Value} {n : Nat} (hd : o.data = .seq xs n) (f : Array Value → Array Value) : (o.mapSeq f).dict = o.dict := by
  obtain ⟨cls, dd, data, sl⟩ := o
  simp only at hd
  subst hd
  rfl

theorem setItem_raw {l : Addr} {o : Obj} {items : Array Value} {ne : Nat} {k : Int} {t : Tok} {v : Value} {Q : Unit → Shared → Prop} (ho : s.heap.get? l = some o) (hc : o.cls = .type "list") (hd : o.data = .seq items ne)
    (h0 : 0 ≤ k) (hfit : k < 2 ^ 63) (hn : k < items.size)
    (hQ : ∀ h' o', h'.get? l = some o' → o'.cls = .type "list" → o'.dict = o.dict → (∃ n, o'.data = .seq (items.setIfInBounds k.toNat v) n) → Heap.SameBut l s.heap h' → Q () { s with heap := h' }) :
    wpAny (model prog w) A (setItem (.ref l) (.int k t) v) Q E s := by
  have hl : s.heap.IsList l items := ⟨o, ho, hc, ne, hd⟩
  unfold setItem
  try with_reducible refine wpAny_holding ?_
  first | refine wpAny_bind (wpAny_pure ?_) | skip
  refine wpAny_bind (wpAny_sequenceKey hl.typeIs (by decide) ?_)
  refine wpAny_bind (wpAny_callSpecial?_slot (name := Str.ofString "__setitem__") hl.typeIs slot_list_setitem
    (wpAny_call_entry slot_list_setitem hl.typeIs entry_list_setitem ?_ (args_list_setitem _ _ _)))
  show wpAny _ _ (Builtin.List.listSubscript? (.int k t) >>= _) _ _ s
  refine wpAny_bind (wpAny_listSubscript_int (fitsIndex_of h0 hfit) ?_)
  clear hfit
  obtain ⟨j, rfl⟩ := Int.eq_ofNat_of_zero_le h0
  have hj : j < items.size := by (first | lia | omega)
  have hx' : items[j]? = some items[j] := Array.getElem?_eq_getElem hj
  show wpAny _ _ ((seqItemAt l j >>= fun r => pure (r.map (j, ·))) >>= _) _ _ s
  refine wpAny_bind (wpAny_bind (wpAny_seqItemAt ho hd (wpAny_pure ?_)))
  rw [hx']
  show wpAny _ _ (setSeqItemAt l j v >>= _) _ _ s
  obtain ⟨n', hd'⟩ := Obj.data_mapSeq hd (·.setIfInBounds j v)
  have hfin := hQ (s.heap.update l (Obj.mapSeq (·.setIfInBounds j v))) _ (Heap.get?_update_self _ ho (Obj.isFreed_of_seq hd')) ((Obj.cls_mapSeq ..).trans hc) (dict_mapSeq hd _) ⟨n', hd'⟩ (Heap.SameBut.update ..)
  refine wpAny_bind (wpAny_setSeqItemAt ho hd ?_)
  first
    | exact wpAny_bind (wpAny_pure (wpAny_pure ⟨.none, rfl, wpAny_pure hfin⟩))
    | exact wpAny_pure ⟨.none, rfl, wpAny_pure hfin⟩

theorem osa_raw {K : Frag} {C x dx : Addr} {R : Result → Shared → Prop} {ox : Obj} {name : Str} {tk : Tok} {v : Value} {es : List DictEntry} {n : Nat} (X : K.In s.heap) (I : W.InstAt s.heap x ox C (some (dictOf es n))) (hd : ox.dict = some dx) (D : s.heap.get? dx = some (dictOf es n))
    (hp : plainOver K C = true) (ht : takerIn K C name = some none) (hh : hasDictIn K C = true) (hl : (getL name es).isSome = true) (hz : (putL name (PyData.keyHash w.params name) (.str name s.toks) v es).length ≤ 1000)
    (h : ∀ h', h'.get? dx = some (dictOf (putL name (PyData.keyHash w.params name) (.str name s.toks) v es) (putN name es n)) → Heap.SameBut dx s.heap h' → R (.ok (.ret .none)) { s with heap := h', toks := s.toks + 1 }) :
    codeAny (model prog w) A (.call (.builtin "object.__setattr__") ⟨[.ref x, .str name tk, v], []⟩) R s := by
  refine osa_open X I hp ht fun b => ?_
  obtain ⟨cd, hc, hd'⟩ := any_some hh
  have D' : (s.heap.update dx (Obj.putName name (PyData.keyHash w.params name) (.str name s.toks) v)).get? dx = some (dictOf (putL name (PyData.keyHash w.params name) (.str name s.toks) v es) (putN name es n)) := by
    rw [← putName_dict]
    exact Heap.get?_update_self _ D (by rw [putName_dict]; rfl)
  obtain ⟨hx, hcl, hn, -⟩ := I
  obtain ⟨oc, odi, oda, osl⟩ := ox
  dsimp only at hcl hd
  subst hcl hd
  refine wpAny_bind (wpAny_pure (wpAny_bind (wpAny_bind (wpAny_loadPart hx (wpAny_bind ((looks_clsIn X hc).here ?_))))))
  rw [hd']
  refine wpAny_pure (a := some dx) (wpAny_bind (wpAny_pure (wpAny_bind ?_)))
  unfold nsSet
  refine wpAny_bind (wpAny_bind (wpAny_askSetting (wpAny_pure (wpAny_bind (wpAny_mkText (wpAny_bind (wpAny_loadPart D ?_)))))))
  dsimp only
  unfold getL at hl
  have c : (!es.toArray.any (·.key.isStr name) && es.toArray.any (·.refKey)) = false := by
    rw [← Array.any_toList, ← Array.any_toList]
    split at hl
    · rename_i en he
      rw [List.any_eq_true.mpr ⟨en, List.mem_of_find?_eq_some he, List.find?_some he⟩]; rfl
    · split at hl
      · first | exact Mine.nos hl | exact Mine.ff0 hl | exact Mine.tf0 hl | exact Mine.sn0 hl | cases hl
      · rename_i z; rw [Bool.not_eq_true] at z; rw [z, Bool.and_false]
  rw [aRefKeyMayBeTheName_at, c]
  refine wpAny_updatePart D ?_
  refine wpAny_bind (wpAny_lookBehind D' (pastItsLine_dict (by rw [List.size_toArray, sizeLine_eq]; (first | lia | omega))) ?_)
  exact wpAny_pure (h _ D' (Heap.SameBut.update ..))

theorem isStr_str (x y : Str) (t : Tok) : (Value.str x t).isStr y = (x == y) := rfl
theorem getL_put {name y : Str} {hs : Int} {t : Tok} {v : Value} : ∀ {es : List DictEntry}, (∀ e ∈ es, ∃ x t, e.key = .str x t) → getL y (putL name hs (.str name t) v es) = if y = name then some (some v) else getL y es := by
  intro es hk
  have noref : ∀ {l : List DictEntry}, (∀ e ∈ l, ∃ x t, e.key = .str x t) → l.any (·.refKey) = false := fun h => by
    rw [List.any_eq_false]
    intro e he
    obtain ⟨x, t, q⟩ := h e he
    simp [DictEntry.refKey, q]
  have keys : ∀ {l : List DictEntry}, (∀ e ∈ l, ∃ x t, e.key = .str x t) → ∀ e ∈ putL name hs (.str name t) v l, ∃ x t, e.key = .str x t := by
    intro l
    induction l with
    | nil => intro _ e he; rw [putL, List.mem_singleton] at he; subst he; exact ⟨_, _, rfl⟩
    | cons a r ih =>
      intro h e he
      rw [putL] at he
      split at he
      · rcases List.mem_cons.mp he with q | q
        · subst q; obtain ⟨x, t, q⟩ := h a List.mem_cons_self; exact ⟨x, t, q⟩
        · exact h e (List.mem_cons_of_mem _ q)
      · rcases List.mem_cons.mp he with q | q
        · subst q; exact h _ List.mem_cons_self
        · exact ih (fun e he => h e (List.mem_cons_of_mem _ he)) e q
  have go : ∀ {l : List DictEntry}, (∀ e ∈ l, ∃ x t, e.key = .str x t) → (putL name hs (.str name t) v l).find? (·.key.isStr y) = if y = name then some ((putL name hs (.str name t) v l).find? (·.key.isStr y) |>.getD ⟨hs, .str name t, v⟩) else l.find? (·.key.isStr y) := by
    intro l
    induction l with
    | nil =>
      intro _
      rw [putL]
      by_cases q : y = name
      · subst q; simp [isStr_str]
      · rw [if_neg q]; simp [isStr_str, Ne.symm q]
    | cons a r ih =>
      intro h
      obtain ⟨x, tt, hx⟩ := h a List.mem_cons_self
      have ih := ih fun e he => h e (List.mem_cons_of_mem _ he)
      rw [putL]
      by_cases q : y = name
      · rw [if_pos q]
        rw [if_pos q] at ih
        subst q
        split
        · rename_i h1; simp [h1]
        · rename_i h1
          simp only [List.find?_cons, Bool.eq_false_iff.mpr h1]
          rw [ih]; rfl
      · rw [if_neg q]
        rw [if_neg q] at ih
        split
        · rename_i h1
          have : a.key.isStr y = false := by
            rw [hx, isStr_str] at h1 ⊢
            rw [beq_iff_eq] at h1
            rw [beq_eq_false_iff_ne, h1]; exact Ne.symm q
          simp [this]
        · simp only [List.find?_cons]
          rw [ih]
  have val : ∀ {l : List DictEntry}, (∀ e ∈ l, ∃ x t, e.key = .str x t) → ∃ e, (putL name hs (.str name t) v l).find? (·.key.isStr name) = some e ∧ e.val = v := by
    intro l
    induction l with
    | nil => intro _; exact ⟨_, by rw [putL, List.find?_cons, isStr_str, beq_self_eq_true], rfl⟩
    | cons a r ih =>
      intro h
      rw [putL]
      split
      · rename_i h1; exact ⟨_, by rw [List.find?_cons, h1], rfl⟩
      · rename_i h1
        obtain ⟨e, e1, e2⟩ := ih fun e he => h e (List.mem_cons_of_mem _ he)
        exact ⟨e, by rw [List.find?_cons, Bool.eq_false_iff.mpr h1]; exact e1, e2⟩
  unfold getL
  by_cases q : y = name
  · subst q
    obtain ⟨e, e1, e2⟩ := val hk
    rw [if_pos rfl, e1, ← e2]
  · rw [if_neg q]
    have := go hk
    rw [if_neg q] at this
    rw [this, noref hk, noref (keys hk)]
theorem putL_keys {name : Str} {hs : Int} {t : Tok} {v : Value} : ∀ {l : List DictEntry}, (∀ e ∈ l, ∃ x t, e.key = .str x t) → ∀ e ∈ putL name hs (.str name t) v l, ∃ x t, e.key = .str x t := by
    intro l
    induction l with
    | nil => intro _ e he; rw [putL, List.mem_singleton] at he; subst he; exact ⟨_, _, rfl⟩
    | cons a r ih =>
      intro h e he
      rw [putL] at he
      split at he
      · rcases List.mem_cons.mp he with q | q
        · subst q; obtain ⟨x, t, q⟩ := h a List.mem_cons_self; exact ⟨x, t, q⟩
        · exact h e (List.mem_cons_of_mem _ q)
      · rcases List.mem_cons.mp he with q | q
        · subst q; exact h _ List.mem_cons_self
        · exact ih (fun e he => h e (List.mem_cons_of_mem _ he)) e q
theorem putL_len {name : Str} {hs : Int} {k v : Value} : ∀ {l : List DictEntry}, (putL name hs k v l).length ≤ l.length + 1
  | [] => Nat.le_refl _
  | a :: r => by
    rw [putL]
    split
    · simp
    · have := putL_len (name := name) (hs := hs) (k := k) (v := v) (l := r)
      simp; (first | lia | omega)
end
end Mine
end
section
open PySem PySem.W PyProof.Rows
namespace Mine
section
variable {G : Gd} {C : Cx} {k n : Nat} {A : Around} {E : Value → Shared → Prop} {s : Shared} {α β : List Addr} {H : Hp} {sc : Scope} {env : Env} {ρ : Loc}

theorem putL_len_at {name : Str} {hs : Int} {kk v w : Value} : ∀ {es : List DictEntry}, getL name es = some (some w) → (putL name hs kk v es).length = es.length := by
  intro es h
  have : (es.find? (·.key.isStr name)).isSome = true := by
    unfold getL at h
    split at h
    · rename_i e; rw [e]; rfl
    · split at h <;> cases h
  clear h
  induction es with
  | nil => first | exact Mine.nos this | exact Mine.ff0 this | exact Mine.tf0 this | exact Mine.sn0 this | cases this
  | cons a r ih =>
    rw [putL]
    split
    · simp
    · rename_i q
      rw [List.find?_cons, Bool.eq_false_iff.mpr q] at this
      simp [ih this]
theorem up_len_none {x : Str} {v : V} : ∀ {fs : Loc}, lk x fs = none → (up x v fs).length = fs.length + 1
  | [], _ => rfl
  | p :: r, h => by
    rw [lk_1] at h
    rw [up]
    cases q : seq x p.1 with
    | true => rw [q] at h; first | exact Mine.nos h | exact Mine.ff0 h | exact Mine.tf0 h | exact Mine.sn0 h | cases h
    | false => rw [q] at h; simp [up_len_none (x := x) (v := v) h]
theorem up_len_le {x : Str} {v : V} : ∀ {fs : Loc}, fs.length ≤ (up x v fs).length
  | [] => Nat.zero_le _
  | p :: r => by
    rw [up]
    cases q : seq x p.1 with
    | true => simp
    | false => simpa using up_len_le (x := x) (v := v) (fs := r)

/-- an attribute is stored -/
theorem setAttr_ok (En : En G) {a : Str} {v w : Value} {i : Nat} {fs : List (Str × V)} {d : V} {Q : Unit → Shared → Prop} (X : St G.W G.Cl G.B s.heap α β H) (V0 : VR G.W G.Cl s.heap α β v (.obj i)) (q1 : H[i]? = some (.inst fs))
    (ha : G.P.attr a = true) (hz : ¬ 100 ≤ fs.length) (W0 : VR G.W G.Cl s.heap α β w d)
    (h : ∀ s', Go α s α s' → St G.W G.Cl G.B s'.heap α β (H.set i (.inst (up a d fs))) → Q () s') : wpAny (model G.prog G.W) A (setAttr v a w) Q E s := by
  obtain ⟨x, dd, es, m, rfl, e1, e2, I, O⟩ := instAt X V0 q1
  cases O with
  | inst c1 c2 c3 c4 =>
  obtain ⟨_, hn⟩ := En.attr a ha
  have hl : (getL a es).isSome = true := by
    cases q : lk a fs with
    | some d' => obtain ⟨u, e, _⟩ := c2 a d' q; rw [e]; rfl
    | none => rw [c3 a q]; rfl
  refine set_plain (X.kin En) I En.seta (osa_raw (s := { s with toks := s.toks + 1 }) (X.kin En) I rfl e2 En.over hn En.hasD hl ?_ fun h' hd hs => ?_)
  · have := putL_len (name := a) (hs := PyData.keyHash G.W.params a) (k := .str a (s.toks + 1)) (v := w) (l := es)
    dsimp only
    (first | lia | omega)
  · have g : Mv α s.heap α h' := Mv.upd e1 hs ⟨_, hd⟩
    refine h _ (Go.heap g) (X.upd e1 hs hd (.inst (putL_keys c1) (fun y d' e => ?_) (fun y e => ?_) ?_))
    · rw [lk_up] at e
      rw [getL_put c1]
      by_cases hy : y = a
      · rw [if_pos hy] at e ⊢
        cases e
        exact ⟨w, rfl, W0.mv g⟩
      · rw [if_neg hy] at e ⊢
        obtain ⟨u, e3, e4⟩ := c2 y d' e
        exact ⟨u, e3, e4.mv g⟩
    · rw [lk_up] at e
      rw [getL_put c1]
      by_cases hy : y = a
      · rw [if_pos hy] at e; first | exact Mine.nos e | exact Mine.ff0 e | exact Mine.tf0 e | exact Mine.sn0 e | cases e
      · rw [if_neg hy] at e ⊢
        exact c3 y e
    · cases q : lk a fs with
      | some d' =>
        obtain ⟨u, e, _⟩ := c2 a d' q
        rw [putL_len_at e]
        exact Nat.le_trans c4 up_len_le
      | none =>
        rw [up_len_none q]
        exact Nat.le_trans putL_len (by (first | lia | omega))

noncomputable def FinT (G : Gd) (α β : List Addr) (s : Shared) (sc : Scope) (env : Env) (ρ' : Loc) (H' : Hp) (Q : Unit → Shared → Prop) : Prop :=
  ∀ α' s', Gs (frm env) α s α' s' → St G.W G.Cl G.B s'.heap α' β H' → Fm G s'.heap α' β sc env ρ' → Q () s'

theorem tgt_att (En : En G) (cx : CxOk G k C) (ih : Sall G C k n) {o : Expr} {a : Str} {p : Pos} {w : Value} {d : V} {ρ' : Loc} {H' : Hp} {Q : Unit → Shared → Prop} (R : Rm A k) (X : St G.W G.Cl G.B s.heap α β H) (F : Fm G s.heap α β sc env ρ)
    (q : chk (C.attr a) (attT a d ρ (ev C n sc o ρ H)) = some (ρ', H')) (W0 : VR G.W G.Cl s.heap α β w d) (f : FinT G α β s sc env ρ' H' Q) : wpAny (model G.prog G.W) A (assign (.Attribute o a p) env w) Q E s := by
  obtain ⟨ha, q⟩ := chk_some q
  cases attT_inv q with
  | mk i H1 fs q1 q2 hz e1 e2 =>
  show wpAny _ A (do
    let ov ← holding [w] (eval o env)
    standAt p.atName
    holding [w, ov] (setAttr ov a w)
    release [w, ov] []) Q E s
  refine wpAny_bind (wpAny_holding (ih.ev q1 R X F fun v α1 s1 g1 X1 V1 => wpAny_bind (wpAny_standAt (wpAny_bind (wpAny_holding ?_)))))
  exact setAttr_ok En X1 V1 q2 (cx.attr ▸ ha) hz (W0.mv g1.toMv) fun s2 g2 X2 => wpAny_release (f _ _ (g1.trans g2).gs (e2 ▸ X2) (e1 ▸ (F.mv X g1.toMv).mv X1 g2.toMv))
theorem set_raw {α2 : List Addr} {s2 : Shared} {H2 : Hp} {j : Nat} {kk : Int} {vs : List V} {v u w : Value} {d : V} {Q : Unit → Shared → Prop} (X2 : St G.W G.Cl G.B s2.heap α2 β H2) (V1 : VR G.W G.Cl s2.heap α2 β v (.ref j)) (V2 : VR G.W G.Cl s2.heap α2 β u (.int kk)) (W2 : VR G.W G.Cl s2.heap α2 β w d)
    (q3 : H2[j]? = some (.list vs)) (h1 : 0 ≤ kk) (h2 : kk < vs.length) (f : ∀ s3, Go α2 s2 α2 s3 → St G.W G.Cl G.B s3.heap α2 β (H2.set j (.list (vs.set kk.toNat d))) → Q () s3) : wpAny (model G.prog G.W) A (setItem v u w) Q E s2 := by
  cases V1 using VR.refE with
  | ref e1 =>
  cases V2 using VR.intE with
  | int t =>
  obtain ⟨a', ob, e2, e3, e4⟩ := X2.at_ _ _ q3
  have ea := Option.some.inj (e1.symm.trans e2)
  rw [← ea] at e3
  cases e4 with
  | list c1 c0 c2 c3 c4 =>
  have hlen := c3.length
  refine setItem_raw e3 c1 c2 h1 (by (first | lia | omega)) (by rw [List.size_toArray]; (first | lia | omega)) fun h' o' o1 o2 o0 o3 hs => ?_
  obtain ⟨m', o3⟩ := o3
  have g : Mv α2 s2.heap α2 h' := Mv.upd e1 hs ⟨_, o1⟩
  exact f _ (Go.heap (tk := s2.toks) g) (X2.upd e1 hs o1 (.list o2 (o0.trans c0) (o3.trans (congrArg (Data.seq · m') (List.setIfInBounds_toArray ..))) ((c3.set (i := kk.toNat) W2).mv g) (by rw [List.length_set]; exact c4)))
theorem tgt_idx (ih : Sall G C k n) {o i : Expr} {p : Pos} {w : Value} {d : V} {ρ' : Loc} {H' : Hp} {Q : Unit → Shared → Prop} (R : Rm A k) (X : St G.W G.Cl G.B s.heap α β H) (F : Fm G s.heap α β sc env ρ)
    (q : idxT d ρ (ev C n sc o ρ H) (ev C n sc i ρ) = some (ρ', H')) (W0 : VR G.W G.Cl s.heap α β w d) (f : FinT G α β s sc env ρ' H' Q) : wpAny (model G.prog G.W) A (assign (.Subscript o i p) env w) Q E s := by
  cases idxT_inv q with
  | mk j H1 kk H2 vs q1 q2 q3 h1 h2 e1 e2 =>
  exact wpAny_bind (wpAny_holding (ih.ev q1 R X F fun v α1 s1 g1 X1 V1 => wpAny_bind (wpAny_holding (ih.ev q2 R X1 (F.mv X g1.toMv) fun u α2 s2 g2 X2 V2 => wpAny_bind (wpAny_standAt (wpAny_bind (wpAny_holding
    (set_raw X2 (V1.mv g2.toMv) V2 ((W0.mv g1.toMv).mv g2.toMv) q3 h1 h2 fun s3 g3 X3 => wpAny_release (f _ _ ((g1.trans g2).trans g3).gs (e2 ▸ X3) (e1 ▸ ((F.mv X g1.toMv).mv X1 g2.toMv).mv X2 g3.toMv))))))))))
theorem tgt_ok (En : En G) (cx : CxOk G k C) (ih : Sall G C k n) {t : Expr} {w : Value} {d : V} {ρ' : Loc} {H' : Hp} {Q : Unit → Shared → Prop} (R : Rm A k) (X : St G.W G.Cl G.B s.heap α β H) (F : Fm G s.heap α β sc env ρ)
    (q : tgt C n sc t d ρ H = some (ρ', H')) (W0 : VR G.W G.Cl s.heap α β w d) (f : FinT G α β s sc env ρ' H' Q) : wpAny (model G.prog G.W) A (assign t env w) Q E s := by
  cases t <;> first | exact nos q | skip
  · exact tgt_att En cx ih R X F q W0 f
  · exact tgt_idx ih R X F q W0 f
  · rename_i x p
    refine ckd (b := kindIs sc x isOwn) q fun ko q => ?_
    cases q
    exact wpAny_assign_Name (store_ok X F ko W0 fun s' g X' F' => f _ _ g X' F')

theorem tgt_star {t : Expr} {d : V} {H' : Hp} {ρ' : Loc} (q : tgt C n sc t d ρ H = some (ρ', H')) : ∀ rest, assignEach (t :: rest) env = (false, assign t env) :: assignEach rest env := by
  intro rest
  cases t <;> first | rfl | exact nos q
structure TsS (ts : List Expr) (ds : List V) (env : Env) : Prop where
  a : (assignEach ts env).length = ds.length
  b : (assignEach ts env).findIdx? (·.1) = none
  c : ts.length = ds.length
theorem tgts_shape {ts : List Expr} : ∀ {ds : List V} {H : Hp} {ρ : Loc} {r : Loc × Hp}, tgts C n sc ts ds ρ H = some r → TsS ts ds env := by
  induction ts with
  | nil =>
    intro ds H ρ r q
    cases ds with
    | nil => exact ⟨rfl, rfl, rfl⟩
    | cons => exact nos q
  | cons t ts ih =>
    intro ds H ρ r q
    cases ds with
    | nil => exact nos q
    | cons d ds =>
      rw [tgts_cons] at q
      refine bndE q fun y q1 q => ?_
      have z := ih q
      refine ⟨?_, ?_, congrArg Nat.succ z.c⟩
      · rw [tgt_star q1]; exact congrArg Nat.succ z.a
      · rw [tgt_star q1, List.findIdx?_cons, z.b]; rfl
theorem tgts_ok (En : En G) (cx : CxOk G k C) (ih : Sall G C k n) {ts : List Expr} : ∀ {ws : List Value} {ds : List V} {s : Shared} {α : List Addr} {ρ ρ' : Loc} {H H' : Hp} {Q : Unit → Shared → Prop}, Rm A k → St G.W G.Cl G.B s.heap α β H → Fm G s.heap α β sc env ρ →
    tgts C n sc ts ds ρ H = some (ρ', H') → VRs G.W G.Cl s.heap α β ws ds → FinT G α β s sc env ρ' H' Q → wpAny (model G.prog G.W) A (assignInOrder ((assignEach ts env).map (·.2)) ws) Q E s := by
  induction ts with
  | nil =>
    intro ws ds s α ρ ρ' H H' Q R X F q W0 f
    cases ds with
    | nil =>
      cases W0 using VRs.nilE
      have e := Prod.mk.inj (Option.some.inj q)
      exact wpAny_assignInOrder_none (f _ _ (Gs.refl _ _ _) (e.2 ▸ X) (e.1 ▸ F))
    | cons => exact nos q
  | cons t ts iht =>
    intro ws ds s α ρ ρ' H H' Q R X F q W0 f
    cases ds with
    | nil => exact nos q
    | cons d ds =>
      cases W0 using Mine.VRs.consE with
      | cons w1 w2 =>
      rw [tgts_cons] at q
      refine bndE q fun y q1 q => ?_
      rw [tgt_star q1]
      exact wpAny_assignInOrder_more (tgt_ok En cx ih R X F q1 w1 fun α1 s1 g1 X1 F1 => iht R X1 F1 q (w2.ms g1.toMs F.frB) fun α2 s2 g2 X2 F2 => f _ _ (g1.trans g2) X2 F2)

theorem tgtTup_ok (En : En G) (cx : CxOk G k C) (ih : Sall G C k n) {ts : List Expr} {kk : Nat} {p : Pos} {w : Value} {ds : List V} {ρ' : Loc} {H' : Hp} {Q : Unit → Shared → Prop} (R : Rm A k) (X : St G.W G.Cl G.B s.heap α β H) (F : Fm G s.heap α β sc env ρ)
    (q : tgts C n sc ts ds ρ H = some (ρ', H')) (W0 : VR G.W G.Cl s.heap α β w (.tup ds)) (f : FinT G α β s sc env ρ' H' Q) : wpAny (model G.prog G.W) A (assign (.Tuple ts kk p) env w) Q E s := by
  have z := tgts_shape (env := env) q
  cases W0 using Mine.VR.tupE with
  | tup q1 q2 q3 q4 q5 q6 =>
  refine PySem.wpAny_assign_Tuple R.hd (⟨_, q1, q4, _, q5⟩ : s.heap.IsTuple _ _) (by rw [z.a, List.size_toArray, q6.length]) z.b fun h1 hx => ?_
  have k1 : ∀ b o, s.heap.get? b = some o → h1.get? b = some o := fun b o e => hx b o (fun z => sn0 (e.symm.trans (z ▸ size_none _))) e
  have g1 : Go α s α { s with heap := h1 } := Go.heap (tk := s.toks) (Mv.of_keep k1)
  exact tgts_ok En cx ih (s := { s with heap := h1 }) R (X.mv k1) (F.mv X g1.toMv) q (q6.mv g1.toMv) fun α2 s2 g2 X2 F2 => f _ _ (g1.gs.trans g2) X2 F2
theorem tgtAny_ok (En : En G) (cx : CxOk G k C) (ih : Sall G C k n) {t : Expr} {w : Value} {d : V} {ρ' : Loc} {H' : Hp} {Q : Unit → Shared → Prop} (R : Rm A k) (X : St G.W G.Cl G.B s.heap α β H) (F : Fm G s.heap α β sc env ρ)
    (q : tgtAny C n sc t d ρ H = some (ρ', H')) (W0 : VR G.W G.Cl s.heap α β w d) (f : FinT G α β s sc env ρ' H' Q) : wpAny (model G.prog G.W) A (assign t env w) Q E s := by
  unfold tgtAny at q
  cases e : dTup t with
  | none => rw [e] at q; exact tgt_ok En cx ih R X F q W0 f
  | some ts =>
    rw [e] at q
    cases d <;> first | exact nos q | skip
    exact (dTup_ok e).elim fun c e => e.elim fun p e => e ▸ tgtTup_ok En cx ih R X F q W0 f
end
end Mine
end
section
open PySem PySem.W PyProof.Rows
namespace Mine
section
variable {G : Gd} {C : Cx} {k n : Nat} {A : Around} {E : Value → Shared → Prop} {s : Shared} {α β : List Addr} {H : Hp} {sc : Scope} {env : Env} {ρ : Loc}

theorem ev_listcomp {elt : Expr} {gens : List Comprehension} {sc' : Scope} {p : Pos} {d : V} {H' : Hp} (q : ev C (n + 1) sc (.ListComp elt gens sc' p) ρ H = some (d, H')) :
    ∃ tgt it ifs src vs xs rs H1, gens = [⟨tgt, it, ifs, 0⟩] ∧ d = .lst rs ∧ ev C n sc it ρ H = some (src, H1) ∧ iter src = some vs ∧ tnames tgt = some xs ∧ compScOk sc sc' xs = true ∧ lk dot0 ρ = none ∧ compF (compE C n sc' elt ifs xs ρ) vs H1 = some (rs, H') := evc_ok q

inductive SwapP (e t : Expr) (line : Nat) (env : Env) : Prop
  | no (h : swapsWith e (some t) line env = pure false) : SwapP e t line env
  | yes (h : swapsWith e (some t) line env = pure true) (x : Str) (p : Pos) (elt : Expr) (gens : List Comprehension) (sc' : Scope) (p' : Pos) (h1 : t = .Name x p) (h2 : e = .ListComp elt gens sc' p') (h3 : env.kindOf x = some .local) : SwapP e t line env
theorem swaps_comp {elt : Expr} {gens : List Comprehension} {sc' : Scope} {p' p : Pos} {x : Str} {line : Nat} : SwapP (.ListComp elt gens sc' p') (.Name x p) line env := by
  have e : swapsWith (.ListComp elt gens sc' p') (some (.Name x p)) line env = pure (env.blockKind == ScopeKind.function && env.kindOf x == some NameKind.local && p.line == (Expr.ListComp elt gens sc' p').pos.line && !(sc'.names.any fun (n, k) => n == x && (k == .local || k == .cell))) := rfl
  cases hb : (env.blockKind == ScopeKind.function && env.kindOf x == some NameKind.local && p.line == (Expr.ListComp elt gens sc' p').pos.line && !(sc'.names.any fun (n, k) => n == x && (k == .local || k == .cell))) with
  | false => exact .no (e.trans (congrArg _ hb))
  | true =>
    refine .yes (e.trans (congrArg _ hb)) x p elt gens sc' p' rfl rfl ?_
    rw [Bool.and_eq_true, Bool.and_eq_true, Bool.and_eq_true] at hb
    exact beq_iff_eq.mp hb.1.1.2
theorem swaps_of {C : Cx} {n : Nat} {e : Expr} {t : Expr} {line : Nat} {r : V × Hp} (q : ev C n sc e ρ H = some r) : SwapP e t line env := by
  cases n with
  | zero => exact nos q
  | succ n =>
  cases e <;> first | exact .no rfl | skip
  · cases t <;> first | exact .no rfl | skip
    exact swaps_comp
  · exact nos q
  · exact nos q

theorem Fm.drop {h h' : Heap} {Cc : Addr} (F : Fm G h α (Cc :: β) sc env ρ) (nf : ∀ a ∈ frm env, a ∈ β) (Cβ : Cc ∉ β) (hs : ∀ b o, b ≠ Cc → h.get? b = some o → h'.get? b = some o) : Fm G h' α β sc env ρ := by
  have ne : ∀ a ∈ frm env, a ≠ Cc := fun a ha z => Cβ (z ▸ nf a ha)
  have kk : ∀ b o, h.get? b = some o → b ∉ α → b ∉ Cc :: β → h'.get? b = some o ∧ b ∉ α ∧ b ∉ β := fun b o e ha hb => ⟨hs b o (fun z => hb (by simp [z])) e, ha, fun z => hb (List.mem_cons_of_mem _ z)⟩
  refine ⟨F.kind, F.glb, F.blt, F.ks, ?_, fun x' kx => ?_, nf _ List.mem_cons_self, fun x c hc => ⟨nf _ (List.mem_cons_of_mem _ (List.mem_map.mpr ⟨_, hc, rfl⟩)), (F.cb x c hc).2⟩, F.ap⟩
  · obtain ⟨m, ⟨o, es, ep, ho, r⟩, q⟩ := F.ns
    refine ⟨m, ⟨o, es, ep, hs _ _ (ne _ List.mem_cons_self) ho, r⟩, fun x' d e kx => ?_⟩
    obtain ⟨v, e1, e2⟩ := q x' d e kx
    exact ⟨v, e1, e2.gen kk fun _ _ e => e⟩
  · obtain ⟨c, u, e1, ⟨o, e2, e3⟩, e4⟩ := F.cl x' kx
    refine ⟨c, u, e1, ⟨o, hs _ _ (ne _ (List.mem_cons_of_mem _ (List.mem_map.mpr ⟨_, mem_of_lookup e1, rfl⟩))) e2, e3⟩, fun d e => ?_⟩
    obtain ⟨v, e5, e6⟩ := e4 d e
    exact ⟨v, e5, e6.gen kk fun _ _ e => e⟩

theorem eraseDups_le : ∀ (n : Nat) (l : List Str), l.length ≤ n → l.eraseDups.length ≤ l.length
  | _, [], _ => by simp
  | 0, a :: r, h => by simp at h
  | n + 1, a :: r, h => by
    rw [List.eraseDups_cons]
    have h1 : (r.filter fun b => !b == a).length ≤ r.length := List.length_filter_le _ _
    have h2 : r.length ≤ n := by simpa using h
    have := eraseDups_le n (r.filter fun b => !b == a) (Nat.le_trans h1 h2)
    simp only [List.length_cons]
    (first | lia | omega)
theorem nodup_of_eraseDups : ∀ (n : Nat) (l : List Str), l.length ≤ n → l.eraseDups.length = l.length → l.Nodup
  | _, [], _, _ => List.nodup_nil
  | 0, a :: r, h, _ => by simp at h
  | n + 1, a :: r, h, e => by
    rw [List.eraseDups_cons] at e
    have h1 : (r.filter fun b => !b == a).length ≤ r.length := List.length_filter_le _ _
    have h2 : r.length ≤ n := by simpa using h
    have h3 := eraseDups_le n (r.filter fun b => !b == a) (Nat.le_trans h1 h2)
    simp only [List.length_cons] at e
    have h4 : (r.filter fun b => !b == a).length = r.length := by (first | lia | omega)
    have h5 : (r.filter fun b => !b == a) = r := List.Sublist.eq_of_length List.filter_sublist h4
    rw [h5] at e
    rw [List.nodup_cons]
    refine ⟨fun hm => ?_, nodup_of_eraseDups n r h2 (by (first | lia | omega))⟩
    rw [← h5] at hm
    have := (List.mem_filter.mp hm).2
    simp at this
theorem names_of {f : Expr → Option Str} (hf : ∀ t x, f t = some x → ∃ p, t = .Name x p) : ∀ ts : List Expr, (ts.filterMap f).length = ts.length → ∃ ps : List Pos, ts = ((ts.filterMap f).zip ps).map (fun q => Expr.Name q.1 q.2) ∧ ps.length = (ts.filterMap f).length
  | [], _ => ⟨[], rfl, rfl⟩
  | t :: r, h => by
    rw [List.filterMap_cons] at h ⊢
    cases e : f t with
    | none =>
      rw [e] at h
      have := List.length_filterMap_le f r
      simp only [List.length_cons] at h
      (first | lia | omega)
    | some x =>
      rw [e] at h
      obtain ⟨p, hp⟩ := hf t x e
      obtain ⟨ps, h1, h2⟩ := names_of hf r (by simpa using h)
      refine ⟨p :: ps, ?_, by simp [h2]⟩
      dsimp only
      rw [List.zip_cons_cons, List.map_cons, ← h1, hp]

/-- which names are stored in turn-about order -/
inductive SwdP (ts vs : List Expr) (kk k2 : Nat) (p p2 : Pos) (env : Env) : Prop
  | no (h : swappedStores [.Tuple ts kk p] (.Tuple vs k2 p2) env = pure none) : SwdP ts vs kk k2 p p2 env
  | yes (names : List Str) (h : swappedStores [.Tuple ts kk p] (.Tuple vs k2 p2) env = pure (some names)) (hn : names.Nodup) (ps : List Pos) (h1 : ts = (names.zip ps).map (fun q => Expr.Name q.1 q.2)) (h2 : ps.length = names.length) : SwdP ts vs kk k2 p p2 env
theorem swst {ts vs : List Expr} {kk k2 : Nat} {p p2 : Pos} : ∃ (f : Expr → Option Str) (c1 c2 c4 : Bool), (∀ t x, f t = some x → ∃ p, t = .Name x p) ∧ swappedStores [.Tuple ts kk p] (.Tuple vs k2 p2) env = (if c1 = true then pure none else if c2 = true then pure none else
    if ((ts.filterMap f).length != ts.length || (ts.filterMap f).eraseDups.length != (ts.filterMap f).length) = true then pure none else if c4 = true then pure none else if vs.all (constantsAlone 8) = true then unsupported "assign.tuple-of-constant-expressions:order-of-the-stores" else pure (some (ts.filterMap f))) := by
  refine ⟨_, _, _, _, fun t x ht => ?_, rfl⟩
  cases t <;> first | exact nos ht | skip
  dsimp only at ht
  split at ht
  · exact ⟨_, congrArg (Expr.Name · _) (Option.some.inj ht)⟩
  · exact nos ht
theorem swapped_of {ts vs : List Expr} {kk k2 : Nat} {p p2 : Pos} (h : vs.all (constantsAlone 8) = false) : SwdP ts vs kk k2 p p2 env := by
  obtain ⟨f, c1, c2, c4, hf, e⟩ := swst (env := env) (ts := ts) (vs := vs) (kk := kk) (k2 := k2) (p := p) (p2 := p2)
  cases c1 with
  | true => exact .no e
  | false =>
  cases c2 with
  | true => exact .no e
  | false =>
  cases c3 : ((ts.filterMap f).length != ts.length || (ts.filterMap f).eraseDups.length != (ts.filterMap f).length) with
  | true => rw [c3] at e; exact .no e
  | false =>
  cases c4 with
  | true => rw [c3] at e; exact .no e
  | false =>
  rw [c3, h] at e
  obtain ⟨c5, c6⟩ := Bool.or_eq_false_iff.mp c3
  have hlen := bne_eq_false_iff_eq.mp c5
  obtain ⟨ps, h1, h2⟩ := names_of hf ts hlen
  exact .yes _ e (nodup_of_eraseDups _ _ (Nat.le_refl _) (bne_eq_false_iff_eq.mp c6)) ps h1 h2

noncomputable def FinS (G : Gd) (α β : List Addr) (s : Shared) (sc : Scope) (env : Env) (ρ' : Loc) (H' : Hp) (r : Flow) (Q : Flow → Shared → Prop) : Prop :=
  ∀ α' s', Gs (frm env) α s α' s' → St G.W G.Cl G.B s'.heap α' β H' → Fm G s'.heap α' β sc env ρ' → Q r s'

theorem tgt_name {x : Str} {p : Pos} {d : V} {ρ' : Loc} {H' : Hp} (q : tgt C n sc (.Name x p) d ρ H = some (ρ', H')) : kindIs sc x isOwn = true ∧ ρ' = up x d ρ ∧ H' = H :=
  ckd (b := kindIs sc x isOwn) q fun ko q => by cases q; exact ⟨ko, rfl, rfl⟩

noncomputable def ups : List Str → List V → Loc → Loc
  | x :: xs, d :: ds, ρ => ups xs ds (up x d ρ)
  | _, _, ρ => ρ
theorem ups_0 (x : Mine.Loc) (x_3 : Str) (xs : List Str) (d : V) (ds : List V) : ups (x_3 :: xs) (d :: ds) x = ups xs ds (up x_3 d x) := rfl
theorem binds_ok {ns : List Str} : ∀ {ws : List Value} {ds : List V} {s : Shared} {ρ : Loc} {Q : Unit → Shared → Prop}, St G.W G.Cl G.B s.heap α β H → Fm G s.heap α β sc env ρ → (∀ x ∈ ns, kindIs sc x isOwn = true) → VRs G.W G.Cl s.heap α β ws ds → ns.length = ds.length →
    (∀ s', Gs (frm env) α s α s' → St G.W G.Cl G.B s'.heap α β H → Fm G s'.heap α β sc env (ups ns ds ρ) → Q () s') → wpAny (model G.prog G.W) A (assignInOrder (ns.map fun n => bindName env n) ws) Q E s := by
  induction ns with
  | nil =>
    intro ws ds s ρ Q X F _ v e h
    cases ds with
    | cons => exact Nat.noConfusion e
    | nil => cases v using VRs.nilE; exact wpAny_assignInOrder_none (h s (Gs.refl _ _ _) X F)
  | cons x ns ih =>
    intro ws ds s ρ Q X F ho v e h
    cases ds with
    | nil => exact Nat.noConfusion e
    | cons d ds =>
      cases v using VRs.consE with
      | cons a b =>
      exact wpAny_assignInOrder_more (wpAny_bindName (store_ok X F (ho x List.mem_cons_self) a fun s1 g1 X1 F1 =>
        ih X1 F1 (fun y hy => ho y (List.mem_cons_of_mem _ hy)) (b.ms g1.toMs F.frB) (Nat.succ.inj e) fun s2 g2 X2 F2 => h s2 (g1.trans g2) X2 F2))
theorem VRs.reverse {h : Heap} {ws : List Value} {ds : List V} (x : VRs G.W G.Cl h α β ws ds) : VRs G.W G.Cl h α β ws.reverse ds.reverse :=
  x.ind (P := fun ws ds => VRs G.W G.Cl h α β ws.reverse ds.reverse) .nil fun a _ r => by rw [List.reverse_cons, List.reverse_cons]; exact r.append (.cons a .nil)
theorem tgts_names {ns : List Str} : ∀ (ps : List Pos) (ds : List V) (ρ : Loc) {ρ' : Loc} {H' : Hp}, ps.length = ns.length → ns.length = ds.length → tgts C n sc ((ns.zip ps).map fun q => Expr.Name q.1 q.2) ds ρ H = some (ρ', H') →
    (∀ x ∈ ns, kindIs sc x isOwn = true) ∧ ρ' = ups ns ds ρ ∧ H' = H := by
  induction ns with
  | nil =>
    intro ps ds ρ ρ' H' _ e q
    cases ds with
    | cons => exact Nat.noConfusion e
    | nil =>
      have e := Prod.mk.inj (Option.some.inj q)
      exact ⟨fun _ h => (nomatch h), e.1.symm, e.2.symm⟩
  | cons x ns ih =>
    intro ps ds ρ ρ' H' e1 e2 q
    cases ds with
    | nil => exact Nat.noConfusion e2
    | cons d ds =>
    cases ps with
    | nil => exact Nat.noConfusion e1
    | cons p ps =>
      rw [List.zip_cons_cons, List.map_cons, tgts_cons] at q
      refine bndE q fun y e q => ?_
      obtain ⟨a, e3, e4⟩ := tgt_name e
      rw [e3, e4] at q
      obtain ⟨b, c, d⟩ := ih ps ds _ (Nat.succ.inj e1) (Nat.succ.inj e2) q
      exact ⟨fun y hy => (List.mem_cons.mp hy).elim (fun z => z ▸ a) (b y), c, d⟩
theorem lk_ups (y : Str) : ∀ (ns : List Str) (ds : List V) (ρ : Loc), ns.Nodup → ns.length = ds.length → lk y (ups ns ds ρ) = match (ns.zip ds).lookup y with | some d => some d | none => lk y ρ
  | [], [], ρ, _, _ => rfl
  | [], _ :: _, _, _, e => by cases e
  | _ :: _, [], _, _, e => by cases e
  | x :: ns, d :: ds, ρ, hn, e => by
    rw [List.nodup_cons] at hn
    rw [ups_0, lk_ups y ns ds _ hn.2 (by simpa using e), lk_up, List.zip_cons_cons, List.lookup_cons]
    by_cases h : y = x
    · subst h
      have : (ns.zip ds).lookup y = none := by
        cases q : (ns.zip ds).lookup y with
        | none => rfl
        | some v =>
          have := mem_of_lookup q
          exact absurd (List.of_mem_zip this).1 hn.1
      rw [this]; simp
    · rw [beq_eq_false_iff_ne.mpr h, if_neg h]
theorem lookup_nodup {y : Str} {d : V} : ∀ {l : List (Str × V)}, (l.map (·.1)).Nodup → (y, d) ∈ l → l.lookup y = some d
  | (x, v) :: r, hn, hm => by
    rw [List.map_cons, List.nodup_cons] at hn
    rw [List.lookup_cons]
    rcases List.mem_cons.mp hm with q | q
    · cases q; simp
    · have : y ≠ x := fun z => hn.1 (List.mem_map.mpr ⟨_, q, z⟩)
      rw [beq_eq_false_iff_ne.mpr this]
      exact lookup_nodup hn.2 q
theorem nodup_rev {l : List Str} (h : l.Nodup) : l.reverse.Nodup := List.pairwise_reverse.mpr (h.imp fun h => Ne.symm h)
theorem ups_reverse {ns : List Str} {ds : List V} {x : Str} (hn : ns.Nodup) (hl : ns.length = ds.length) : lk x (ups ns.reverse ds.reverse ρ) = lk x (ups ns ds ρ) := by
  rw [lk_ups x ns ds ρ hn hl, lk_ups x _ _ ρ (nodup_rev hn) (by simpa using hl)]
  have hz : ns.reverse.zip ds.reverse = (ns.zip ds).reverse := by
    rw [List.zip_eq_zipWith, List.zip_eq_zipWith, List.reverse_zipWith hl]
  have hk : ((ns.zip ds).map (·.1)) = ns := by
    rw [List.map_fst_zip]; (first | lia | omega)
  rw [hz]
  have : (ns.zip ds).reverse.lookup x = (ns.zip ds).lookup x := by
    cases q : (ns.zip ds).lookup x with
    | some d =>
      refine lookup_nodup ?_ (List.mem_reverse.mpr (mem_of_lookup q))
      rw [List.map_reverse, hk]; exact nodup_rev hn
    | none =>
      cases q2 : (ns.zip ds).reverse.lookup x with
      | none => rfl
      | some d =>
        have := lookup_nodup (by rw [hk]; exact hn) (List.mem_reverse.mp (mem_of_lookup q2))
        rw [this] at q; first | exact Mine.nos q | exact Mine.ff0 q | exact Mine.tf0 q | exact Mine.sn0 q | cases q
  rw [this]

section
variable {t e : Expr} {pos : Pos} {Q : Flow → Shared → Prop}
theorem asg_plain (hs : swapsWith e (some t) pos.line env = pure false) (hw : swappedStores [t] e env = pure none) (hst : assignEach [t] env = [(false, assign t env)])
    (h : wpAny (model G.prog G.W) A (eval e env) (fun v s1 => wpAny (model G.prog G.W) A (assign t env v) (fun _ s2 => Q .next s2) E s1) E s) : wpAny (model G.prog G.W) A (exec (.Assign [t] e pos) env) Q E s := by
  rw [arm_exec_Assign]
  refine wpAny_bind (wpAny_standAt ?_)
  show wpAny _ A (swapsWith e (some t) pos.line env >>= _) Q E s
  rw [hs]
  refine wpAny_bind (wpAny_pure ?_)
  rw [if_neg Bool.false_ne_true, hw, hst]
  exact wpAny_bind (wpAny_mono h (fun v s1 h => wpAny_bind (wpAny_pure (wpAny_bind (wpAny_mono h (fun _ _ h => wpAny_pure h) fun _ _ z => z)))) fun _ _ z => z)
theorem asg_swap {names : List Str} (hs : swapsWith e (some t) pos.line env = pure false) (hw : swappedStores [t] e env = pure (some names))
    (h : wpAny (model G.prog G.W) A (eval e env) (fun v s1 => wpAny (model G.prog G.W) A (unpackItems v names.length none) (fun items s2 => wpAny (model G.prog G.W) A (assignInOrder (names.reverse.map fun n => bindName env n) items.reverse) (fun _ s3 => Q .next s3) E s2) E s1) E s) : wpAny (model G.prog G.W) A (exec (.Assign [t] e pos) env) Q E s := by
  rw [arm_exec_Assign]
  refine wpAny_bind (wpAny_standAt ?_)
  show wpAny _ A (swapsWith e (some t) pos.line env >>= _) Q E s
  rw [hs]
  refine wpAny_bind (wpAny_pure ?_)
  rw [if_neg Bool.false_ne_true, hw]
  exact wpAny_bind (wpAny_mono h (fun v s1 h => wpAny_bind (wpAny_pure (wpAny_bind (wpAny_rule (wpAny_bind (wpAny_mono h (fun _ _ h => wpAny_bind (wpAny_mono h (fun _ _ h => wpAny_pure h) fun _ _ z => z)) fun _ _ z => z)))))) fun _ _ z => z)
theorem asg_comp (hs : swapsWith e (some t) pos.line env = pure true) (hst : assignEach [t] env = [(false, assign t env)])
    (h : wpAny (model G.prog G.W) A (evalThenUse e env (assign t env)) (fun _ s1 => Q .next s1) E s) : wpAny (model G.prog G.W) A (exec (.Assign [t] e pos) env) Q E s := by
  rw [arm_exec_Assign]
  refine wpAny_bind (wpAny_standAt ?_)
  show wpAny _ A (swapsWith e (some t) pos.line env >>= _) Q E s
  rw [hs]
  refine wpAny_bind (wpAny_pure ?_)
  rw [if_pos rfl, hst]
  exact wpAny_bind (wpAny_mono h (fun v s1 h => wpAny_pure h) fun _ _ z => z)
end
theorem swap_ok {names : List Str} {ts : List Expr} {ps : List Pos} {v : Value} {ds : List V} {ρ' : Loc} {H1 H' : Hp} {α1 : List Addr} {s1 : Shared} {Q : Unit → Shared → Prop} (R : Rm A k) (X1 : St G.W G.Cl G.B s1.heap α1 β H1) (F1 : Fm G s1.heap α1 β sc env ρ) (V1 : VR G.W G.Cl s1.heap α1 β v (.tup ds))
    (q2 : tgts C n sc ts ds ρ H1 = some (ρ', H')) (hnd : names.Nodup) (hts : ts = (names.zip ps).map (fun q => Expr.Name q.1 q.2)) (hps : ps.length = names.length) (f : FinT G α1 β s1 sc env ρ' H' Q) :
    wpAny (model G.prog G.W) A (unpackItems v names.length none) (fun items s2 => wpAny (model G.prog G.W) A (assignInOrder (names.reverse.map fun n => bindName env n) items.reverse) Q E s2) E s1 := by
  have hlen' : names.length = ds.length := by
    rw [← (tgts_shape (env := env) q2).c, hts, List.length_map, List.length_zip, hps, Nat.min_self]
  rw [hts] at q2
  obtain ⟨ho, e1, e2⟩ := tgts_names ps ds _ hps hlen' q2
  cases V1 using Mine.VR.tupE with
  | tup w1 w2 w3 w4 w5 w6 =>
  rename_i ta ob ws m
  rw [show names.length = ws.toArray.size from by rw [List.size_toArray, w6.length, hlen']]
  refine wpAny_unpackItems_tuple R.hd (⟨_, w1, w4, _, w5⟩ : s1.heap.IsTuple ta ws.toArray) fun h2 hx => ?_
  have k2 : ∀ b o, s1.heap.get? b = some o → h2.get? b = some o := fun b o e => hx b o (fun z => sn0 (e.symm.trans (z ▸ size_none _))) e
  have g2 : Go α1 s1 α1 { s1 with heap := h2 } := Go.heap (tk := s1.toks) (Mv.of_keep k2)
  refine binds_ok (ns := names.reverse) (ws := ws.reverse) (ds := ds.reverse) (s := { s1 with heap := h2 }) (X1.mv k2) (F1.mv X1 g2.toMv) (fun x hx => ho x (List.mem_reverse.mp hx)) (w6.mv g2.toMv).reverse (by rw [List.length_reverse, List.length_reverse, hlen']) fun s3 g3 X3 F3 => f _ _ (g2.gs.trans g3) (e2 ▸ X3) (F3.less fun x d e => ?_)
  rw [ups_reverse hnd hlen', ← e1]
  exact e
theorem asgc_ok (En : En G) (cx : CxOk G k C) {x : Str} {p p' : Pos} {elt : Expr} {gens : List Comprehension} {sc' : Scope} {d : V} {ρ' : Loc} {H1 H' : Hp} {Q : Unit → Shared → Prop} (R : Rm A k) (X : St G.W G.Cl G.B s.heap α β H) (F : Fm G s.heap α β sc env ρ)
    (hk : env.kindOf x = some .local) (q1 : ev C n sc (.ListComp elt gens sc' p') ρ H = some (d, H1)) (e1 : ρ' = up x d ρ) (e2 : H' = H1) (f : FinT G α β s sc env ρ' H' Q) : wpAny (model G.prog G.W) A (evalThenUse (.ListComp elt gens sc' p') env (assign (.Name x p) env)) Q E s := by
  cases n with
  | zero => exact nos q1
  | succ n =>
  obtain ⟨tgt', it, ifs, src, vs, xs, rs, H2, rfl, rfl, q0, hi, ht, hc, d0, qc⟩ := ev_listcomp q1
  refine wpAny_bind (comp_core (sall En cx n) (use := some fun v => assign (.Name x p) env v) R X F q0 hi ht hc d0 qc fun acc Cc α' s' ce => ?_)
  obtain ⟨m, hm⟩ := ce.N
  refine wpAny_assign_Name (store_local ce.X ce.F hk ce.V fun s2 g2 X2 F2 => ?_)
  have Cn : Cc ∉ α' := (ce.X.out Cc List.mem_cons_self).2.1
  have neL : Cc ∉ [env.locals] := fun z => ce.Cβ (List.mem_singleton.mp z ▸ F.lb)
  refine ⟨m, ?_, fun h' hs' => ?_⟩
  · obtain ⟨o, es, ep, e, r⟩ := hm
    exact ⟨o, es, ep, g2.keep _ _ e Cn neL, r⟩
  have kk : ∀ {b : Addr} {o o' : Obj}, s.heap.get? b = some o' → s2.heap.get? b = some o → h'.get? b = some o := fun {b o o'} e' e => (hs'.2 b fun z => sn0 (e'.symm.trans (z ▸ ce.nC))).trans e
  refine wpAny_pure (f α' _ ⟨⟨fun b o e hb hc' => kk e (g2.keep b o (ce.g.keep b o e hb) (ce.g.toMv.off e hb) fun z => hc' (List.mem_singleton.mp z ▸ List.mem_cons_self)), fun b o e => ?_, ce.g.ext⟩, ?_⟩ (e2 ▸ X2.gen (I := Cc) (fun b o hb e => (hs'.2 b hb).trans e) List.mem_cons_self fun a ha => ⟨List.mem_cons_of_mem _ ha, fun z => ce.Cβ (z ▸ ha)⟩)
    (e1 ▸ F2.drop F.frB ce.Cβ fun b o hb e => (hs'.2 b hb).trans e))
  · obtain ⟨o1, e1⟩ := ce.g.there b o e
    obtain ⟨o2, e2⟩ := g2.there b o1 e1
    exact ⟨o2, kk e e2⟩
  · obtain ⟨h0, t0, e0⟩ := ce.g.same
    obtain ⟨h0', t0', e0'⟩ := g2.same
    exact ⟨h', t0', by rw [e0', e0]⟩
theorem nosw_t {t e : Expr} {d : V} {r : Loc × Hp} (et : dTup t = none) (q : tgtAny C n sc t d ρ H = some r) : swappedStores [t] e env = pure none := by
  cases t <;> first | rfl | exact nos q | exact sn0 et
theorem nosw_e {t e : Expr} {ts : List Expr} (et : dTup t = some ts) (ee : dTup e = none) : swappedStores [t] e env = pure none := by
  obtain ⟨c, p, rfl⟩ := dTup_ok et
  cases e <;> first | rfl | exact sn0 ee
theorem assign_ok (En : En G) (cx : CxOk G k C) {t e : Expr} {pos : Pos} {d : V} {ρ' : Loc} {H1 H' : Hp} {Q : Flow → Shared → Prop} (R : Rm A k) (X : St G.W G.Cl G.B s.heap α β H) (F : Fm G s.heap α β sc env ρ)
    (ha : assignOk t e = true) (q1 : ev C n sc e ρ H = some (d, H1)) (q2 : tgtAny C n sc t d ρ H1 = some (ρ', H')) (f : FinS G α β s sc env ρ' H' .next Q) : wpAny (model G.prog G.W) A (exec (.Assign [t] e pos) env) Q E s := by
  have ih := sall En cx (k := k) n
  have hst : assignEach [t] env = [(false, assign t env)] := by
    cases t <;> first | rfl | exact nos q2
  cases swaps_of (env := env) (t := t) (line := pos.line) q1 with
  | no hs =>
    have plain : swappedStores [t] e env = pure none → wpAny (model G.prog G.W) A (exec (.Assign [t] e pos) env) Q E s := fun hw =>
      asg_plain hs hw hst (ih.ev q1 R X F fun v α1 s1 g1 X1 V1 => tgtAny_ok En cx ih R X1 (F.mv X g1.toMv) q2 V1 fun α2 s2 g2 X2 F2 => f _ _ (g1.gs.trans g2) X2 F2)
    cases et : dTup t with
    | none => exact plain (nosw_t et q2)
    | some ts =>
    cases ee : dTup e with
    | none => exact plain (nosw_e et ee)
    | some vs =>
    unfold assignOk at ha
    rw [et, ee] at ha
    have ha : vs.all (constantsAlone 8) = false := by
      cases z : vs.all (constantsAlone 8) with
      | false => rfl
      | true => dsimp only at ha; rw [z] at ha; exact ff0 ha
    obtain ⟨kk, p, rfl⟩ := dTup_ok et
    obtain ⟨k2, p2, rfl⟩ := dTup_ok ee
    cases swapped_of (env := env) (ts := ts) (kk := kk) (k2 := k2) (p := p) (p2 := p2) ha with
    | no hw => exact plain hw
    | yes names hw hn ps h1 h2 =>
      cases d <;> first | exact nos q2 | skip
      exact asg_swap hs hw (ih.ev q1 R X F fun v α1 s1 g1 X1 V1 => swap_ok R X1 (F.mv X g1.toMv) V1 (show tgts C n sc ts _ ρ H1 = _ from q2) hn h1 h2 fun α2 s2 g2 X2 F2 => f _ _ (g1.gs.trans g2) X2 F2)
  | yes hs x p elt gens sc' p' h1 h2 h3 =>
    subst h1 h2
    obtain ⟨ko, e1, e2⟩ := tgt_name (show tgt C n sc (.Name x p) d ρ H1 = _ from q2)
    exact asg_comp hs hst (asgc_ok En cx R X F h3 q1 e1 e2 fun α2 s2 g2 X2 F2 => f _ _ g2 X2 F2)
end
end Mine
end
section
open PySem PySem.W PyProof.Rows
namespace Mine
section
variable {G : Gd} {C : Cx} {k n : Nat} {A : Around} {E : Value → Shared → Prop} {s : Shared} {α β : List Addr} {H : Hp} {sc : Scope} {env : Env} {ρ : Loc}

inductive FlR (G : Gd) (h : Heap) (α β : List Addr) : Flow → Fl → Prop
  | next : FlR G h α β .next .next
  | ret {w : Value} {d : V} : VR G.W G.Cl h α β w d → FlR G h α β (.ret w) (.ret d)

noncomputable def FinX (G : Gd) (α β : List Addr) (s : Shared) (sc : Scope) (env : Env) (fl : Fl) (ρ' : Loc) (H' : Hp) (Q : Flow → Shared → Prop) : Prop :=
  ∀ r α' s', Gs (frm env) α s α' s' → St G.W G.Cl G.B s'.heap α' β H' → Fm G s'.heap α' β sc env ρ' → FlR G s'.heap α' β r fl → Q r s'
theorem FinX.from {fl : Fl} {ρ' : Loc} {H' : Hp} {Q : Flow → Shared → Prop} {α₁ : List Addr} {s₁ : Shared} (f : FinX G α β s sc env fl ρ' H' Q) (g : Gs (frm env) α s α₁ s₁) : FinX G α₁ β s₁ sc env fl ρ' H' Q :=
  fun r α' s' k => f r α' s' (g.trans k)

theorem FinX.cast {fl fl0 : Fl} {ρ' ρ0 : Loc} {H' H0 : Hp} {Q : Flow → Shared → Prop} (f : FinX G α β s sc env fl ρ' H' Q) (e : some (fl0, ρ0, H0) = some (fl, ρ', H')) : FinX G α β s sc env fl0 ρ0 H0 Q := by
  cases e; exact f
noncomputable def SEx (G : Gd) (C : Cx) (k n : Nat) : Prop := ∀ {sc : Scope} {st : Stmt} {ρ ρ' : Loc} {H H' : Hp} {fl : Fl}, ex C n sc st ρ H = some (fl, ρ', H') →
  ∀ {A : Around} {E : Value → Shared → Prop} {s : Shared} {α β : List Addr} {env : Env} {Q : Flow → Shared → Prop}, Rm A k → St G.W G.Cl G.B s.heap α β H → Fm G s.heap α β sc env ρ →
    FinX G α β s sc env fl ρ' H' Q → wpAny (model G.prog G.W) A (exec st env) Q E s
noncomputable def SExs (G : Gd) (C : Cx) (k n : Nat) : Prop := ∀ {sc : Scope} {st : List Stmt} {ρ ρ' : Loc} {H H' : Hp} {fl : Fl}, exs C n sc st ρ H = some (fl, ρ', H') →
  ∀ {A : Around} {E : Value → Shared → Prop} {s : Shared} {α β : List Addr} {env : Env} {Q : Flow → Shared → Prop}, Rm A k → St G.W G.Cl G.B s.heap α β H → Fm G s.heap α β sc env ρ →
    FinX G α β s sc env fl ρ' H' Q → wpAny (model G.prog G.W) A (execs st env) Q E s

theorem exs_ok (ihx : SEx G C k n) (ihs : SExs G C k n) : SExs G C k (n + 1) := by
  intro sc st ρ ρ' H H' fl q A E s α β env Q R X F f
  cases st with
  | nil =>
    exact wpAny_execs_nil (f.cast q _ _ _ (Gs.refl _ _ _) X F .next)
  | cons st rest =>
    rw [xs_cons] at q
    rw [execs_cons]
    refine bndE q fun y q1 q => ?_
    obtain ⟨f1, ρ1, H1⟩ := y
    refine wpAny_bind (ihx q1 R X F fun r α1 s1 g1 X1 F1 r1 => ?_)
    cases r1 with
    | next => exact ihs q R X1 F1 (f.from g1)
    | ret V1 => exact wpAny_pure (f.cast q _ _ _ g1 X1 F1 (.ret V1))

theorem load_own {x : Str} {d : V} {Q : Value → Shared → Prop} (F : Fm G s.heap α β sc env ρ) (k : kindIs sc x isOwn = true) (q : lk x ρ = some d)
    (h : ∀ v, VR G.W G.Cl s.heap α β v d → Q v s) : wpAny (model G.prog G.W) A (loadName env x) Q E s := by
  obtain ⟨k, e1, e2⟩ := kindIs_some k
  have ek := F.ks x k e1
  have fin : kmap k = .local ∨ kmap k = .cell := by
    cases k <;> first | (cases e2; done) | (left; rfl) | (right; rfl)
  rcases fin with c | c <;> rw [c] at ek
  · obtain ⟨m, hn, hq⟩ := F.ns
    obtain ⟨v, e3, e4⟩ := hq x d q ek
    exact wpAny_loadName_local F.kind ek hn e3 (h v e4)
  · obtain ⟨c, u, e3, e4, e5⟩ := F.cl x ek
    obtain ⟨v, rfl, e6⟩ := e5 d q
    exact wpAny_loadName_cell F.kind ek e3 e4 (h v e6)

theorem getAttr_ok (En : En G) {a : Str} {v : Value} {i : Nat} {fs : List (Str × V)} {d : V} {expr : Bool} {Q : Value → Shared → Prop} (X : St G.W G.Cl G.B s.heap α β H) (V0 : VR G.W G.Cl s.heap α β v (.obj i)) (q1 : H[i]? = some (.inst fs))
    (ha : G.P.attr a = true) (q2 : lk a fs = some d) (f : FinV G.W G.Cl G.B α β s H d Q) : wpAny (model G.prog G.W) A (getAttr v a expr) Q E s := by
  obtain ⟨x, dd, es, m, rfl, e1, e2, I, O⟩ := instAt X V0 q1
  cases O with
  | inst c1 c2 c3 c4 =>
    obtain ⟨w, e3, e4⟩ := c2 a d q2
    obtain ⟨⟨r, b1, b2⟩, _⟩ := En.attr a ha
    exact get_value (X.kin En) I (plainGet_of En.plain).1 (findObj_own En.hasD b1 b2 e3) (vr_handed e4) (f.toks X _ e4)

theorem aug_name_ok (En : En G) (cx : CxOk G k C) (ih : Sall G C k n) {x : Str} {p pos : Pos} {e : Expr} {i j : Int} {H' : Hp} {Q : Flow → Shared → Prop} (R : Rm A k) (X : St G.W G.Cl G.B s.heap α β H) (F : Fm G s.heap α β sc env ρ)
    (ko : kindIs sc x isOwn = true) (q1 : lk x ρ = some (.int i)) (q2 : ev C n sc e ρ H = some (.int j, H')) (f : FinX G α β s sc env .next (up x (.int (i + j)) ρ) H' Q) :
    wpAny (model G.prog G.W) A (exec (.AugAssign (.Name x p) .Add e pos) env) Q E s := by
  refine PySem.wpAny_AugAssign_Name (load_own F ko q1 fun v V0 => ih.ev q2 R X F fun w α1 s1 g1 X1 V1 => ?_)
  cases V0 using Mine.VR.intE with
  | int t =>
  cases V1 using Mine.VR.intE with
  | int u =>
  have g2 : Go α1 s1 α1 { s1 with toks := s1.toks + 1 } := Go.toks
  refine PySem.wpAny_iadd_int (store_ok (s := { s1 with toks := s1.toks + 1 }) X1 (F.mv X g1.toMv) ko (.int _ _) fun s3 g3 X3 F3 => f _ _ _ ((g1.trans g2).gs.trans g3) X3 F3 .next)

theorem aug_attr_ok (En : En G) (cx : CxOk G k C) (ih : Sall G C k n) {o e : Expr} {a : Str} {p pos : Pos} {i : Nat} {fs fs' : List (Str × V)} {x y : Int} {H1 H' : Hp} {Q : Flow → Shared → Prop} (R : Rm A k) (X : St G.W G.Cl G.B s.heap α β H) (F : Fm G s.heap α β sc env ρ)
    (ha : G.P.attr a = true) (q1 : ev C n sc o ρ H = some (.obj i, H1)) (q2 : H1[i]? = some (.inst fs)) (q3 : lk a fs = some (.int x)) (q4 : ev C n sc e ρ H1 = some (.int y, H')) (q5 : H'[i]? = some (.inst fs')) (hz : ¬ 100 ≤ fs'.length)
    (f : FinX G α β s sc env .next ρ (H'.set i (.inst (up a (.int (x + y)) fs'))) Q) :
    wpAny (model G.prog G.W) A (exec (.AugAssign (.Attribute o a p) .Add e pos) env) Q E s := by
  show wpAny _ A (do
    standAt pos
    let ov ← eval o env
    let new ← holding [ov] do
      standAt p.atName
      let old ← getAttr ov a true
      let v ← holding [old] (eval e env)
      standAt pos
      operate [old, v] (inplaceOp .Add old v)
    standAt p.atName
    holding [new, ov] (setAttr ov a new)
    release [new, ov] []
    pure .next) Q E s
  refine wpAny_bind (wpAny_standAt (wpAny_bind (ih.ev q1 R X F fun ov α1 s1 g1 X1 V1 => wpAny_bind (wpAny_holding (wpAny_bind (wpAny_standAt (wpAny_bind (getAttr_ok En X1 V1 q2 ha q3 fun old α2 s2 g2 X2 V2 => ?_))))))))
  have F2 := (F.mv X g1.toMv).mv X1 g2.toMv
  refine wpAny_bind (wpAny_holding (ih.ev q4 R X2 F2 fun w α3 s3 g3 X3 V3 => wpAny_bind (wpAny_standAt (wpAny_operateT ?_))))
  cases V2 using Mine.VR.intE with
  | int t =>
  cases V3 using Mine.VR.intE with
  | int u =>
  have g4 : Go α3 s3 α3 { s3 with toks := s3.toks + 1 } := Go.toks
  refine PySem.wpAny_iadd_int (wpAny_bind (wpAny_standAt (wpAny_bind (wpAny_holding ?_))))
  refine setAttr_ok (s := { s3 with toks := s3.toks + 1 }) En X3 ((V1.mv g2.toMv).mv g3.toMv) q5 ha hz (.int _ _) fun s5 g5 X5 => wpAny_bind (wpAny_release (wpAny_pure ?_))
  exact f _ _ _ ((((g1.trans g2).trans g3).trans g4).trans g5).gs X5 ((F2.mv X2 g3.toMv).mv X3 g5.toMv) .next

/-- where a while loop stands -/
structure WI (G : Gd) (fl : Fl) (ρ' : Loc) (H' : Hp) (s : Shared) (α β : List Addr) (sc : Scope) (env : Env) (f : Nat → Loc → Hp → Option (Fl × Loc × Hp)) (m : Nat) (ρ1 : Loc) (H1 : Hp) (α1 : List Addr) (s' : Shared) : Prop where
  q : f m ρ1 H1 = some (fl, ρ', H')
  g : Gs (frm env) α s α1 s'
  X : St G.W G.Cl G.B s'.heap α1 β H1
  F : Fm G s'.heap α1 β sc env ρ1
/-- a turn of a while loop -/
noncomputable def TurnW (G : Gd) (A : Around) (t : Expr) (body : List Stmt) (env : Env) (K : Shared → Prop) (Rr : Result → Shared → Prop) (Er : Value → Shared → Prop) (s : Shared) : Prop :=
  wpAny (model G.prog G.W) A (isTrue t env (eval t env)) (fun b s₂ => if b = true then wpAny (model G.prog G.W) A (execs body env) (fun f s₃ => match f with
            | .next | .cont => K s₃
            | .brk => Rr (.ok .next) s₃
            | .ret v => Rr (.ok (.ret v)) s₃) Er s₂
        else wpAny (model G.prog G.W) A (execs [] env) (fun f s₃ => Rr (.ok f) s₃) Er s₂) Er s
theorem while_turn (ih : Sall G C k n) (ihs : SExs G C k n) {t : Expr} {body : List Stmt} {m : Nat} {fl : Fl} {ρ' ρ1 : Loc} {H' H1 : Hp} {α1 : List Addr} {s' : Shared} {K : Shared → Prop} {Rr : Result → Shared → Prop} {Er : Value → Shared → Prop} (R : Rm A k)
    (c : WI G fl ρ' H' s α β sc env (whileF (fun ρ H => evT C n sc t ρ H) (fun ρ H => exs C n sc body ρ H)) (m + 1) ρ1 H1 α1 s') (f : FinX G α β s sc env fl ρ' H' fun r s' => Rr (.ok r) s')
    (fin : ∀ ρ3 H3 α3 s3, WI G fl ρ' H' s α β sc env (whileF (fun ρ H => evT C n sc t ρ H) (fun ρ H => exs C n sc body ρ H)) m ρ3 H3 α3 s3 → K s3) : TurnW G A t body env K Rr Er s' := by
  have q := c.q
  rw [whileF_s] at q
  refine bndE q fun y q1 q => ih.evT q1 R c.X c.F fun α2 s2 g2 X2 => ?_
  obtain ⟨b, H2⟩ := y
  have F2 := c.F.mv c.X g2.toMv
  have g2 := c.g.trans g2.gs
  cases b with
  | true =>
    rw [if_pos rfl]
    refine bndE q fun y q2 q => ?_
    obtain ⟨f3, ρ3, H3⟩ := y
    refine ihs q2 R X2 F2 fun r α3 s3 g3 X3 F3 r3 => ?_
    cases r3 with
    | next => exact fin _ _ _ _ ⟨q, g2.trans g3, X3, F3⟩
    | ret V3 => exact f.cast q _ α3 s3 (g2.trans g3) X3 F3 (.ret V3)
  | false =>
    rw [if_neg Bool.false_ne_true]
    exact wpAny_execs_nil (f.cast q _ _ _ g2 X2 F2 .next)
theorem while_ok (ih : Sall G C k n) (ihs : SExs G C k n) {t : Expr} {body : List Stmt} {pos : Pos} {w : Nat} {fl : Fl} {ρ' : Loc} {H' : Hp} {Q : Flow → Shared → Prop} (R : Rm A k) (X : St G.W G.Cl G.B s.heap α β H) (F : Fm G s.heap α β sc env ρ)
    (q : whileF (fun ρ H => evT C n sc t ρ H) (fun ρ H => exs C n sc body ρ H) w ρ H = some (fl, ρ', H')) (f : FinX G α β s sc env fl ρ' H' Q) :
    wpAny (model G.prog G.W) A (exec (.While t body [] pos) env) Q E s :=
  wpAny_While (codeAny_whileLoop (fun m s' => ∃ ρ1 H1 α1, WI G fl ρ' H' s α β sc env (whileF (fun ρ H => evT C n sc t ρ H) (fun ρ H => exs C n sc body ρ H)) m ρ1 H1 α1 s')
    (fun m s' inv => by
      obtain ⟨ρ1, H1, α1, c⟩ := inv
      cases m with
      | zero => exact nos c.q
      | succ m => refine while_turn (Rr := fun r s' => match r with | .ok f => Q f s' | .error e => cameBackBy (model G.prog G.W) A env E e s') ih ihs R c ?_ fun ρ3 H3 α3 s3 c3 => ?_
                  · exact f
                  · exact ⟨m, Nat.lt_succ_self m, ρ3, H3, α3, c3⟩) w ⟨ρ, H, α, q, Gs.refl _ _ _, X, F⟩)

theorem Fm.sub {h : Heap} {β' : List Addr} (F : Fm G h α β' sc env ρ) (k : ∀ a ∈ β, a ∈ β') (nf : ∀ a ∈ frm env, a ∈ β) : Fm G h α β sc env ρ := by
  refine ⟨F.kind, F.glb, F.blt, F.ks, ?_, fun x' kx => ?_, nf _ List.mem_cons_self, fun x c hc => ⟨nf _ (List.mem_cons_of_mem _ (List.mem_map.mpr ⟨_, hc, rfl⟩)), (F.cb x c hc).2⟩, F.ap⟩
  · obtain ⟨m, e, q⟩ := F.ns
    exact ⟨m, e, fun x' d e kx => let ⟨v, e1, e2⟩ := q x' d e kx; ⟨v, e1, e2.sub k⟩⟩
  · obtain ⟨c, u, e1, e2, e4⟩ := F.cl x' kx
    exact ⟨c, u, e1, e2, fun d e => let ⟨v, e5, e6⟩ := e4 d e; ⟨v, e5, e6.sub k⟩⟩

/-- what a for loop rests on -/
structure FP where
  G : Gd
  f : V → Loc → Hp → Option (Fl × Loc × Hp)
  I : Addr
  α1 : List Addr
  β : List Addr
  s0 : Shared
  J : Nat → Heap → Prop
  vs : List V
  fl : Fl
  ρ' : Loc
  H' : Hp
  sc : Scope
  env : Env
noncomputable def FP.B (p : FP) : List Addr := [p.I] ++ p.β
noncomputable def FP.K (p : FP) : List Addr := [p.I] ++ frm p.env
structure FS (p : FP) (s1 : Shared) : Prop where
  kI : ∀ b x, s1.heap.get? b = some x → p.s0.heap.get? b = some x
  nI : s1.heap.get? p.I = none
  Iβ : p.I ∉ p.β
  fB : ∀ a ∈ frm p.env, a ∈ p.β
  same : ∃ h t, p.s0 = { s1 with heap := h, toks := t }
structure FI (p : FP) (j : Nat) (α' : List Addr) (ρ1 : Loc) (Hj : Hp) (s' : Shared) : Prop where
  hj : j ≤ p.vs.length
  J : p.J j s'.heap
  g : Gs p.K p.α1 p.s0 α' s'
  X : St p.G.W p.G.Cl p.G.B s'.heap α' p.B Hj
  F : Fm p.G s'.heap α' p.B p.sc p.env ρ1
  q : forF p.f (p.vs.drop j) ρ1 Hj = some (p.fl, p.ρ', p.H')
section
variable {p : FP} {s1 s' : Shared} {j : Nat} {α' : List Addr} {ρ1 : Loc} {Hj : Hp}
theorem FP.mI : p.I ∈ p.B := List.mem_cons_self
theorem FP.mB {a : Addr} (h : a ∈ p.β) : a ∈ p.B := List.mem_cons_of_mem _ h
theorem FS.off (cs : FS p s1) {a : Addr} {x : Obj} {P : Prop} (h : a = p.I) (e : s1.heap.get? a = some x) : P := sn0 (e.symm.trans (h ▸ cs.nI))
theorem FS.fr (cs : FS p s1) : ∀ a ∈ [p.I], s1.heap.get? a = none := fun a ha => List.mem_singleton.mp ha ▸ cs.nI
theorem FS.nf (cs : FS p s1) : ∀ a ∈ [p.I], a ∉ frm p.env := fun a ha hm => cs.Iβ (List.mem_singleton.mp ha ▸ cs.fB a hm)
theorem FI.st (cs : FS p s1) (c : FI p j α' ρ1 Hj s') : Gs (frm p.env) p.α1 s1 α' s' := ⟨c.g.toMs.drop cs.kI cs.fr, by
  obtain ⟨h0, t0, e0⟩ := c.g.same
  obtain ⟨h1, t1, e1⟩ := cs.same
  exact ⟨h0, t0, by rw [e0, e1]⟩⟩
theorem FI.kp1 (cs : FS p s1) (c : FI p j α' ρ1 Hj s') {h5 : Heap} (kp : ∀ b o, b ≠ p.I → s'.heap.get? b = some o → h5.get? b = some o) : Kp s1.heap p.α1 p.β h5 α' p.B :=
  ⟨fun b o e ha hb => ⟨kp b o (fun z => cs.off z e) ((c.st cs).keep b o e ha fun z => hb (cs.fB b z)), (c.st cs).toMs.off e ha, fun z => (List.mem_cons.mp z).elim (fun z => cs.off z e) hb⟩, fun _ _ e => (c.st cs).toMs.get e⟩
/-- at the loop's end -/
theorem FI.done (cs : FS p s1) {s : Shared} {α0 : List Addr} (c : FI p p.vs.length α' ρ1 Hj s') (g1 : Go α0 s p.α1 s1) {h' : Heap} {tk : Nat} (kp : ∀ b o, b ≠ p.I → s'.heap.get? b = some o → h'.get? b = some o) {Q : Flow → Shared → Prop} (f : FinX p.G α0 p.β s p.sc p.env p.fl p.ρ' p.H' Q) : Q .next { s' with heap := h', toks := tk } := by
  have q := c.q
  rw [List.drop_length] at q
  have e := Prod.mk.inj (Option.some.inj q)
  have e' := Prod.mk.inj e.2
  have st := c.st cs
  refine f .next α' _ (g1.gs.trans ⟨⟨fun b x e hb hc => kp b x (fun z => cs.off z e) (st.keep b x e hb hc), fun b x e => ?_, st.ext⟩, ?_⟩) (e'.2 ▸ c.X.gen (I := p.I) kp FP.mI fun a ha => ⟨FP.mB ha, fun z => cs.Iβ (z ▸ ha)⟩) (e'.1 ▸ c.F.drop cs.fB cs.Iβ kp) (e.1 ▸ .next)
  · obtain ⟨x', e'⟩ := st.there b x e
    exact ⟨x', kp b x' (fun z => cs.off z e) e'⟩
  · obtain ⟨h0, t0, e0⟩ := st.same
    exact ⟨h', tk, by rw [e0]⟩
end

/-- what is left of a turn, once the iterator gave v -/
noncomputable def TurnF (G : Gd) (A : Around) (t : Expr) (body : List Stmt) (it : Value) (env : Env) (K : Shared → Prop) (Rr : Result → Shared → Prop) (Er : Value → Shared → Prop) (v : Value) (s : Shared) : Prop :=
  wpAny (model G.prog G.W) A (letOwnedTupleGo t it v) (fun _ s₁' => wpAny (model G.prog G.W) A (assign t env v) (fun _ s₂ => wpAny (model G.prog G.W) A (execs body env) (fun f s₃ => match f with
            | .next | .cont => K s₃
            | .brk => Rr (.ok .next) s₃
            | .ret v => Rr (.ok (.ret v)) s₃) Er s₂) Er s₁') Er s
theorem for_turn {p : FP} (En : En p.G) (cx : CxOk p.G k C) (ih : Sall p.G C k n) (ihs : SExs p.G C k n) {t : Expr} {body : List Stmt} {s1 s' : Shared} {j : Nat} {α' α0 : List Addr} {ρ1 : Loc} {Hj : Hp} {h5 : Heap} {tk : Nat} {v : Value} {d : V} {K : Shared → Prop} {Rr : Result → Shared → Prop} {Er : Value → Shared → Prop}
    (hf : p.f = forB' C n p.sc t body) (R : Rm A k) (cs : FS p s1) (g1 : Go α0 s p.α1 s1) (It : Itr p.G A p.I p.vs s1.heap p.α1 p.β p.J) (c : FI p j α' ρ1 Hj s') (hd : p.vs[j]? = some d) (V5 : VR p.G.W p.G.Cl s1.heap p.α1 p.β v d) (J5 : p.J (j + 1) h5) (kp : ∀ b o, b ≠ p.I → s'.heap.get? b = some o → h5.get? b = some o)
    (fin : ∀ α9 ρ9 H9 s9, FI p (j + 1) α9 ρ9 H9 s9 → K s9) (f : FinX p.G α0 p.β s p.sc p.env p.fl p.ρ' p.H' fun r s' => Rr (.ok r) s') : TurnF p.G A t body (.ref p.I) p.env K Rr Er v { s' with heap := h5, toks := tk } := by
  have hj' : j < p.vs.length := (List.getElem?_eq_some_iff.mp hd).1
  have q := c.q
  rw [show p.vs.drop j = d :: p.vs.drop (j + 1) from by rw [List.drop_eq_getElem_cons hj', (List.getElem?_eq_some_iff.mp hd).2], forF_c] at q
  refine bndE q fun y e q => ?_
  rw [hf] at e
  refine bndE e fun z qt qb => ?_
  obtain ⟨oI, TI, eI, cI, hIn⟩ := It.cls _ _ J5
  refine letOwned_ok (s := { s' with heap := h5, toks := tk }) eI cI hIn ?_
  have gI : ∀ α : List Addr, Ms [p.I] α s'.heap α h5 := fun α => ⟨fun b x e _ hb => kp b x (fun z => hb (List.mem_singleton.mpr z)) e, fun b x e => by
    by_cases hb : b = p.I
    · exact ⟨oI, hb ▸ eI⟩
    · exact ⟨x, kp b x hb e⟩, [], (List.append_nil _).symm, fun _ z => nomatch z⟩
  have kbI : ∀ a ∈ [p.I], a ∈ p.B := fun a ha => List.mem_append_left _ ha
  have K1 := c.kp1 cs kp
  have g5 : Gs p.K α' s' α' { s' with heap := h5, toks := tk } := Gs.of ((gI α').more fun a ha => List.mem_append_left _ ha)
  refine tgtAny_ok (s := { s' with heap := h5, toks := tk }) En cx ih R (c.X.ms (gI []) kbI) (c.F.ms c.X (gI α') kbI cs.nf) qt (V5.kp K1) fun α6 s6 g6 X6 F6 => ?_
  obtain ⟨f7, ρ7, H7⟩ := y
  refine ihs qb R X6 F6 fun r α7 s7 g7 X7 F7 r7 => ?_
  have g67 := g6.trans g7
  have gg : Gs p.K p.α1 p.s0 α7 s7 := (c.g.trans g5).trans ⟨g67.toMs.more fun a ha => List.mem_append_right _ ha, g67.same⟩
  have Jk : p.J (j + 1) s7.heap := It.keep _ _ _ J5 (fun x e => g67.keep _ _ e (c.X.out _ FP.mI).2.1 fun z => cs.nf _ (List.mem_singleton.mpr rfl) z) fun b x e ha hb => g67.keep _ _ (K1.k b x e ha hb).1 (K1.k b x e ha hb).2.1 fun z => hb (cs.fB b z)
  cases r7 with
  | next => exact fin α7 ρ7 H7 s7 ⟨hj', Jk, gg, X7, F7, q⟩
  | ret V7 =>
    have e := Prod.mk.inj (Option.some.inj q)
    have e' := Prod.mk.inj e.2
    have st : Gs (frm p.env) p.α1 s1 α7 s7 := ⟨gg.toMs.drop cs.kI cs.fr, by
      obtain ⟨h0, t0, e0⟩ := gg.same
      obtain ⟨h1, t1, e1⟩ := cs.same
      exact ⟨h0, t0, by rw [e0, e1]⟩⟩
    exact f _ α7 s7 (g1.gs.trans st) (e'.2 ▸ X7.sub fun a ha => FP.mB ha) (e'.1 ▸ F7.sub (fun a ha => FP.mB ha) cs.fB) (e.1 ▸ .ret (V7.sub fun a ha => FP.mB ha))
theorem for_loop {p : FP} (En : En p.G) (cx : CxOk p.G k C) (ih : Sall p.G C k n) (ihs : SExs p.G C k n) {t : Expr} {body : List Stmt} {s1 : Shared} {α0 : List Addr} {ρ1 : Loc} {H1 : Hp} {Rr : Result → Shared → Prop}
    (hf : p.f = forB' C n p.sc t body) (R : Rm A k) (cs : FS p s1) (g1 : Go α0 s p.α1 s1) (It : Itr p.G A p.I p.vs s1.heap p.α1 p.β p.J) (c0 : FI p 0 p.α1 ρ1 H1 p.s0) (f : FinX p.G α0 p.β s p.sc p.env p.fl p.ρ' p.H' fun r s' => Rr (.ok r) s') :
    codeAny (model p.G.prog p.G.W) A (.forLoop t (.ref p.I) body [] p.env) Rr p.s0 :=
  codeAny_forLoop_any (fun m s' => ∃ j α' ρ1 Hj, m = p.vs.length - j ∧ FI p j α' ρ1 Hj s') (fun m s' inv => by
    obtain ⟨j, α', ρ1, Hj, rfl, c⟩ := inv
    cases hd : p.vs[j]? with
    | none =>
      have : j = p.vs.length := Nat.le_antisymm c.hj (List.getElem?_eq_none_iff.mp hd)
      subst this
      exact It.done s' _ _ c.J fun h' tk kp => wpAny_execs_nil (c.done cs g1 kp f)
    | some d =>
      have hj' : j < p.vs.length := (List.getElem?_eq_some_iff.mp hd).1
      exact It.next j d s' _ _ hd c.J fun v h5 tk V5 J5 kp => for_turn En cx ih ihs hf R cs g1 It c hd V5 J5 kp (fun α9 ρ9 H9 s9 c9 => ⟨_, Nat.sub_lt_sub_left hj' (Nat.lt_succ_self j), _, _, _, _, rfl, c9⟩) f)
    p.vs.length ⟨0, _, _, _, rfl, c0⟩
theorem for_ok (En : En G) (cx : CxOk G k C) (ih : Sall G C k n) (ihs : SExs G C k n) {t it : Expr} {body : List Stmt} {pos : Pos} {src : V} {vs : List V} {fl : Fl} {ρ' : Loc} {H1 H' : Hp} {Q : Flow → Shared → Prop} (R : Rm A k) (X : St G.W G.Cl G.B s.heap α β H) (F : Fm G s.heap α β sc env ρ)
    (q0 : ev C n sc it ρ H = some (src, H1)) (hi : iter src = some vs) (q : forF (forB' C n sc t body) vs ρ H1 = some (fl, ρ', H')) (f : FinX G α β s sc env fl ρ' H' Q) :
    wpAny (model G.prog G.W) A (exec (.For t it body [] pos) env) Q E s := by
  have noSet : ∀ x, foldedSetIterable it env x = pure x := fun x => by
    cases it <;> first | rfl | skip
    cases n with
    | zero => exact nos q0
    | succ n => exact nos q0
  refine wpAny_For (ih.ev q0 R X F fun w α1 s1 g1 X1 V1 => iter_ok R.hd X1 V1 hi fun o J ho It J0 => ?_) noSet
  have F1 := F.mv X g1.toMv
  have kI := push_keep (h := s1.heap) o
  have nI := size_none s1.heap
  have Iβ : s1.heap.objs.size ∉ β := fun z => (X1.out _ z).1.elim fun x e => sn0 (e.symm.trans nI)
  have fr : ∀ a ∈ [s1.heap.objs.size], s1.heap.get? a = none := fun a ha => List.mem_singleton.mp ha ▸ nI
  have X2 := X1.enl (δ := [s1.heap.objs.size]) kI fun a ha => ⟨fr a ha, List.mem_singleton.mp ha ▸ ⟨_, ho⟩⟩
  have F2 := F1.gen (β' := [s1.heap.objs.size] ++ β) X1 (fun b x e hb => ⟨kI b x e, hb⟩) (fun _ _ e => e) (fun b x e hb z => (List.mem_append.mp z).elim (fun z => sn0 (e.symm.trans (fr b z))) hb) fun b hb => List.mem_append_right _ hb
  exact for_loop (p := ⟨G, forB' C n sc t body, s1.heap.objs.size, α1, β, { s1 with heap := s1.heap.push o }, J, vs, fl, ρ', H', sc, env⟩) En cx ih ihs rfl R ⟨kI, nI, Iβ, F.frB, _, _, rfl⟩ g1 It ⟨Nat.zero_le _, J0, Gs.refl _ _ _, X2, F2, q⟩ f

section
variable {st : Stmt} {fl : Fl} {ρ' : Loc} {H' : Hp} {Q : Flow → Shared → Prop}
theorem exg_ok (En : En G) (cx : CxOk G k C) {t e : Expr} {op : Operator} {p : Pos} (q : ex C (n + 1) sc (.AugAssign t op e p) ρ H = some (fl, ρ', H')) (R : Rm A k) (X : St G.W G.Cl G.B s.heap α β H) (F : Fm G s.heap α β sc env ρ) (f : FinX G α β s sc env fl ρ' H' Q) :
    wpAny (model G.prog G.W) A (exec (.AugAssign t op e p) env) Q E s := by
  have ih := sall En cx (k := k) n
  cases op <;> first | exact nos q | skip
  cases t <;> first | exact nos q | skip
  · rw [x_augA] at q
    obtain ⟨ha, q⟩ := chk_some q
    cases augAK_inv q with
    | mk i H1 fs a b H2 fs' q1 q2 q3 q4 q5 hz e1 e2 e3 => exact aug_attr_ok En cx ih R X F (cx.attr ▸ ha) q1 q2 q3 q4 q5 hz (e1 ▸ e2 ▸ e3 ▸ f)
  · rw [x_augN] at q
    obtain ⟨ko, q⟩ := chk_some q
    cases augK_inv q with
    | mk i j q1 q2 e1 e2 => exact aug_name_ok En cx ih R X F ko q1 q2 (e1 ▸ e2 ▸ f)
section
variable (ih : Sall G C k n) (R : Rm A k) (X : St G.W G.Cl G.B s.heap α β H) (F : Fm G s.heap α β sc env ρ) (f : FinX G α β s sc env fl ρ' H' Q)
include ih R X F f
theorem ex_expr {fn : Expr} {as : List Expr} {ks : List Keyword} {p2 p : Pos} (q : ex C (n + 1) sc (.Expr (.Call fn as ks p2) p) ρ H = some (fl, ρ', H')) : wpAny (model G.prog G.W) A (exec (.Expr (.Call fn as ks p2) p) env) Q E s := by
  rw [x_expr] at q
  refine wpAny_Expr_any (bndE q fun y q1 q => ih.ev q1 R X F fun v α1 s1 g1 X1 V1 => f.cast q _ _ _ g1.gs X1 (F.mv X g1.toMv) .next) ?_ rfl
  unfold interactive
  rw [F.kind]; rfl
theorem ex_ret {e : Expr} {p : Pos} (q : ex C (n + 1) sc (.Return (some e) p) ρ H = some (fl, ρ', H')) : wpAny (model G.prog G.W) A (exec (.Return (some e) p) env) Q E s := by
  rw [x_ret] at q
  exact wpAny_Return_some (bndE q fun y q1 q => ih.ev q1 R X F fun v α1 s1 g1 X1 V1 => f.cast q _ _ _ g1.gs X1 (F.mv X g1.toMv) (.ret V1))
theorem ex_if (ihs : SExs G C k n) {t : Expr} {a b : List Stmt} {p : Pos} (q : ex C (n + 1) sc (.If t a b p) ρ H = some (fl, ρ', H')) : wpAny (model G.prog G.W) A (exec (.If t a b p) env) Q E s := by
  rw [x_if] at q
  refine wpAny_If (bndE q fun y q1 q => ih.evT q1 R X F fun α1 s1 g1 X1 => ?_)
  obtain ⟨c, H1⟩ := y
  cases c with
  | true => rw [if_pos rfl]; exact ihs q R X1 (F.mv X g1.toMv) (f.from g1.gs)
  | false => rw [if_neg Bool.false_ne_true]; exact ihs q R X1 (F.mv X g1.toMv) (f.from g1.gs)
omit ih in
theorem ex_asg (En : En G) (cx : CxOk G k C) {t e : Expr} {p : Pos} (q : ex C (n + 1) sc (.Assign [t] e p) ρ H = some (fl, ρ', H')) : wpAny (model G.prog G.W) A (exec (.Assign [t] e p) env) Q E s := by
  rw [x_asg] at q
  obtain ⟨ha, q⟩ := chk_some q
  exact bndE q fun y q1 q => bndE q fun z q2 q => assign_ok En cx R X F ha q1 q2 fun α1 s1 g1 X1 F1 => f.cast q _ _ _ g1 X1 F1 .next
end
theorem ex_ok (En : En G) (cx : CxOk G k C) (ihs : SExs G C k n) : SEx G C k (n + 1) := by
  intro sc st ρ ρ' H H' fl q A E s α β env Q R X F f
  have ih := sall En cx (k := k) n
  cases st <;> first | exact nos q | skip
  case Expr e p =>
    cases e <;> first | exact nos q | exact ex_expr ih R X F f q
  case Return e p =>
    cases e with
    | some e => exact ex_ret ih R X F f q
    | none => exact wpAny_bind (wpAny_standAt (wpAny_pure (f.cast q _ _ _ (Gs.refl _ _ _) X F (.ret .none))))
  case Assign ts e p =>
    cases ts with
    | nil => exact nos q
    | cons t ts =>
      cases ts with
      | cons _ _ => exact nos q
      | nil => exact ex_asg R X F f En cx q
  case AugAssign t op e p => exact exg_ok En cx q R X F f
  case If t a b p => exact ex_if ih R X F f ihs q
  case While t body el p =>
    cases el with
    | cons _ _ => exact nos q
    | nil => exact while_ok ih ihs R X F q f
  case For t it body el p =>
    cases el with
    | cons _ _ => exact nos q
    | nil =>
      rw [x_for] at q
      exact bndE q fun y q1 q => bndE q fun vs hi q => for_ok En cx ih ihs R X F q1 hi q f
end

theorem sexs (En : En G) (cx : CxOk G k C) : ∀ n, SEx G C k n ∧ SExs G C k n
  | 0 => ⟨fun q => nos q, fun q => nos q⟩
  | n + 1 => let ⟨a, b⟩ := sexs En cx n; ⟨ex_ok En cx b, exs_ok a b⟩
end
end Mine
end
section
open PySem PySem.W PyProof.Rows
namespace Mine
section
variable {G : Gd} {C : Cx} {k n : Nat} {A : Around} {E : Value → Shared → Prop} {s : Shared} {α β : List Addr} {H : Hp} {sc : Scope} {env : Env} {ρ : Loc}

theorem bindP_lk : ∀ {xs : List Str} {ds : List V} {ρ : Loc}, bindP xs ds = some ρ → xs.length = ds.length ∧ ∀ x, lk x ρ = (xs.zip ds).lookup x
  | [], [], _, e => by cases e; exact ⟨rfl, fun _ => rfl⟩
  | [], _ :: _, _, e => by cases e
  | _ :: _, [], _, e => by cases e
  | x :: xs, d :: ds, _, e => by
    rw [bindP_1, Option.map_eq_some_iff] at e
    obtain ⟨r, e, rfl⟩ := e
    obtain ⟨a, b⟩ := bindP_lk e
    refine ⟨by simp [a], fun y => ?_⟩
    rw [lk_1, List.zip_cons_cons, List.lookup_cons]
    by_cases h : y = x
    · subst h; rw [seq_self]; simp
    · rw [seq_ne h, beq_eq_false_iff_ne.mpr h]; exact b y
theorem zip_vr {h : Heap} {x : Str} {d : V} : ∀ {xs : List Str} {ws : List Value} {ds : List V}, VRs G.W G.Cl h α β ws ds → (xs.zip ds).lookup x = some d → ∃ w, (xs.zip ws).lookup x = some w ∧ VR G.W G.Cl h α β w d
  | [], _, _, _, e => by simp at e
  | _ :: _, _, _, .nil, e => by simp at e
  | y :: xs, _, _, .cons a b, e => by
    rw [List.zip_cons_cons, List.lookup_cons] at e ⊢
    by_cases h : x = y
    · subst h
      simp only [beq_self_eq_true, Option.some.injEq] at e ⊢
      subst e
      exact ⟨_, rfl, a⟩
    · rw [beq_eq_false_iff_ne.mpr h] at e ⊢
      exact zip_vr b e
theorem bindL_look {ko : Str → Option NameKind} {x : Str} (hx : ko x = some .local) : ∀ (l : List (Str × Value)) (m : Str → Option Value), (l.map (·.1)).Nodup → bindL ko l m x = match l.lookup x with | some v => some v | none => m x
  | [], m, _ => rfl
  | (n, v) :: r, m, hn => by
    rw [List.map_cons, List.nodup_cons] at hn
    rw [bindL, bindL_look hx r _ hn.2, List.lookup_cons]
    by_cases h : x = n
    · subst h
      have : r.lookup x = none := by
        cases q : r.lookup x with
        | none => rfl
        | some v => exact absurd (List.mem_map.mpr ⟨_, mem_of_lookup q, rfl⟩) hn.1
      rw [this]; simp [hx]
    · rw [beq_eq_false_iff_ne.mpr h]
      cases r.lookup x with
      | some v => rfl
      | none =>
        dsimp only
        split
        · exact if_neg h
        · rfl
theorem bindC_look {ko : Str → Option NameKind} {x : Str} (hx : ko x ≠ some .local) : ∀ (l : List (Str × Value)) (m : Str → Option Value), (l.map (·.1)).Nodup → bindC ko l m x = match l.lookup x with | some v => some v | none => m x
  | [], m, _ => rfl
  | (n, v) :: r, m, hn => by
    rw [List.map_cons, List.nodup_cons] at hn
    rw [bindC, bindC_look hx r _ hn.2, List.lookup_cons]
    by_cases h : x = n
    · subst h
      have : r.lookup x = none := by
        cases q : r.lookup x with
        | none => rfl
        | some v => exact absurd (List.mem_map.mpr ⟨_, mem_of_lookup q, rfl⟩) hn.1
      rw [this]; simp [hx]
    · rw [beq_eq_false_iff_ne.mpr h]
      cases r.lookup x with
      | some v => rfl
      | none =>
        dsimp only
        split
        · rfl
        · exact if_neg h
theorem cellsFrom_keys : ∀ (names : List (Str × NameKind)) (m : Nat) (acc : List (Str × Addr)), (cellsFrom m names acc).map (·.1) = ((names.filter (·.2 == .cell)).map (·.1)).reverse ++ acc.map (·.1)
  | [], m, acc => rfl
  | (x, kk) :: r, m, acc => by
    unfold cellsFrom
    rw [List.filter_cons]
    by_cases h : (kk == NameKind.cell) = true
    · rw [if_pos h, if_pos h, cellsFrom_keys r]
      simp
    · rw [if_neg h, if_neg h, cellsFrom_keys r]

/-- room for a call -/
structure RmC (A : Around) (k : Nat) : Prop where
  hd : A.handled = none
  depth : A.depth + 2 * k + 1 < recursionLimit
  units : A.units + 8 * k + 203 < cLine
theorem RmC.deeper {A : Around} {k : Nat} (R : RmC A k) (env : Env) : Rm (A.deeper env) k := ⟨R.hd, by
  have := R.depth
  show A.depth + 1 + 2 * k < _
  (first | lia | omega), by
  have := R.units
  show A.units + 3 + 8 * k + 200 < _
  (first | lia | omega)⟩
theorem Rm.call {A : Around} {k : Nat} (R : Rm A (k + 1)) : RmC A k := ⟨R.hd, by have := R.depth; (first | lia | omega), by have := R.units; (first | lia | omega)⟩

theorem kindOwn {x : Str} (h : kindIs sc x isOwn = true) : lk x sc.names = some .local ∨ lk x sc.names = some .cell := by
  obtain ⟨k, h1, h2⟩ := kindIs_some h
  cases k <;> first | exact .inl h1 | exact .inr h1 | cases h2

theorem lookup_mem_nodup {α : Type} {y : Str} {d : α} : ∀ {l : List (Str × α)}, (l.map (·.1)).Nodup → (y, d) ∈ l → l.lookup y = some d
  | (x, v) :: r, hn, hm => by
    rw [List.map_cons, List.nodup_cons] at hn
    rw [List.lookup_cons]
    rcases List.mem_cons.mp hm with q | q
    · cases q; simp
    · have : y ≠ x := fun z => hn.1 (List.mem_map.mpr ⟨_, q, z⟩)
      rw [beq_eq_false_iff_ne.mpr this]
      exact lookup_mem_nodup hn.2 q

/-- a def's call: the body, run -/
theorem run_ok (En : En G) (cx : CxOk G k C) {v : Value} {d : FD} (at_ : AtFn G v d) {args : List V} {vs : List Value} {r : V} {H' : Hp} {R' : Result → Shared → Prop} (R : RmC A k) (X : St G.W G.Cl G.B s.heap α β H) (V0 : VRs G.W G.Cl s.heap α β vs args)
    (q : runD C d args H = some (r, H'))
    (f : ∀ w δ α' s', (∀ a ∈ δ, s.heap.get? a = none) → Go α s α' s' → St G.W G.Cl G.B s'.heap α' (δ ++ β) H' → VR G.W G.Cl s'.heap α' (δ ++ β) w r → R' (.ok (.ret w)) s') :
    codeAny (model G.prog G.W) A (.call v ⟨vs, []⟩) R' s := by
  obtain ⟨a, o, fd, rfl, ho, hdata, fo⟩ := at_
  unfold runD at q
  split at q
  · rename_i ρ qb
    obtain ⟨hlen, hlk⟩ := bindP_lk qb
    have hvl : vs.length = d.params.length := by rw [V0.length, hlen]
    have kmem : ∀ x, lk x d.scope.names = some .cell → ∃ c, (cellsFrom (s.heap.objs.size + 1) d.scope.names []).lookup x = some c := fun x hx => by
      have hm : x ∈ (cellsFrom (s.heap.objs.size + 1) d.scope.names []).map (·.1) := by
        rw [cellsFrom_keys, List.map_nil, List.append_nil, List.mem_reverse]
        exact List.mem_map.mpr ⟨_, List.mem_filter.mpr ⟨lk_mem hx, by rfl⟩, rfl⟩
      obtain ⟨⟨y, c⟩, h1, h2⟩ := List.mem_map.mp hm
      dsimp only at h2
      subst h2
      have nd : ((cellsFrom (s.heap.objs.size + 1) d.scope.names []).map (·.1)).Nodup := by
        rw [cellsFrom_keys, List.map_nil, List.append_nil]
        exact nodup_rev (fo.names.sublist (List.filter_sublist.map _))
      exact ⟨c, lookup_mem_nodup nd h1⟩
    have ndC : ((cellsFrom (s.heap.objs.size + 1) d.scope.names []).map (·.1)).Nodup := by
      rw [cellsFrom_keys, List.map_nil, List.append_nil]
      exact nodup_rev (fo.names.sublist (List.filter_sublist.map _))
    have hkind : ∀ x ∈ d.params.zip vs, fd.scope.names.lookup x.1 = some .local ∨ (fd.scope.names.lookup x.1 = some .cell ∧ ((cellsFrom (s.heap.objs.size + 1) fd.scope.names []).lookup x.1).isSome = true) := fun x hx => by
      rw [fo.sc]
      rcases kindOwn (List.all_eq_true.mp fo.own x.1 (List.of_mem_zip hx).1) with h | h
      · exact .inl (by rw [← lk_eq]; exact h)
      · obtain ⟨c, hc⟩ := kmem _ h
        exact .inr ⟨by rw [← lk_eq]; exact h, by rw [hc]; rfl⟩
    have dep : A.depth < recursionLimit := by have := R.depth; (first | lia | omega)
    refine codeAny_call_cells dep (X.base a o ho).1 hdata (En.lim.keeps fun b o e => (X.base b o e).1) (fo.code.keeps fun b o e => (X.base b o e).1) fo.body (fo.bind vs hvl) fo.clo hkind (fun s₁ I => ?_) (by rw [fo.sc]; exact fo.co) (by rw [fo.sc]; exact fo.gen) (by rw [fo.sc]; exact fo.kind)
    generalize hE : callEnvC fd s.heap.objs.size a = env at *
    have eL : env.locals = s.heap.objs.size := by rw [← hE]; rfl
    have eC : env.cells = cellsFrom (s.heap.objs.size + 1) d.scope.names [] := by rw [← hE, ← fo.sc]; rfl
    have eK : ∀ x, env.kindOf x = lk x d.scope.names := fun x => by rw [← hE, lk_eq, ← fo.sc]; rfl
    have fresh : ∀ b ∈ frm env, s.heap.get? b = none := fun b hb => by
      have : s.heap.objs.size ≤ b := by
        rcases List.mem_cons.mp hb with e | e
        · rw [e, eL]; exact Nat.le_refl _
        · obtain ⟨⟨x, c⟩, h1, h2⟩ := List.mem_map.mp e
          dsimp only at h2
          subst h2
          have := I.above x c h1
          rw [eL] at this
          exact Nat.le_of_lt this
      cases e : s.heap.get? b with
      | none => rfl
      | some x => exact absurd (Heap.lt_size e) (Nat.not_lt.mpr this)
    have k1 : ∀ b o, s.heap.get? b = some o → s₁.heap.get? b = some o := I.toInCall.keep
    have X1 : St G.W G.Cl G.B s₁.heap α (frm env ++ β) H := X.enl k1 fun b hb => ⟨fresh b hb, by
      rcases List.mem_cons.mp hb with e | e
      · obtain ⟨x, es, ep, e', r⟩ := I.toInCall.ns
        exact ⟨x, e ▸ e'⟩
      · obtain ⟨⟨x, c⟩, h1, h2⟩ := List.mem_map.mp e
        dsimp only at h2
        subst h2
        obtain ⟨x', e', _⟩ := I.cell x c (lookup_mem_nodup (by rw [eC]; exact ndC) h1)
        exact ⟨x', e'⟩⟩
    have V1 : VRs G.W G.Cl s₁.heap α (frm env ++ β) vs args := (V0.enl fresh).mv (Mv.of_keep k1)
    have hmap : (d.params.zip vs).map (·.1) = d.params := by rw [List.map_fst_zip]; (first | lia | omega)
    have F1 : Fm G s₁.heap α (frm env ++ β) d.scope env ρ := by
      refine ⟨by rw [← hE]; show fd.scope.kind = _; rw [fo.sc]; exact fo.kind, by rw [← hE]; exact fo.glb, by rw [← hE]; exact fo.blt, fun x kk hx => ?_, ⟨_, I.toInCall.ns, fun x d' el ek => ?_⟩, fun x ek => ?_, List.mem_append_left _ List.mem_cons_self, fun x c hc => ⟨List.mem_append_left _ (List.mem_cons_of_mem _ (List.mem_map.mpr ⟨_, hc, rfl⟩)), ?_⟩, fun x y c hx hy => ?_⟩
      · rw [eK, hx]
        cases kk <;> first | rfl | exact absurd hx (fo.nofree x)
      · rw [hlk] at el
        obtain ⟨w, e1, e2⟩ := zip_vr V1 el
        refine ⟨w, ?_, e2⟩
        rw [bindL_look ek _ _ (by rw [hmap]; exact fo.nd), e1]
      · have hx : lk x d.scope.names = some .cell := by rw [← eK]; exact ek
        obtain ⟨c, hc⟩ := kmem x hx
        rw [← eC] at hc
        refine ⟨c, _, hc, I.cell x c hc, fun d' el => ?_⟩
        rw [hlk] at el
        obtain ⟨w, e1, e2⟩ := zip_vr V1 el
        refine ⟨w, ?_, e2⟩
        rw [bindC_look (by rw [ek]; decide) _ _ (by rw [hmap]; exact fo.nd), e1]
      · have := I.above x c hc
        exact fun z => by rw [z] at this; exact Nat.lt_irrefl _ this
      · exact name_of_addr I.apart (mem_of_lookup hx) (mem_of_lookup hy)
    have done : ∀ (α' : List Addr) (s' : Shared), Gs (frm env) α s₁ α' s' → Go α s α' s' := fun α' s' g => ⟨g.toMs.fresh k1 fresh, by
      obtain ⟨h0, t0, e0, _⟩ := I.done
      obtain ⟨h1, t1, e1⟩ := g.same
      exact ⟨h1, t1, by rw [e1, e0]⟩⟩
    split at q
    · rename_i w ρ2 H2 qx
      cases q
      refine (sexs En cx _).2 qx (R.deeper env) X1 F1 fun fl α' s' g X' F' r' => ?_
      cases r' with
      | ret W1 => exact f _ _ _ _ fresh (done _ _ g) X' W1
    · rename_i ρ2 H2 qx
      cases q
      refine (sexs En cx _).2 qx (R.deeper env) X1 F1 fun fl α' s' g X' F' r' => ?_
      cases r'
      exact f _ _ _ _ fresh (done _ _ g) X' .none
    · first | exact Mine.nos q | exact Mine.ff0 q | exact Mine.tf0 q | exact Mine.sn0 q | cases q
  · first | exact Mine.nos q | exact Mine.ff0 q | exact Mine.tf0 q | exact Mine.sn0 q | cases q

theorem Rm.less {A : Around} {k : Nat} (R : Rm A (k + 1)) : Rm A k := ⟨R.hd, by have := R.depth; (first | lia | omega), by have := R.units; (first | lia | omega)⟩

theorem newK_some {H : Hp} {o : Option (V × Hp)} {r : V} {H' : Hp} (q : newK H o = some (r, H')) : o = some (.none, H') ∧ .obj H.length = r := by
  cases o with
  | none => exact nos q
  | some y =>
    obtain ⟨v, H2⟩ := y
    cases v <;> first | exact nos q | skip
    have e := Prod.mk.inj (Option.some.inj q)
    exact ⟨e.2 ▸ rfl, e.1⟩
section
variable {E : Value → Shared → Prop} {vs : List Value} {args : List V} {H' : Hp} {d : FD} {Q : Value → Shared → Prop}
theorem new_ok (En : En G) (cx : CxOk G k C) (hd : G.P.defs true (N "__init__") = some d) (qr : runD C d (.obj H.length :: args) (H ++ [.inst []]) = some (.none, H')) (R : Rm A (k + 1)) (X : St G.W G.Cl G.B s.heap α β H) (V0 : VRs G.W G.Cl s.heap α β vs args) (f : FinV G.W G.Cl G.B α β s H' (.obj H.length) Q) :
    wpAny (model G.prog G.W) A (call (.ref G.Cl) vs) Q E s := by
  obtain ⟨fI, m1, m2, m3, m4⟩ := En.meth _ d hd
  have ki := X.kin En
  obtain ⟨hh, g, dr, t, os⟩ := s
  refine wpAny_call (make_core (makes_of ki En.makes) (looks_findIn ki m1) (fun self => bind_fn ki self (beq_iff_eq.mp m2)) (.inl rfl) ?_)
  have kp : ∀ b o, hh.get? b = some o → ((hh.push emptyDict).push (instObj G.Cl hh.objs.size)).get? b = some o := fun b o e => push_keep _ _ _ (push_keep _ _ _ e)
  have gA : Mv α hh (α ++ [hh.objs.size]) (hh.push emptyDict) := Mv.add _
  have hD : (hh.push emptyDict).get? hh.objs.size = some emptyDict := Heap.get?_push_size _ rfl
  have XA : St G.W G.Cl G.B (hh.push emptyDict) (α ++ [hh.objs.size]) β (H ++ [.inst []]) := X.add hD (.inst (es := []) (n := 0) (fun e he => nomatch he) (fun y d e => by cases e) (fun y _ => rfl) (Nat.le_refl _))
  have kB := push_keep (h := hh.push emptyDict) (instObj G.Cl hh.objs.size)
  have X2 := XA.mv kB
  have gB : Mv (α ++ [hh.objs.size]) (hh.push emptyDict) (α ++ [hh.objs.size]) ((hh.push emptyDict).push (instObj G.Cl hh.objs.size)) := Mv.of_keep kB
  have hO : ((hh.push emptyDict).push (instObj G.Cl hh.objs.size)).get? (hh.objs.size + 1) = some (instObj G.Cl hh.objs.size) := by
    have := Heap.get?_push_size (h := hh.push emptyDict) (o := instObj G.Cl hh.objs.size) rfl
    rw [Heap.size_push] at this; exact this
  have offA : (hh.objs.size + 1) ∉ α ++ [hh.objs.size] := by
    have := XA.offA (s := ⟨hh.push emptyDict, g, dr, t, os⟩)
    rw [show (⟨hh.push emptyDict, g, dr, t, os⟩ : Shared).heap.objs.size = hh.objs.size + 1 from Heap.size_push ..] at this
    exact this
  have offB : (hh.objs.size + 1) ∉ β := by
    have := XA.offB (s := ⟨hh.push emptyDict, g, dr, t, os⟩)
    rw [show (⟨hh.push emptyDict, g, dr, t, os⟩ : Shared).heap.objs.size = hh.objs.size + 1 from Heap.size_push ..] at this
    exact this
  have VO : VR G.W G.Cl ((hh.push emptyDict).push (instObj G.Cl hh.objs.size)) (α ++ [hh.objs.size]) β (.ref (hh.objs.size + 1)) (.obj H.length) := .obj hO offA offB (by rw [← X.len]; simp)
  have VA := (V0.mv gA).mv gB
  have RU : RmC (A.under (.builtin "type.__call__" ⟨.ref G.Cl :: vs, []⟩)) k := by
    have h1 := R.depth
    have h2 := R.units
    refine ⟨R.hd, ?_, ?_⟩
    · show A.depth + 1 + 2 * k + 1 < _
      (first | lia | omega)
    · show A.units + 1 + 8 * k + 203 < _
      (first | lia | omega)
  refine run_ok En cx m4 (s := ⟨(hh.push emptyDict).push (instObj G.Cl hh.objs.size), g, dr, t, os⟩) RU X2 (.cons VO VA) qr fun w δ α' s' fr gg X' W' => ?_
  cases W' using VR.noneE
  exact ⟨rfl, f _ α' s' (Go.trans (s' := ⟨(hh.push emptyDict).push (instObj G.Cl hh.objs.size), g, dr, t, os⟩) ⟨gA.trans gB, ⟨_, _, rfl⟩⟩ gg) (X'.sub fun a ha => List.mem_append_right _ ha) (VO.mv gg.toMv)⟩
theorem St.none (X : St G.W G.Cl G.B s.heap α β H) : St G.W G.Cl G.B s.heap [] (α ++ β) [] :=
  ⟨⟨rfl, List.nodup_nil, fun i o e => nos e⟩, fun b o e => ⟨(X.base b o e).1, List.not_mem_nil⟩, fun a ha => (List.mem_append.mp ha).elim (fun z => ⟨X.toHl.alloc z, List.not_mem_nil, by
    cases e : G.B.get? a with
    | none => rfl
    | some o => exact absurd z (X.base a o e).2⟩) fun z => ⟨(X.out a z).1, List.not_mem_nil, (X.out a z).2.2⟩⟩
theorem pure_ok (En : En G) (cx : CxOk G k C) {fv : Value} {v r : V} {H2 : Hp} (at_ : AtFn G fv d) (hp : vpures args = true) (qr : runD C d args [] = some (v, H2)) (qf : frz H2 100 v = some r) (R : Rm A (k + 1)) (X : St G.W G.Cl G.B s.heap α β H) (V0 : VRs G.W G.Cl s.heap α β vs args) (f : FinV G.W G.Cl G.B α β s H r Q) :
    wpAny (model G.prog G.W) A (call fv vs) Q E s :=
  wpAny_call (run_ok En cx at_ R.call X.none (V0.pure (fun a ha => List.mem_append.mp ha) hp) qr fun w δ α' s' fr g X' W' =>
    have kk : ∀ b o, s.heap.get? b = some o → s'.heap.get? b = some o := fun b o e => g.keep b o e List.not_mem_nil
    f w α s' ⟨Mv.of_keep kk, g.same⟩ (X.mv kk) (frz_ok X'.toHl (fun a ha => List.mem_append_right _ (List.mem_append.mpr ha)) (fun a ha => ⟨fun z => (X'.out a (List.mem_append_right _ (List.mem_append_left _ z))).2.1 ha, fun z => (X'.out a (List.mem_append_right _ (List.mem_append_right _ z))).2.1 ha⟩) 100 v r w W' qf))
theorem heap_ok (En : En G) (cx : CxOk G k C) {fv : Value} {r : V} (at_ : AtFn G fv d) (q : runD C d args H = some (r, H')) (R : Rm A (k + 1)) (X : St G.W G.Cl G.B s.heap α β H) (V0 : VRs G.W G.Cl s.heap α β vs args) (f : FinV G.W G.Cl G.B α β s H' r Q) :
    wpAny (model G.prog G.W) A (call fv vs) Q E s :=
  wpAny_call (run_ok En cx at_ R.call X V0 q fun w δ α' s' fr g X' W' => f w α' s' g (X'.sub fun a ha => List.mem_append_right _ ha) (W'.sub fun a ha => List.mem_append_right _ ha))
end
theorem callF_ok (En : En G) (k : Nat) : CallOk G k (callF G.P k) := by
  induction k with
  | zero => intro m x args H H' r q; exact nos q
  | succ k ih =>
    intro m x args H H' r q
    have cx : CxOk G k ⟨G.P.glob, G.P.blt, G.P.cls, G.P.attr, callF G.P k⟩ := ⟨rfl, rfl, rfl, ih⟩
    rw [callF_b] at q
    cases hc : (!m && G.P.cls x) with
    | true =>
      rw [hc] at q
      obtain ⟨hm, hx⟩ := Bool.and_eq_true_iff.mp hc
      refine bndE q fun d hd q => ?_
      obtain ⟨qr, e⟩ := newK_some q
      cases m with
      | true => exact ff0 hm
      | false =>
      refine ⟨fun _ => .inl hx, fun h => ff0 h, fun {A E s α β vs fv Q} R X V0 hg _ f => ?_⟩
      rw [← Option.some.inj ((En.cls x hx).symm.trans (hg rfl))]
      exact new_ok En cx hd qr R X V0 (e ▸ f)
    | false =>
      rw [hc] at q
      refine bndE q fun d hd q => ⟨fun hm => .inr ⟨d, hm ▸ hd⟩, fun hm => ⟨d, hm ▸ hd⟩, fun {A E s α β vs fv Q} R X V0 hg hk f => ?_⟩
      have at_ : AtFn G fv d := by
        cases m with
        | false =>
          obtain ⟨v, h1, _, h3⟩ := En.fn x d hd hc
          exact Option.some.inj (h1.symm.trans (hg rfl)) ▸ h3
        | true =>
          obtain ⟨a, h1, _, _, h4⟩ := En.meth x d hd
          exact Option.some.inj (Option.some.inj (h1.symm.trans (hk rfl))) ▸ h4
      cases hp : vpures args with
      | true =>
        rw [hp] at q
        refine bndE q fun y qr q => mpd q fun v' qf e1 => ?_
        have e := Prod.mk.inj e1
        exact pure_ok En cx at_ hp qr (e.1 ▸ qf) R X V0 (e.2 ▸ f)
      | false => rw [hp] at q; exact heap_ok En cx at_ q R X V0 f
end
end Mine
end
section
open PySem
namespace Mine

noncomputable def simpleArgs : Arguments → Option (List Str)
  | ⟨[], as, none, [], [], none, []⟩ => some (as.map (·.arg))
  | _ => none
noncomputable def findFn (f : Str) : List Stmt → Option FD
  | [] => none
  | .FunctionDef x a b [] none [] sc none _ _ :: r => match seq f x with
    | true => (simpleArgs a).map fun ps => ⟨ps, b, sc⟩
    | false => findFn f r
  | _ :: r => findFn f r
noncomputable def findCls (f : Str) : List Stmt → Option (List Stmt)
  | [] => none
  | .ClassDef x _ _ b _ _ _ _ _ _ _ :: r => match seq f x with
    | true => some b
    | false => findCls f r
  | _ :: r => findCls f r
noncomputable def findVal (f : Str) : List Stmt → Option Expr
  | [] => none
  | .Assign [.Name x _] e _ :: r => match seq f x with
    | true => some e
    | false => findVal f r
  | _ :: r => findVal f r

/-- a top value, from its text -/
noncomputable def gev : Nat → Expr → Option V
  | 0, _ => none
  | n + 1, e => match e with
    | .Constant (.int i) _ _ => some (.int i)
    | .Constant (.str x) _ _ => some (.str (cps x))
    | .Constant (.bool b) _ _ => some (.bool b)
    | .Constant .none _ _ => some .none
    | .BinOp a op b _ => match gev n a, gev n b with
      | some (.int x), some (.int y) => (arith op x y).map .int
      | _, _ => none
    | .UnaryOp .USub a _ => match gev n a with
      | some (.int x) => some (.int (-x))
      | _ => none
    | .List es _ => (es.mapM (gev n)).map .lst
    | .Tuple es _ _ => (es.mapM (gev n)).map .tup
    | .Dict ks vs _ => ((ks.zip vs).mapM fun (p : Option Expr × Expr) => match p.1 with
      | some k => match gev n k, gev n p.2 with
        | some (.str x), some v => some (x, v)
        | _, _ => none
      | none => none).map .dct
    | _ => none
noncomputable def B : List Stmt := PySem.Challenge.pw_pc0081_01.main.body
noncomputable def gv (x : Str) : Option V := match seq x (N "PUNCT_TABLE") with
  | true => match (findVal (N "PUNCTS") B).bind (gev 20) with
    | some (.lst vs) => (strsOf vs).map fun l => .dct (l.map fun k => (k, .bool true))
    | _ => none
  | false => (findVal x B).bind (gev 20)
noncomputable def clsBody : List Stmt := (findCls (N "JsonReader") B).getD []
noncomputable def bltNames : List Str := ["len", "str", "abs", "int", "max", "min", "ord", "repr", "range"]
noncomputable def fL : List Str := (["width", "pack", "is_negative", "is_nan", "is_inf", "is_finite", "is_zero", "signed", "parts", "quotient", "round_ratio", "assembled", "from_int", "scaled", "decimal_place", "first_place", "shortest", "last_figure", "signed_exponent", "with_exponent", "laid_out", "without_figures", "show", "json_quoted_sign", "json_quoted", "json_number_text", "json_plain_text", "json_rows", "json_laid", "show_json", "json_without_skips", "is_among", "is_digit", "is_id_start", "is_id_part", "is_name", "figure_of", "run_end", "worth", "from_decimal", "sign_at", "turned", "exponent_at", "json_sign", "skip_json_blanks", "json_number", "json_hex_unit", "json_string", "json_plain", "read_json", "is_keyword", "is_strict_word", "punct_at", "_law_take", "_law_tree", "_law_pruned", "_law_is_name", "_law_cut", "_law_cut_by", "law"] : List String).map N
noncomputable def mL : List Str := (["__init__", "skip", "take_key", "opened", "next_tree", "settled", "whole"] : List String).map N
noncomputable def gL : List Str := (["SIGN_BIT", "FRACTION_BITS", "FRACTION_MASK", "HIDDEN_BIT_dbits", "EXPONENT_MASK", "EXPONENT_SHIFT", "LEAST_POWER_dbits", "ZERO", "NEG_ZERO", "INF", "NEG_INF", "NAN", "LEAST_POWER_numshow", "HIDDEN_BIT_numshow", "JSON_SMALL_HEX", "JSON_SHORT", "LETTERS", "PARTS", "FARTHEST", "JSON_BLANKS", "JSON_DIGITS", "JSON_HEX", "JSON_ESCAPES", "JSON_WORDS", "JSON_CLOSERS", "KEYWORDS", "STRICT_WORDS", "PUNCT_TABLE", "_law_reserved", "_law_other", "_law_strict", "_law_puncts", "_law_long"] : List String).map N
noncomputable def aL : List Str := (["text", "at", "waiting", "keys"] : List String).map N
noncomputable def PP : Pg where
  defs := fun m f => match m with
    | true => bif anyS f mL then findFn f clsBody else none
    | false => bif anyS f fL then findFn f B else none
  glob := fun x => bif anyS x gL then gv x else none
  blt := fun f => anyS f bltNames
  cls := fun f => seq f (N "JsonReader")
  attr := fun f => anyS f aL
end Mine
end
section
open PySem
namespace Mine

mutual
/-- resolved expressions -/
inductive RE where
  | val (v : V)
  | glb (i : Nat)
  | loc (i : Nat)
  | bin (op : Operator) (a b : RE)
  | un (op : UnaryOp) (a : RE)
  | tnot (a : RE)
  | bop (isOr : Bool) (a b : RE)
  | cmp (a : RE) (cs : RC)
  | ite (t a b : RE)
  | tup (es : REs)
  | lst (es : REs)
  | lstI (es : REs)
  | comp (elt : RE) (xs : List Nat) (it : RE) (cond : RE)
  | att (o : RE) (a : Nat)
  | sli (b : RE) (lo hi : RO)
  | idx (b i : RE)
  | blt (f : Nat) (args : REs)
  | fn (f : Nat) (args : REs)
  | meth (o : RE) (m : Nat) (args : REs)
inductive REs where
  | nil
  | cons (e : RE) (es : REs)
inductive RC where
  | one (op : CmpOp) (r : RE)
  | more (op : CmpOp) (r : RE) (cs : RC)
inductive RO where
  | no
  | yes (e : RE)
end
inductive RT1 where
  | name (i : Nat)
  | att (o : RE) (a : Nat)
  | idx (o i : RE)
inductive RT where
  | one (t : RT1)
  | tup (ts : List RT1)
mutual
inductive RS where
  | expr (e : RE)
  | ret (e : RE)
  | asg (t : RT) (e : RE)
  | augL (i : Nat) (e : RE)
  | augA (o : RE) (a : Nat) (e : RE)
  | ite (t : RE) (a b : RSs)
  | whl (t : RE) (body : RSs)
  | for_ (t : RT) (it : RE) (body : RSs)
inductive RSs where
  | nil
  | cons (s : RS) (ss : RSs)
end
structure RFD where
  params : List Nat
  body : RSs

abbrev Env := List (Nat × V)
noncomputable def rlk (i : Nat) : Env → Option V
  | [] => none
  | p :: r => match (i == p.1) with | true => some p.2 | false => rlk i r
theorem rlk_0 (i : Nat) : rlk i [] = none := rfl
theorem rlk_1 (i : Nat) (p : Nat × V) (r : List (Nat × V)) : rlk i (p :: r) = match i == p.fst with
    | true => some p.snd
    | false => rlk i r := rfl
noncomputable def rup (i : Nat) (v : V) : Env → Env
  | [] => [(i, v)]
  | p :: r => match (i == p.1) with | true => (i, v) :: r | false => p :: rup i v r
theorem rup_0 (i : Nat) (v : V) : rup i v [] = [(i, v)] := rfl
theorem rup_1 (i : Nat) (v : V) (p : Nat × V) (r : List (Nat × V)) : rup i v (p :: r) = match i == p.fst with
    | true => (i, v) :: r
    | false => p :: rup i v r := rfl

noncomputable def rblt (f : Nat) (H : Hp) (args : List V) : Option V := match args with
  | [a] => match f with
    | 0 => bLen H a
    | 1 => bStr a
    | 2 => bAbs a
    | 3 => bInt a
    | 4 => bMax a
    | 5 => bOrd a
    | 6 => bRepr a
    | 7 => bRange a
    | _ => none
  | [a, b] => match f with
    | 4 => bMax2 a b
    | 8 => bMin2 a b
    | 7 => bRange2 a b
    | _ => none
  | _ => none
noncomputable def rstrM (m : Nat) (H : Hp) (l : List Nat) (args : List V) : Option V := match args with
  | [a] => match m with
    | 0 => sJoin H l a
    | 1 => sLstrip l a
    | 2 => sSplit l a
    | _ => none
  | [] => match m with
    | 3 => sUpper l
    | _ => none
  | _ => none
noncomputable def rlistM (m : Nat) (H : Hp) (i : Nat) (vs : List V) (args : List V) : Option (V × Hp) := match args with
  | [a] => match m, szOk vs.length with
    | 4, true => some (.none, H.set i (.list (vs ++ [a])))
    | _, _ => none
  | [] => match m with
    | 5 => match vs.getLast? with
      | some v => some (v, H.set i (.list vs.dropLast))
      | none => none
    | _ => none
  | _ => none

noncomputable def rbind (xs : List Nat) (v : V) : Option Env := match xs with
  | [x] => some [(x, v)]
  | [x, y] => (tupV v).bind fun l => (two l).map fun p => [(x, p.1), (y, p.2)]
  | _ => none
theorem rbind_0 (v : V) (x : Nat) : rbind [x] v = some [(x, v)] := rfl
theorem rbind_1 (v : V) (x y : Nat) : rbind [x, y] v = (tupV v).bind fun l => Option.map (fun p => [(x, p.fst), (y, p.snd)]) (two l) := rfl

structure RCx where
  glb : Nat → V
  nm : Nat → Str
  call : Bool → Nat → List V → Hp → Option (V × Hp)

noncomputable def rwhileF (test : Env → Hp → Option (Bool × Hp)) (body : Env → Hp → Option (Fl × Env × Hp)) : Nat → Env → Hp → Option (Fl × Env × Hp)
  | 0, _, _ => none
  | w + 1, ρ, H => match test ρ H with
    | some (true, H) => match body ρ H with
      | some (.next, ρ, H) => rwhileF test body w ρ H
      | some (.ret v, ρ, H) => some (.ret v, ρ, H)
      | none => none
    | some (false, H) => some (.next, ρ, H)
    | none => none
theorem rwhileF_1 (test : Mine.Env → Hp → Option (Bool × Hp)) (body : Mine.Env → Hp → Option (Fl × Mine.Env × Hp)) (x : Mine.Env) (x_1 : Hp) (w : Nat) : rwhileF test body w.succ x x_1 = match test x x_1 with
    | some (true, H) =>
      match body x H with
      | some (Fl.next, ρ, H) => rwhileF test body w ρ H
      | some (Fl.ret v, ρ, H) => some (Fl.ret v, ρ, H)
      | none => none
    | some (false, H) => some (Fl.next, x, H)
    | none => none := rfl
noncomputable def rforF (body : V → Env → Hp → Option (Fl × Env × Hp)) : List V → Env → Hp → Option (Fl × Env × Hp)
  | [], ρ, H => some (.next, ρ, H)
  | v :: vs, ρ, H => match body v ρ H with
    | some (.next, ρ, H) => rforF body vs ρ H
    | some (.ret v, ρ, H) => some (.ret v, ρ, H)
    | none => none
theorem rforF_0 (body : V → Mine.Env → Hp → Option (Fl × Mine.Env × Hp)) (x : Mine.Env) (x_1 : Hp) : rforF body [] x x_1 = some (Fl.next, x, x_1) := rfl
theorem rforF_1 (body : V → Mine.Env → Hp → Option (Fl × Mine.Env × Hp)) (x : Mine.Env) (x_1 : Hp) (v : V) (vs : List V) : rforF body (v :: vs) x x_1 = match body v x x_1 with
    | some (Fl.next, ρ, H) => rforF body vs ρ H
    | some (Fl.ret v, ρ, H) => some (Fl.ret v, ρ, H)
    | none => none := rfl

noncomputable def rtruth : V → Option Bool
  | .none => some false
  | .bool b => some b
  | _ => none
theorem rtruth_1 (b : Bool) : rtruth (V.bool b) = some b := rfl

mutual
noncomputable def rev (C : RCx) : RE → Env → Hp → Option (V × Hp)
  | .val v, _, H => some (v, H)
  | .glb i, _, H => some (C.glb i, H)
  | .loc i, ρ, H => match rlk i ρ with
    | some v => some (v, H)
    | none => none
  | .bin op a b, ρ, H => match rev C a ρ H with
    | some (x, H) => match rev C b ρ H with
      | some (y, H) => match binop op H x y with
        | some v => some (v, H)
        | none => none
      | none => none
    | none => none
  | .un op a, ρ, H => match rev C a ρ H with
    | some (x, H) => match unop op x with
      | some v => some (v, H)
      | none => none
    | none => none
  | .tnot a, ρ, H => match rev C a ρ H with
    | some (x, H) => match rtruth x with
      | some b => some (.bool !b, H)
      | none => none
    | none => none
  | .bop isOr a b, ρ, H => match rev C a ρ H with
    | some (x, H) => match rtruth x with
      | some t => match isOr, t with
        | false, false => some (x, H)
        | false, true => rev C b ρ H
        | true, true => some (x, H)
        | true, false => rev C b ρ H
      | none => none
    | none => none
  | .cmp a cs, ρ, H => match rev C a ρ H with
    | some (x, H) => match revC C x cs ρ H with
      | some (b, H) => some (.bool b, H)
      | none => none
    | none => none
  | .ite t a b, ρ, H => match rev C t ρ H with
    | some (x, H) => match rtruth x with
      | some true => rev C a ρ H
      | some false => rev C b ρ H
      | none => none
    | none => none
  | .tup es, ρ, H => match revs C es ρ H with
    | some (vs, H) => some (.tup vs, H)
    | none => none
  | .lst es, ρ, H => match revs C es ρ H with
    | some (vs, H) => some (.ref H.length, H ++ [.list vs])
    | none => none
  | .lstI es, ρ, H => match revs C es ρ H with
    | some (vs, H) => some (.lst vs, H)
    | none => none
  | .comp elt xs it cond, ρ, H => match rev C it ρ H with
    | some (src, H) => match iter src with
      | some vs => match compF (fun v H => match rbind xs v with
          | some own => match rev C cond (own ++ ρ) H with
            | some (x, H) => match rtruth x with
              | some true => match rev C elt (own ++ ρ) H with
                | some (r, H) => some (some r, H)
                | none => none
              | some false => some (none, H)
              | none => none
            | none => none
          | none => none) vs H with
        | some (rs, H) => some (.lst rs, H)
        | none => none
      | none => none
    | none => none
  | .att o a, ρ, H => match rev C o ρ H with
    | some (.obj i, H) => match H[i]? with
      | some (.inst fs) => match lk (C.nm a) fs with
        | some v => some (v, H)
        | none => none
      | _ => none
    | _ => none
  | .sli b lo hi, ρ, H => match rev C b ρ H with
    | some (bv, H) => match revO C lo ρ H with
      | some (l, H) => match revO C hi ρ H with
        | some (h, H) => match slice bv l h with
          | some v => some (v, H)
          | none => none
        | none => none
      | none => none
    | none => none
  | .idx b i, ρ, H => match rev C b ρ H with
    | some (bv, H) => match rev C i ρ H with
      | some (iv, H) => match sub H bv iv with
        | some v => some (v, H)
        | none => none
      | none => none
    | none => none
  | .blt f args, ρ, H => match revs C args ρ H with
    | some (vs, H) => match rblt f H vs with
      | some v => some (v, H)
      | none => none
    | none => none
  | .fn f args, ρ, H => match revs C args ρ H with
    | some (vs, H) => C.call false f vs H
    | none => none
  | .meth o m args, ρ, H => match rev C o ρ H with
    | some (ov, H) => match ov with
      | .str l => match revs C args ρ H with
        | some (vs, H) => match rstrM m H l vs with
          | some v => some (v, H)
          | none => none
        | none => none
      | .ref i => match H[i]? with
        | some (.list _) => match revs C args ρ H with
          | some (vs, H) => match H[i]? with
            | some (.list xs) => rlistM m H i xs vs
            | _ => none
          | none => none
        | _ => none
      | .obj i => match H[i]? with
        | some (.inst fs) => match lk (C.nm m) fs with
          | none => match revs C args ρ H with
            | some (vs, H) => C.call true m (.obj i :: vs) H
            | none => none
          | some _ => none
        | _ => none
      | _ => none
    | none => none
noncomputable def revs (C : RCx) : REs → Env → Hp → Option (List V × Hp)
  | .nil, _, H => some ([], H)
  | .cons e es, ρ, H => match rev C e ρ H with
    | some (v, H) => match revs C es ρ H with
      | some (vs, H) => some (v :: vs, H)
      | none => none
    | none => none
noncomputable def revC (C : RCx) : V → RC → Env → Hp → Option (Bool × Hp)
  | a, .one op r, ρ, H => match rev C r ρ H with
    | some (b, H) => match cmpop op H a b with
      | some c => some (c, H)
      | none => none
    | none => none
  | a, .more op r cs, ρ, H => match rev C r ρ H with
    | some (b, H) => match cmpop op H a b with
      | some true => revC C b cs ρ H
      | some false => some (false, H)
      | none => none
    | none => none
noncomputable def revO (C : RCx) : RO → Env → Hp → Option (Option Int × Hp)
  | .no, _, H => some (none, H)
  | .yes e, ρ, H => match rev C e ρ H with
    | some (.int i, H) => some (some i, H)
    | _ => none
end

noncomputable def rtgt (C : RCx) (t : RT1) (v : V) (ρ : Env) (H : Hp) : Option (Env × Hp) := match t with
  | .name i => some (rup i v ρ, H)
  | .att o a => attT (C.nm a) v ρ (rev C o ρ H)
  | .idx o i => idxT v ρ (rev C o ρ H) (rev C i ρ)
noncomputable def rtgts (C : RCx) : List RT1 → List V → Env → Hp → Option (Env × Hp)
  | [], [], ρ, H => some (ρ, H)
  | t :: ts, v :: vs, ρ, H => match rtgt C t v ρ H with
    | some (ρ, H) => rtgts C ts vs ρ H
    | none => none
  | _, _, _, _ => none
noncomputable def rtgtA (C : RCx) (t : RT) (v : V) (ρ : Env) (H : Hp) : Option (Env × Hp) := match t with
  | .tup ts => match v with
    | .tup vs => rtgts C ts vs ρ H
    | _ => none
  | .one t => rtgt C t v ρ H

mutual
noncomputable def rex (C : RCx) : RS → Env → Hp → Option (Fl × Env × Hp)
  | .expr e, ρ, H => match rev C e ρ H with
    | some (_, H) => some (.next, ρ, H)
    | none => none
  | .ret e, ρ, H => match rev C e ρ H with
    | some (v, H) => some (.ret v, ρ, H)
    | none => none
  | .asg t e, ρ, H => match rev C e ρ H with
    | some (v, H) => match rtgtA C t v ρ H with
      | some (ρ, H) => some (.next, ρ, H)
      | none => none
    | none => none
  | .augL x e, ρ, H => augK (fun i => rup x (.int i) ρ) (rlk x ρ) (rev C e ρ H)
  | .augA o a e, ρ, H => augAK (C.nm a) ρ (rev C o ρ H) (rev C e ρ)
  | .ite t a b, ρ, H => match rev C t ρ H with
    | some (x, H) => match rtruth x with
      | some true => rexs C a ρ H
      | some false => rexs C b ρ H
      | none => none
    | none => none
  | .whl t body, ρ, H => rwhileF (fun ρ H => match rev C t ρ H with
      | some (x, H) => match rtruth x with
        | some b => some (b, H)
        | none => none
      | none => none) (fun ρ H => rexs C body ρ H) W ρ H
  | .for_ t it body, ρ, H => match rev C it ρ H with
    | some (src, H) => match iter src with
      | some vs => rforF (fun v ρ H => match rtgtA C t v ρ H with
          | some (ρ, H) => rexs C body ρ H
          | none => none) vs ρ H
      | none => none
    | none => none
noncomputable def rexs (C : RCx) : RSs → Env → Hp → Option (Fl × Env × Hp)
  | .nil, ρ, H => some (.next, ρ, H)
  | .cons s ss, ρ, H => match rex C s ρ H with
    | some (.next, ρ, H) => rexs C ss ρ H
    | some (.ret v, ρ, H) => some (.ret v, ρ, H)
    | none => none
end

noncomputable def rbindP : List Nat → List V → Option Env
  | [], [] => some []
  | x :: xs, v :: vs => match rbindP xs vs with
    | some r => some ((x, v) :: r)
    | none => none
  | _, _ => none
theorem rbindP_0 : rbindP [] [] = some [] := rfl
theorem rbindP_1 (x_2 : Nat) (xs : List Nat) (v : V) (vs : List V) : rbindP (x_2 :: xs) (v :: vs) = match rbindP xs vs with
    | some r => some ((x_2, v) :: r)
    | none => none := rfl
noncomputable def rrun (C : RCx) (d : RFD) (args : List V) (H : Hp) : Option (V × Hp) := match rbindP d.params args with
  | some ρ => match rexs C d.body ρ H with
    | some (.ret v, _, H) => some (v, H)
    | some (.next, _, H) => some (.none, H)
    | none => none
  | none => none

structure RPg where
  glb : Nat → V
  nm : Nat → Str
  defs : Bool → Nat → Option RFD
  cls : Nat
  ini : Nat

noncomputable def rF (P : RPg) : Nat → Bool → Nat → List V → Hp → Option (V × Hp)
  | 0, _, _, _, _ => none
  | k + 1, m, f, args, H => match !m && (f == P.cls) with
    | true => match P.defs true P.ini with
      | some d => match rrun ⟨P.glb, P.nm, rF P k⟩ d (.obj H.length :: args) (H ++ [.inst []]) with
        | some (.none, H') => some (.obj H.length, H')
        | _ => none
      | none => none
    | false => match P.defs m f with
      | some d => match vpures args with
        | true => match rrun ⟨P.glb, P.nm, rF P k⟩ d args [] with
          | some (v, H') => match frz H' 100 v with
            | some v => some (v, H)
            | none => none
          | none => none
        | false => rrun ⟨P.glb, P.nm, rF P k⟩ d args H
      | none => none
end Mine
end
section
open PySem
namespace Mine

structure Ck where
  nm : Nat → Str
  lim : Nat
  glb : Nat → V
  P : Pg

noncomputable def boolV : V → Option Bool
  | .bool b => some b
  | _ => none
noncomputable def lstV : V → Option (List V)
  | .lst l => some l
  | _ => none
noncomputable def dctV : V → Option (List (List Nat × V))
  | .dct l => some l
  | _ => none
noncomputable def noneV : V → Bool
  | .none => true
  | _ => false
mutual
noncomputable def veq : V → V → Bool
  | .none, b => noneV b
  | .bool a, b => (boolV b).any fun c => a == c
  | .int a, b => (intV b).any fun c => decide (a = c)
  | .str a, b => (strV b).any fun c => leq a c
  | .tup a, b => (tupV b).any fun c => veqs a c
  | .lst a, b => (lstV b).any fun c => veqs a c
  | .dct a, b => (dctV b).any fun c => veqd a c
  | .rng _ _, _ => false
  | .ref _, _ => false
  | .obj _, _ => false
noncomputable def veqs : List V → List V → Bool
  | [], b => b.isEmpty
  | a :: x, b => match b with
    | [] => false
    | b :: y => veq a b && veqs x y
noncomputable def veqd : List (List Nat × V) → List (List Nat × V) → Bool
  | [], b => b.isEmpty
  | (k, a) :: x, b => match b with
    | [] => false
    | (l, b) :: y => leq k l && (veq a b && veqd x y)
end
theorem veq_ok (a : V) : ∀ b : V, veq a b = true → a = b := by
  refine V.rec (motive_1 := fun a => ∀ b, veq a b = true → a = b) (motive_2 := fun a => ∀ b, veqs a b = true → a = b) (motive_3 := fun a => ∀ b, veqd a b = true → a = b) (motive_4 := fun a => ∀ b, veq a.2 b = true → a.2 = b) ?_ ?_ ?_ ?_ ?_ ?_ ?_ ?_ ?_ ?_ ?_ ?_ ?_ ?_ ?_ a
  · intro b h; cases b <;> first | rfl | exact ff0 h
  · intro x b h; cases b <;> first | exact ff0 h | exact congrArg _ (eq_of_beq h)
  · intro x b h; cases b <;> first | exact ff0 h | exact congrArg _ (of_decide_eq_true h)
  · intro x b h; cases b <;> first | exact ff0 h | exact congrArg _ (leq_iff.mp h)
  · intro x ih b h; cases b <;> first | exact ff0 h | exact congrArg _ (ih _ h)
  · intro x ih b h; cases b <;> first | exact ff0 h | exact congrArg _ (ih _ h)
  · intro x y b h; exact ff0 h
  · intro x ih b h; cases b <;> first | exact ff0 h | exact congrArg _ (ih _ h)
  · intro x b h; exact ff0 h
  · intro x b h; exact ff0 h
  · intro b h; exact (List.isEmpty_iff.mp h).symm
  · intro x l i1 i2 b h
    cases b with
    | nil => exact ff0 h
    | cons y m => have h := Bool.and_eq_true_iff.mp h; rw [i1 _ h.1, i2 _ h.2]
  · intro b h; exact (List.isEmpty_iff.mp h).symm
  · intro x l i1 i2 b h
    cases b with
    | nil => exact ff0 h
    | cons y m =>
      have h := Bool.and_eq_true_iff.mp h
      have h2 := Bool.and_eq_true_iff.mp h.2
      exact List.cons_eq_cons.mpr ⟨Prod.ext (leq_iff.mp h.1) (i1 _ h2.1), i2 _ h2.2⟩
  · intro k v ih b h; exact ih b h

noncomputable def nmOk (K : Ck) (i : Nat) (x : Str) : Bool := Nat.blt i K.lim && seq x (K.nm i)
noncomputable def nmsOk (K : Ck) : List Nat → List Str → Bool
  | [], [] => true
  | i :: is, x :: xs => nmOk K i x && nmsOk K is xs
  | _, _ => false
theorem nmsOk_1 (K : Ck) (i : Nat) (is : List Nat) (x_2 : Str) (xs : List Str) : nmsOk K (i :: is) (x_2 :: xs) = (nmOk K i x_2 && nmsOk K is xs) := rfl
theorem nmsOk_2 (K : Ck) (x : Str) (xs : List Str) : nmsOk K [] (x :: xs) = false := rfl
theorem nmsOk_3 (K : Ck) (x : Nat) (xs : List Nat) : nmsOk K (x :: xs) [] = false := rfl
noncomputable def gOk (K : Ck) (i : Nat) (x : Str) : Bool := match K.P.glob x with
  | some v => veq v (K.glb i)
  | none => false
noncomputable def bltS : Nat → Str
  | 0 => N "len"
  | 1 => N "str"
  | 2 => N "abs"
  | 3 => N "int"
  | 4 => N "max"
  | 5 => N "ord"
  | 6 => N "repr"
  | 7 => N "range"
  | _ => N "min"
noncomputable def metS : Nat → Str
  | 0 => N "join"
  | 1 => N "lstrip"
  | 2 => N "split"
  | 3 => N "upper"
  | 4 => N "append"
  | _ => N "pop"
noncomputable def isOrOp : BoolOp → Bool
  | .And => false
  | .Or => true
noncomputable def glbOk (K : Ck) (sc : Scope) (x : Str) : Bool := !leq (cps x) dbgN && kindIs sc x isGlob

noncomputable def mVC (v : V) (c : Const) : Bool := match v with
  | .none => (match c with | .none => true | _ => false)
  | .bool a => (match c with | .bool b => a == b | _ => false)
  | .int a => (match c with | .int b => decide (a = b) | _ => false)
  | .str l => (match c with | .str x => leq l (cps x) && szOk (cps x).length | _ => false)
  | _ => false
noncomputable def mVal (v : V) (e : Expr) : Bool := (dCst e).any (mVC v)
noncomputable def dOneC (l : List Comprehension) : Option (Expr × Expr × List Expr) := match l with
  | [⟨tgt, it, ifs, 0⟩] => some (tgt, it, ifs)
  | _ => none

noncomputable def isNot : UnaryOp → Bool
  | .Not => true
  | _ => false
/-- of a kind whose test is just its value's -/
noncomputable def isPl (e : Expr) : Bool := Nat.beq e.ctorIdx 16 || Nat.beq e.ctorIdx 19 || Nat.beq e.ctorIdx 23
mutual
noncomputable def mE (K : Ck) : Nat → Scope → RE → Expr → Bool
  | 0, _, _, _ => false
  | n + 1, sc, r, e => match r with
    | .val v => mVal v e
    | .glb i => (dName e).any fun x => !leq (cps x) dbgN && !kindIs sc x isLoc && kindIs sc x isGlob && gOk K i x
    | .loc i => (dName e).any fun x => !leq (cps x) dbgN && kindIs sc x isLoc && nmOk K i x
    | .bin op a b => (dBin e).any fun d => op == d.1 && mI K n sc a d.2.1 && mI K n sc b d.2.2
    | .un op a => (dUn e).any fun d => op == d.1 && mE K n sc a d.2
    | .bop o a b => (dBop e).any fun d => mB K n sc d.1 (.bop o a b) d.2
    | .cmp a cs => (dCmp e).any fun d => mI K n sc a d.1 && mC K n sc cs d.2.1 d.2.2
    | .ite t a b => (dIte e).any fun d => mT K n sc t d.1 && mE K n sc a d.2.1 && mE K n sc b d.2.2
    | .tup es => (dTup e).any fun d => szOk d.length && mEs K n sc es d
    | .lst es => (dLst e).any fun d => szOk d.length && mEs K n sc es d
    | .lstI _ => false
    | .tnot _ => false
    | .comp elt xs it cond => (dComp e).any fun d => (dOneC d.2.1).any fun c => mE K n sc it c.2.1 && ((tnames c.1).any fun ys => nmsOk K xs ys && compScOk sc d.2.2 ys) && mIf K n d.2.2 cond c.2.2 && mE K n d.2.2 elt d.1
    | .att o a => (dAtt e).any fun d => K.P.attr d.2 && baseOk d.1 && nmOk K a d.2 && mE K n sc o d.1
    | .sli b lo hi => (dSub e).any fun d => (dSli d.2).any fun s => mI K n sc b d.1 && mO K n sc lo s.1 && mO K n sc hi s.2
    | .idx b i => (dSub e).any fun d => !isSlice d.2 && mI K n sc b d.1 && mE K n sc i d.2
    | .blt f args => (dCall e).any fun d => d.2.2.1.isEmpty && (dName d.1).any fun x => glbOk K sc x && K.P.blt x && Nat.blt f 9 && seq x (bltS f) && mEs K n sc args d.2.1
    | .fn f args => (dCall e).any fun d => d.2.2.1.isEmpty && (dName d.1).any fun x => glbOk K sc x && !K.P.blt x && nmOk K f x && mEs K n sc args d.2.1
    | .meth o m args => (dCall e).any fun d => d.2.2.1.isEmpty && (dAttP d.1).any fun c => Nat.beq c.2.2.endLine d.2.2.2.line && Nat.ble d.2.1.length 3 && baseOk c.1 && nmOk K m c.2.1 && (bif Nat.blt m 6 then seq c.2.1 (metS m) else true) && mE K n sc o c.1 && mEs K n sc args d.2.1
noncomputable def mI (K : Ck) : Nat → Scope → RE → Expr → Bool
  | 0, _, _, _ => false
  | n + 1, sc, r, e => match dLst e with
    | some es' => (match r with
      | .lstI es => szOk es'.length && mEs K n sc es es'
      | _ => false)
    | none => mE K n sc r e
noncomputable def mEs (K : Ck) : Nat → Scope → REs → List Expr → Bool
  | 0, _, _, _ => false
  | n + 1, sc, r, es => match r with
    | .nil => es.isEmpty
    | .cons r rs => (match es with
      | [] => false
      | e :: es => !isStar e && mE K n sc r e && mEs K n sc rs es)
noncomputable def mO (K : Ck) : Nat → Scope → RO → Option Expr → Bool
  | 0, _, _, _ => false
  | n + 1, sc, r, e => match r with
    | .no => e.isNone
    | .yes r => e.any fun e => mE K n sc r e
noncomputable def mIf (K : Ck) : Nat → Scope → RE → List Expr → Bool
  | 0, _, _, _ => false
  | n + 1, sc, r, es => match es with
    | [] => (match r with
      | .val v => (match v with | .bool b => b | _ => false)
      | _ => false)
    | e :: es => es.isEmpty && mT K n sc r e
noncomputable def mB (K : Ck) : Nat → Scope → BoolOp → RE → List Expr → Bool
  | 0, _, _, _, _ => false
  | n + 1, sc, op, r, es => match es with
    | [] => false
    | e :: es => (match es with
      | [] => mE K n sc r e
      | e2 :: es => (match r with
        | .bop o a b => o == isOrOp op && mE K n sc a e && mB K n sc op b (e2 :: es)
        | _ => false))
noncomputable def mC (K : Ck) : Nat → Scope → RC → List CmpOp → List Expr → Bool
  | 0, _, _, _, _ => false
  | n + 1, sc, c, ops, es => match ops, es with
    | op' :: ops, e :: es => (match c with
      | .one op r => op == op' && ops.isEmpty && es.isEmpty && mI K n sc r e
      | .more op r cs => op == op' && !ops.isEmpty && !es.isEmpty && mI K n sc r e && mC K n sc cs ops es)
    | _, _ => false
noncomputable def mT (K : Ck) : Nat → Scope → RE → Expr → Bool
  | 0, _, _, _ => false
  | n + 1, sc, r, e => match r with
    | .tnot a => (dUn e).any fun d => isNot d.1 && mT K n sc a d.2
    | .bop o a b => (dBop e).any fun d => mTs K n sc d.1 (.bop o a b) d.2
    | .ite t a b => (dIte e).any fun d => mT K n sc t d.1 && mT K n sc a d.2.1 && mT K n sc b d.2.2
    | .cmp a cs => (dCmp e).any fun d => mI K n sc a d.1 && mC K n sc cs d.2.1 d.2.2
    | r => isPl e && mE K n sc r e
noncomputable def mTs (K : Ck) : Nat → Scope → BoolOp → RE → List Expr → Bool
  | 0, _, _, _, _ => false
  | n + 1, sc, op, r, es => match es with
    | [] => false
    | e :: es => (match es with
      | [] => Nat.blt 0 n && mT K n sc r e
      | e2 :: es => (match r with
        | .bop o a b => o == isOrOp op && mT K n sc a e && mTs K n sc op b (e2 :: es)
        | _ => false))
end

noncomputable def mTg (K : Ck) (n : Nat) (sc : Scope) (t : RT1) (e : Expr) : Bool := match t with
  | .name i => (dName e).any fun x => kindIs sc x isOwn && nmOk K i x
  | .att o a => (dAtt e).any fun d => K.P.attr d.2 && nmOk K a d.2 && mE K n sc o d.1
  | .idx o i => (dSub e).any fun d => mE K n sc o d.1 && mE K n sc i d.2
noncomputable def mTgs (K : Ck) (n : Nat) (sc : Scope) : List RT1 → List Expr → Bool
  | [], es => es.isEmpty
  | t :: ts, es => match es with
    | [] => false
    | e :: es => mTg K n sc t e && mTgs K n sc ts es
noncomputable def mTA (K : Ck) (n : Nat) (sc : Scope) (t : RT) (e : Expr) : Bool := match dTup e with
  | some es => (match t with
    | .tup ts => mTgs K n sc ts es
    | _ => false)
  | none => (match t with
    | .one t => mTg K n sc t e
    | _ => false)
noncomputable def dOne (l : List Expr) : Option Expr := match l with
  | [t] => some t
  | _ => none
mutual
noncomputable def mS (K : Ck) : Nat → Scope → RS → Stmt → Bool
  | 0, _, _, _ => false
  | n + 1, sc, r, st => match st with
    | .Expr e' _ => (dCall e').isSome && (match r with | .expr e => mE K n sc e e' | _ => false)
    | .Return e' _ => (match r with
      | .ret e => (match e' with
        | some e' => mE K n sc e e'
        | none => (match e with | .val v => (match v with | .none => true | _ => false) | _ => false))
      | _ => false)
    | .Assign ts e' _ => (match r with
      | .asg t e => (dOne ts).any fun t' => assignOk t' e' && mE K n sc e e' && mTA K n sc t t'
      | _ => false)
    | .AugAssign t' op e' _ => (match op with | .Add => true | _ => false) && (match r with
      | .augL i e => (dName t').any fun x => kindIs sc x isOwn && nmOk K i x && mE K n sc e e'
      | .augA o a e => (dAtt t').any fun d => K.P.attr d.2 && nmOk K a d.2 && mE K n sc o d.1 && mE K n sc e e'
      | _ => false)
    | .If t' a' b' _ => (match r with
      | .ite t a b => mT K n sc t t' && mSs K n sc a a' && mSs K n sc b b'
      | _ => false)
    | .While t' b' el _ => el.isEmpty && (match r with
      | .whl t b => mT K n sc t t' && mSs K n sc b b'
      | _ => false)
    | .For t' it' b' el _ => el.isEmpty && (match r with
      | .for_ t it b => mE K n sc it it' && mTA K n sc t t' && mSs K n sc b b'
      | _ => false)
    | _ => false
noncomputable def mSs (K : Ck) : Nat → Scope → RSs → List Stmt → Bool
  | 0, _, _, _ => false
  | n + 1, sc, r, st => match r with
    | .nil => st.isEmpty
    | .cons s ss => (match st with
      | [] => false
      | t :: ts => mS K n sc s t && mSs K n sc ss ts)
end
noncomputable def mFD (K : Ck) (r : RFD) (d : FD) : Bool := nmsOk K r.params d.params && mSs K FU d.scope r.body d.body
end Mine
end
section
open PySem
namespace Mine.R

structure CkOk (K : Ck) : Prop where
  inj : ∀ i j, i < K.lim → j < K.lim → K.nm i = K.nm j → i = j
  dot : ∀ i, i < K.lim → K.nm i ≠ dot0

structure EnvR (K : Ck) (ρ' : Env) (ρ : Loc) : Prop where
  keys : ∀ p ∈ ρ', p.1 < K.lim
  look : ∀ i v, i < K.lim → rlk i ρ' = some v → lk (K.nm i) ρ = some v
  dot : lk dot0 ρ = none

structure CxR (K : Ck) (C : RCx) (D : Cx) : Prop where
  nm : C.nm = K.nm
  glb : C.glb = K.glb
  dglb : D.glob = K.P.glob
  blt : D.blt = K.P.blt
  attr : D.attr = K.P.attr
  call : ∀ m f vs H r, C.call m f vs H = some r → f < K.lim → D.call m (K.nm f) vs H = some r

section
variable {K : Ck} {C : RCx} {D : Cx} {ρ' : Env} {ρ : Loc} {H H' : Hp} {sc : Scope}

theorem nmOk_ok {i : Nat} {x : Str} (h : nmOk K i x = true) : i < K.lim ∧ x = K.nm i := by
  unfold nmOk at h
  rw [Bool.and_eq_true] at h
  exact ⟨Nat.le_of_ble_eq_true h.1, seq_iff.mp h.2⟩

theorem rlk_mem {i : Nat} {v : V} : ∀ {l : Env}, rlk i l = some v → ∃ p ∈ l, p.1 = i
  | p :: r, h => by
    rw [rlk_1] at h
    cases q : (i == p.1) with
    | true => exact ⟨p, List.mem_cons_self, (eq_of_beq q).symm⟩
    | false =>
      rw [q] at h
      obtain ⟨p', a, b⟩ := rlk_mem h
      exact ⟨p', List.mem_cons_of_mem _ a, b⟩

theorem beq_self (i : Nat) : (i == i) = true := by simp
theorem beq_ne {i j : Nat} (h : i ≠ j) : (i == j) = false := by
  cases q : (i == j) with
  | false => rfl
  | true => exact absurd (eq_of_beq q) h

theorem EnvR.cons (k : CkOk K) (E : EnvR K ρ' ρ) {i : Nat} (v : V) (hi : i < K.lim) : EnvR K ((i, v) :: ρ') ((K.nm i, v) :: ρ) := by
  refine ⟨fun p hp => ?_, fun j w hj h => ?_, ?_⟩
  · rcases List.mem_cons.mp hp with q | q
    · rw [q]; exact hi
    · exact E.keys p q
  · rw [rlk_1] at h
    rw [lk_1]
    by_cases e : j = i
    · subst e
      rw [seq_self]
      simpa [beq_self] using h
    · rw [seq_ne fun q => e (k.inj _ _ hj hi q)]
      have : (j == i) = false := beq_ne e
      simp only [this] at h
      exact E.look j w hj h
  · rw [lk_1, seq_ne fun q => k.dot i hi q.symm]
    exact E.dot

theorem rlk_rup (i j : Nat) (v : V) : ∀ l : Env, rlk j (rup i v l) = if j = i then some v else rlk j l
  | [] => by
    by_cases h : j = i
    · subst h; simp [rup_0, rlk_1]
    · simp [rup_0, rlk_0, rlk_1, beq_ne h, h]
  | p :: r => by
    unfold rup
    by_cases h : i = p.1
    · rw [h, beq_self]
      by_cases q : j = p.1
      · rw [if_pos q]; subst q; simp [rlk_1]
      · rw [if_neg q]; simp [rlk_1, beq_ne q]
    · rw [beq_ne h]
      by_cases q : j = p.1
      · have : j ≠ i := fun z => h (z ▸ q)
        rw [if_neg this]; subst q; simp [rlk_1]
      · simp only [rlk_1, beq_ne q, rlk_rup i j v r]
theorem rup_keys {i : Nat} {v : V} : ∀ {l : Env} {p : Nat × V}, p ∈ rup i v l → p.1 = i ∨ ∃ q ∈ l, p.1 = q.1
  | [], p, h => .inl (by simp [rup_0] at h; rw [h])
  | x :: r, p, h => by
    unfold rup at h
    split at h
    · rcases List.mem_cons.mp h with q | q
      · exact .inl (by rw [q])
      · exact .inr ⟨p, List.mem_cons_of_mem _ q, rfl⟩
    · rcases List.mem_cons.mp h with q | q
      · exact .inr ⟨x, List.mem_cons_self, by rw [q]⟩
      · rcases rup_keys q with z | ⟨z, z1, z2⟩
        · exact .inl z
        · exact .inr ⟨z, List.mem_cons_of_mem _ z1, z2⟩
theorem EnvR.up (k : CkOk K) (E : EnvR K ρ' ρ) {i : Nat} (v : V) (hi : i < K.lim) : EnvR K (rup i v ρ') (up (K.nm i) v ρ) := by
  refine ⟨fun p hp => ?_, fun j w hj h => ?_, ?_⟩
  · rcases rup_keys hp with q | ⟨q, q1, q2⟩
    · rw [q]; exact hi
    · rw [q2]; exact E.keys q q1
  · rw [rlk_rup] at h
    rw [lk_up]
    by_cases e : j = i
    · subst e; simpa using h
    · rw [if_neg fun q => e (k.inj _ _ hj hi q)]
      rw [if_neg e] at h
      exact E.look j w hj h
  · rw [lk_up, if_neg fun q => k.dot i hi q.symm]
    exact E.dot

theorem nmsOk_ok : ∀ {is : List Nat} {xs : List Str}, nmsOk K is xs = true → (∀ i ∈ is, i < K.lim) ∧ xs = is.map K.nm
  | [], [], _ => ⟨fun i h => (nomatch h), rfl⟩
  | [], _ :: _, h => by simp [nmsOk_2] at h
  | _ :: _, [], h => by simp [nmsOk_3] at h
  | i :: is, x :: xs, h => by
    rw [nmsOk_1, Bool.and_eq_true] at h
    obtain ⟨a, b⟩ := nmOk_ok h.1
    obtain ⟨c, d⟩ := nmsOk_ok h.2
    refine ⟨fun j hj => ?_, by rw [b, d]; rfl⟩
    rcases List.mem_cons.mp hj with q | q
    · rw [q]; exact a
    · exact c j q

theorem rbind_ok (k : CkOk K) (E : EnvR K ρ' ρ) {is : List Nat} {xs : List Str} (h : nmsOk K is xs = true) {v : V} {own : Env} (q : rbind is v = some own) :
    ∃ o2, tbind xs v = some o2 ∧ EnvR K (own ++ ρ') (o2 ++ ρ) := by
  obtain ⟨a, rfl⟩ := nmsOk_ok h
  cases is with
  | nil => exact nos q
  | cons i is =>
  cases is with
  | nil => exact ⟨_, rfl, Option.some.inj q ▸ E.cons k _ (a _ (.head _))⟩
  | cons j is =>
  cases is with
  | cons => exact nos q
  | nil =>
  obtain ⟨l, q1, q⟩ := Option.bind_eq_some_iff.mp q
  obtain ⟨p, q2, q⟩ := Option.map_eq_some_iff.mp q
  rw [tupV_some q1]
  subst q
  refine ⟨[(K.nm i, p.1), (K.nm j, p.2)], ?_, (E.cons k p.2 (a _ (.tail _ (.head _)))).cons k p.1 (a _ (.head _))⟩
  show (two l).map _ = _
  rw [q2]; rfl

theorem rtruth_eq (H : Hp) (v : V) : truth H v = rtruth v := by cases v <;> rfl

theorem rblt_ok {f : Nat} {x : Str} (hf : Nat.blt f 9 = true) (h : seq x (bltS f) = true) {vs : List V} {v : V} (q : rblt f H vs = some v) : builtin x H vs = some v := by
  rw [seq_iff.mp h]
  have hl := Nat.le_of_ble_eq_true hf
  unfold rblt at q
  split at q
  · split at q <;> first | exact q | cases q
  · split at q <;> first | exact q | cases q
  · first | exact Mine.nos q | exact Mine.ff0 q | exact Mine.tf0 q | exact Mine.sn0 q | cases q
theorem rstrM_ok {m : Nat} {x : Str} (h : (bif Nat.blt m 6 then seq x (metS m) else true) = true) {l : List Nat} {vs : List V} {v : V} (q : rstrM m H l vs = some v) : strMeth x H l vs = some v := by
  unfold rstrM at q
  split at q
  · split at q <;> first | (cases q; done) | (rw [seq_iff.mp (show seq x (metS _) = true from h)]; exact q)
  · split at q <;> first | (cases q; done) | (rw [seq_iff.mp (show seq x (metS _) = true from h)]; exact q)
  · first | exact Mine.nos q | exact Mine.ff0 q | exact Mine.tf0 q | exact Mine.sn0 q | cases q
theorem rlistM_ok {m : Nat} {x : Str} (h : (bif Nat.blt m 6 then seq x (metS m) else true) = true) {i : Nat} {l : List V} {vs : List V} {r : V × Hp} (q : rlistM m H i l vs = some r) : listMeth x H i l vs = some r := by
  unfold rlistM at q
  split at q
  · split at q
    · rename_i e
      rw [seq_iff.mp (show seq x (metS _) = true from h)]
      unfold listMeth
      dsimp only
      rw [show seq (metS 4) (N "append") = true from seq_self _, e]
      exact q
    · first | exact Mine.nos q | exact Mine.ff0 q | exact Mine.tf0 q | exact Mine.sn0 q | cases q
  · split at q
    · rw [seq_iff.mp (show seq x (metS _) = true from h)]
      unfold listMeth
      dsimp only
      rw [show seq (metS 5) (N "pop") = true from seq_self _]
      exact q
    · first | exact Mine.nos q | exact Mine.ff0 q | exact Mine.tf0 q | exact Mine.sn0 q | cases q
  · first | exact Mine.nos q | exact Mine.ff0 q | exact Mine.tf0 q | exact Mine.sn0 q | cases q
end
end Mine.R
end
section
open PySem
namespace Mine.R
/-- what the one gives, the other gives -/
noncomputable def Le {α : Type} (o o' : Option α) : Prop := ∀ x, o = some x → o' = some x
theorem Le.refl {α : Type} (o : Option α) : Le o o := fun _ h => h
theorem Le.of {α : Type} {o o' : Option α} (h : o = o') : Le o o' := fun _ q => h ▸ q
theorem Le.none {α : Type} {o : Option α} : Le Option.none o := fun _ h => nomatch h
theorem Le.bind {α β : Type} {o o' : Option α} {f g : α → Option β} (h : Le o o') (k : ∀ a, Le (f a) (g a)) : Le (o.bind f) (o'.bind g) := fun x q => by
  obtain ⟨a, e, q⟩ := Option.bind_eq_some_iff.mp q
  rw [h a e]
  exact k a x q
theorem Le.map {α β : Type} {o o' : Option α} (f : α → β) (h : Le o o') : Le (o.map f) (o'.map f) := fun x q => by
  obtain ⟨a, e, q⟩ := Option.map_eq_some_iff.mp q
  rw [h a e, ← q]; rfl
theorem compF_mono {f g : V → Hp → Option (Option V × Hp)} (h : ∀ v H, Le (f v H) (g v H)) : ∀ (vs : List V) (H : Hp), Le (compF f vs H) (compF g vs H)
  | [], H => Le.refl _
  | v :: vs, H => fun r q => by
    rw [compF_1] at q ⊢
    cases e : f v H with
    | none => rw [e] at q; first | exact Mine.nos q | exact Mine.ff0 q | exact Mine.tf0 q | exact Mine.sn0 q | cases q
    | some y =>
      obtain ⟨w, H1⟩ := y
      rw [e] at q
      rw [h _ _ _ e]
      cases w with
      | none => exact compF_mono h vs H1 r q
      | some w =>
        dsimp only at q ⊢
        cases e2 : compF f vs H1 with
        | none => rw [e2] at q; first | exact Mine.nos q | exact Mine.ff0 q | exact Mine.tf0 q | exact Mine.sn0 q | cases q
        | some z => rw [compF_mono h vs H1 _ e2]; rw [e2] at q; exact q

/-! decoded -/
theorem dOne_ok {l : List Expr} {t : Expr} (h : dOne l = some t) : l = [t] := by
  cases l with
  | nil => exact nos h
  | cons a r => cases r with
    | nil => exact congrArg (fun x => [x]) (Option.some.inj h)
    | cons => exact nos h
theorem dOneC_ok {l : List Comprehension} {d : Expr × Expr × List Expr} (h : dOneC l = some d) : l = [⟨d.1, d.2.1, d.2.2, 0⟩] := by
  unfold dOneC at h; split at h <;> cases h; rfl

section
variable {K : Ck} {C : RCx} {D : Cx} {ρ' : Env} {ρ : Loc} {H : Hp} {sc : Scope} {n : Nat}
/-! the two evaluators, step by step -/
theorem Le.app {α β : Type} {o o' : Option α} (F : Option α → Option β) (h0 : F Option.none = Option.none) (h : Le o o') : Le (F o) (F o') := fun x q => by
  cases o with
  | none => rw [h0] at q; first | exact Mine.nos q | exact Mine.ff0 q | exact Mine.tf0 q | exact Mine.sn0 q | cases q
  | some a => rw [h a rfl]; exact q
theorem methK_le {ar ar' : Hp → Option (List V × Hp)} {sm sm' : Hp → List Nat → List V → Option V} {lm lm' : Hp → Nat → List V → List V → Option (V × Hp)} {cl cl' : List V → Hp → Option (V × Hp)} {x : Str}
    (h1 : ∀ H, Le (ar H) (ar' H)) (h2 : ∀ H l vs, Le (sm H l vs) (sm' H l vs)) (h3 : ∀ H i l vs, Le (lm H i l vs) (lm' H i l vs)) (h4 : ∀ vs H, Le (cl vs H) (cl' vs H)) (y : V × Hp) : Le (methK ar sm lm cl x y) (methK ar' sm' lm' cl' x y) := by
  obtain ⟨v, H⟩ := y
  unfold methK
  cases v <;> dsimp only <;> first | exact Le.refl _ | skip
  · exact Le.bind (h1 _) fun a => Le.map _ (h2 _ _ _)
  · split
    · refine Le.bind (h1 _) fun a => ?_
      split
      · exact h3 _ _ _ _
      · exact Le.refl _
    · exact Le.refl _
  · split
    · split
      · exact Le.bind (h1 _) fun a => h4 _ _
      · exact Le.refl _
    · exact Le.refl _
theorem r_val (v : V) : rev C (.val v) ρ' H = some (v, H) := by kernel_rfl
theorem r_glb (i : Nat) : rev C (.glb i) ρ' H = some (C.glb i, H) := by kernel_rfl
theorem r_loc (i : Nat) : rev C (.loc i) ρ' H = (rlk i ρ').map (vh H) := by kernel_rfl
theorem r_bin (op : Operator) (a b : RE) : rev C (.bin op a b) ρ' H = (rev C a ρ' H).bind fun x => (rev C b ρ' x.2).bind fun y => (binop op y.2 x.1 y.1).map (vh y.2) := by kernel_rfl
theorem r_un (op : UnaryOp) (a : RE) : rev C (.un op a) ρ' H = (rev C a ρ' H).bind fun x => (unop op x.1).map (vh x.2) := by kernel_rfl
theorem r_tnot (a : RE) : rev C (.tnot a) ρ' H = (rev C a ρ' H).bind fun x => (rtruth x.1).map fun b => (.bool !b, x.2) := by kernel_rfl
theorem r_cmp (a : RE) (cs : RC) : rev C (.cmp a cs) ρ' H = (rev C a ρ' H).bind fun x => (revC C x.1 cs ρ' x.2).map fun r => (.bool r.1, r.2) := by kernel_rfl
theorem r_tup (es : REs) : rev C (.tup es) ρ' H = (revs C es ρ' H).map fun r => (.tup r.1, r.2) := by kernel_rfl
theorem r_lst (es : REs) : rev C (.lst es) ρ' H = (revs C es ρ' H).map fun r => (.ref r.2.length, r.2 ++ [.list r.1]) := by kernel_rfl
theorem r_lstI (es : REs) : rev C (.lstI es) ρ' H = (revs C es ρ' H).map fun r => (.lst r.1, r.2) := by kernel_rfl
theorem r_att (o : RE) (a : Nat) : rev C (.att o a) ρ' H = attK (C.nm a) (rev C o ρ' H) := by kernel_rfl
theorem r_sli (b : RE) (lo hi : RO) : rev C (.sli b lo hi) ρ' H = (rev C b ρ' H).bind fun x => (revO C lo ρ' x.2).bind fun l => (revO C hi ρ' l.2).bind fun h => sliK x.1 l.1 h.1 h.2 := by kernel_rfl
theorem r_idx (b i : RE) : rev C (.idx b i) ρ' H = (rev C b ρ' H).bind fun x => (rev C i ρ' x.2).bind fun y => (sub y.2 x.1 y.1).map (vh y.2) := by kernel_rfl
theorem r_blt (f : Nat) (as : REs) : rev C (.blt f as) ρ' H = (revs C as ρ' H).bind fun x => (rblt f x.2 x.1).map (vh x.2) := by kernel_rfl
theorem r_fn (f : Nat) (as : REs) : rev C (.fn f as) ρ' H = (revs C as ρ' H).bind fun x => C.call false f x.1 x.2 := by kernel_rfl
theorem r_meth (o : RE) (m : Nat) (as : REs) : rev C (.meth o m as) ρ' H = (rev C o ρ' H).bind (methK (revs C as ρ') (rstrM m) (rlistM m) (fun vs H => C.call true m vs H) (C.nm m)) := by kernel_rfl
theorem r_comp (elt : RE) (xs : List Nat) (it cond : RE) : rev C (.comp elt xs it cond) ρ' H = (rev C it ρ' H).bind (compK fun v H => (rbind xs v).bind fun own => (rev C cond (own ++ ρ') H).bind fun x => (rtruth x.1).bind fun b => match b with
    | true => (rev C elt (own ++ ρ') x.2).map fun r => (some r.1, r.2)
    | false => some (none, x.2)) := by kernel_rfl
theorem r_nil : revs C .nil ρ' H = some ([], H) := by kernel_rfl
theorem r_cons (e : RE) (es : REs) : revs C (.cons e es) ρ' H = (rev C e ρ' H).bind fun x => (revs C es ρ' x.2).map fun r => (x.1 :: r.1, r.2) := by kernel_rfl
theorem r_yes (e : RE) : revO C (.yes e) ρ' H = intK (rev C e ρ' H) := by kernel_rfl
theorem r_no : revO C .no ρ' H = some (none, H) := by kernel_rfl

end
end Mine.R
end
section
open PySem
namespace Mine.R
section
variable {K : Ck} {C : RCx} {D : Cx}
theorem and2 {a b : Bool} (h : (a && b) = true) : a = true ∧ b = true := Bool.and_eq_true_iff.mp h
theorem not1 {a : Bool} (h : (!a) = true) : a = false := by cases a <;> first | rfl | cases h
theorem nil_of {α : Type} {l : List α} (h : l.isEmpty = true) : l = [] := List.isEmpty_iff.mp h
theorem chk_true {α : Type} {b : Bool} {o : Option α} (h : b = true) : chk b o = o := by rw [h]; rfl

theorem an2 {a b : Bool} {P : Prop} (h : (a && b) = true) (k : a = true → b = true → P) : P := k (and2 h).1 (and2 h).2
theorem an3 {a b c : Bool} {P : Prop} (h : (a && b && c) = true) (k : a = true → b = true → c = true → P) : P := an2 h fun h z => an2 h fun x y => k x y z
theorem an4 {a b c d : Bool} {P : Prop} (h : (a && b && c && d) = true) (k : a = true → b = true → c = true → d = true → P) : P := an2 h fun h z => an3 h fun x y w => k x y w z
theorem an5 {a b c d e : Bool} {P : Prop} (h : (a && b && c && d && e) = true) (k : a = true → b = true → c = true → d = true → e = true → P) : P := an2 h fun h z => an4 h fun x y w v => k x y w v z
theorem via {α : Type} {o : Option α} {p : α → Bool} {P : Prop} (h : o.any p = true) (k : ∀ d, o = some d → p d = true → P) : P := by
  cases o with
  | none => exact ff0 h
  | some d => exact k d rfl h
theorem Le.eqs {α : Type} {o o' p p' : Option α} (h1 : o = p) (h2 : o' = p') (k : Le p p') : Le o o' := by rw [h1, h2]; exact k
theorem Le.pre {α : Type} {o o' p : Option α} (h1 : o = p) (k : Le p o') : Le o o' := by rw [h1]; exact k

theorem ff {h : false = true} {P : Prop} : P := nomatch h
/-- a test's outcome -/
noncomputable def tst (o : Option (V × Hp)) : Option (Bool × Hp) := o.bind fun x => (rtruth x.1).map fun b => (b, x.2)
theorem tst_bind {α : Type} (o : Option (V × Hp)) (f : Bool × Hp → Option α) : (tst o).bind f = o.bind fun x => (rtruth x.1).bind fun b => f (b, x.2) := by
  unfold tst
  cases o with
  | none => rfl
  | some x =>
    rw [Option.bind_some, Option.bind_some]
    cases rtruth x.1 <;> rfl
theorem bind_tst {α : Type} (o : Option α) (f : α → Option (V × Hp)) : tst (o.bind f) = o.bind fun x => tst (f x) := by
  cases o <;> rfl
theorem r_ite (t a b : RE) {ρ' : Env} {H : Hp} : rev C (.ite t a b) ρ' H = (tst (rev C t ρ' H)).bind fun x => match x.1 with
    | true => rev C a ρ' x.2
    | false => rev C b ρ' x.2 := by
  rw [tst_bind]; kernel_rfl
theorem r_iteC (t a b : RE) {ρ' : Env} {H : Hp} : rev C (.ite t a b) ρ' H = (tst (rev C t ρ' H)).bind fun x => bif x.1 then rev C a ρ' x.2 else rev C b ρ' x.2 := by
  rw [tst_bind]; kernel_rfl
structure Sim (K : Ck) (C : RCx) (D : Cx) (n : Nat) : Prop where
  e : ∀ {sc r e ρ' ρ H}, mE K n sc r e = true → EnvR K ρ' ρ → Le (rev C r ρ' H) (ev D n sc e ρ H)
  i : ∀ {sc r e ρ' ρ H}, mI K n sc r e = true → EnvR K ρ' ρ → Le (rev C r ρ' H) (evI D n sc e ρ H)
  es : ∀ {sc r e ρ' ρ H}, mEs K n sc r e = true → EnvR K ρ' ρ → Le (revs C r ρ' H) (evs D n sc e ρ H)
  o : ∀ {sc r e ρ' ρ H}, mO K n sc r e = true → EnvR K ρ' ρ → Le (revO C r ρ' H) (evO D n sc e ρ H)
  cnd : ∀ {sc r e ρ' ρ H}, mIf K n sc r e = true → EnvR K ρ' ρ → Le (tst (rev C r ρ' H)) (evIf D n sc e ρ H)
  b : ∀ {sc op r e ρ' ρ H}, mB K n sc op r e = true → EnvR K ρ' ρ → Le (rev C r ρ' H) (evB D n sc op e ρ H)
  c : ∀ {sc r ops e ρ' ρ H a}, mC K n sc r ops e = true → EnvR K ρ' ρ → Le (revC C a r ρ' H) (evC D n sc a ops e ρ H)
  t : ∀ {sc r e ρ' ρ H}, mT K n sc r e = true → EnvR K ρ' ρ → Le (tst (rev C r ρ' H)) (evT D n sc e ρ H)
  ts : ∀ {sc op r e ρ' ρ H}, mTs K n sc op r e = true → EnvR K ρ' ρ → Le (tst (rev C r ρ' H)) (evTs D n sc op e ρ H)

/-- a branch, on either side -/
theorem Le.cond {α : Type} {b : Bool} {o o' p p' : Option α} (h1 : Le o o') (h2 : Le p p') : Le (bif b then o else p) (bif b then o' else p') := by
  cases b
  · exact h2
  · exact h1
theorem rtruth_le {n : Nat} {sc : Scope} {r : RE} {e : Expr} {ρ' : Env} {ρ : Loc} {H : Hp} (h : Le (rev C r ρ' H) (ev D n sc e ρ H)) : Le (tst (rev C r ρ' H)) ((ev D n sc e ρ H).bind fun x => (truth x.2 x.1).map fun b => (b, x.2)) :=
  Le.bind h fun x => by rw [rtruth_eq]; exact Le.refl _
theorem Sim.zero : Sim K C D 0 :=
  ⟨fun h _ => ff (h := h), fun h _ => ff (h := h), fun h _ => ff (h := h), fun h _ => ff (h := h), fun h _ => ff (h := h), fun h _ => ff (h := h), fun h _ => ff (h := h), fun h _ => ff (h := h), fun h _ => ff (h := h)⟩

section
variable {n : Nat} {sc : Scope} {ρ' : Env} {ρ : Loc} {H : Hp}
theorem e_cst (c : Const) (k : Nat) (p : Pos) : ev D (n + 1) sc (.Constant c k p) ρ H = match c with
  | .none => some (.none, H)
  | .bool b => some (.bool b, H)
  | .int i => some (.int i, H)
  | .str x => chk (szOk (cps x).length) (some (.str (cps x), H))
  | _ => none := by kernel_rfl
theorem s_val {v : V} {e : Expr} (h : mVal v e = true) : Le (rev C (.val v) ρ' H) (ev D (n + 1) sc e ρ H) :=
  via h fun c e1 h => (dCst_ok e1).elim fun k q => q.elim fun p q => by
    subst q
    refine Le.eqs (r_val v) (e_cst c k p) (Le.of ?_)
    cases v <;> first | exact ff0 h | skip
    · cases c <;> first | exact ff0 h | rfl
    · cases c <;> first | exact ff0 h | exact eq_of_beq h ▸ rfl
    · cases c <;> first | exact ff0 h | exact of_decide_eq_true h ▸ rfl
    · cases c <;> first | exact ff0 h | skip
      exact an2 h fun h1 h2 => leq_iff.mp h1 ▸ (chk_true h2).symm
theorem s_glb (cx : CxR K C D) {i : Nat} {x : Str} {p : Pos} (h : (!leq (cps x) dbgN && !kindIs sc x isLoc && kindIs sc x isGlob && gOk K i x) = true) : Le (rev C (.glb i) ρ' H) (ev D (n + 1) sc (.Name x p) ρ H) :=
  an4 h fun h1 h2 h3 h4 => by
    unfold gOk at h4
    rw [r_glb, e_name, not1 h1, not1 h2, h3, cx.dglb, cx.glb]
    cases hv : K.P.glob x with
    | none => rw [hv] at h4; exact ff0 h4
    | some v => rw [hv] at h4; rw [veq_ok v _ h4]; exact Le.refl _
theorem s_loc (E : EnvR K ρ' ρ) {i : Nat} {x : Str} {p : Pos} (h : (!leq (cps x) dbgN && kindIs sc x isLoc && nmOk K i x) = true) : Le (rev C (.loc i) ρ' H) (ev D (n + 1) sc (.Name x p) ρ H) :=
  an3 h fun h1 h2 h3 => by
    obtain ⟨hi, rfl⟩ := nmOk_ok h3
    rw [r_loc, e_name, not1 h1, h2]
    exact Le.map _ fun v q => E.look _ _ hi q
theorem r_and (a b : RE) : rev C (.bop false a b) ρ' H = (rev C a ρ' H).bind fun x => (rtruth x.1).bind fun t => bif t then rev C b ρ' x.2 else some x := by kernel_rfl
theorem r_or (a b : RE) : rev C (.bop true a b) ρ' H = (rev C a ρ' H).bind fun x => (rtruth x.1).bind fun t => bif t then some x else rev C b ρ' x.2 := by kernel_rfl
theorem r_one (a : V) (op : CmpOp) (r : RE) : revC C a (.one op r) ρ' H = (rev C r ρ' H).bind fun y => (cmpop op y.2 a y.1).map fun c => (c, y.2) := by kernel_rfl
theorem r_more (a : V) (op : CmpOp) (r : RE) (cs : RC) : revC C a (.more op r cs) ρ' H = (rev C r ρ' H).bind fun y => (cmpop op y.2 a y.1).bind fun c => bif c then revC C y.1 cs ρ' y.2 else some (false, y.2) := by kernel_rfl
theorem tst_not (o : Option (V × Hp)) : tst (o.bind fun x => (rtruth x.1).map fun b => (.bool !b, x.2)) = (tst o).map fun r => (!r.1, r.2) := by
  cases o with
  | none => rfl
  | some x => show tst ((rtruth x.1).map _) = ((rtruth x.1).map _).map _; cases rtruth x.1 <;> rfl
theorem tst_bool {α : Type} (o : Option α) (f : α → Option (Bool × Hp)) : tst (o.bind fun x => (f x).map fun r => (.bool r.1, r.2)) = o.bind f := by
  cases o with
  | none => rfl
  | some x => show tst ((f x).map _) = f x; cases f x <;> rfl
theorem isNot_ok {op : UnaryOp} (h : isNot op = true) : op = .Not := by
  cases op <;> first | rfl | exact ff0 h
theorem tr_and (a b : RE) : tst (rev C (.bop false a b) ρ' H) = (tst (rev C a ρ' H)).bind fun x => bif x.1 then tst (rev C b ρ' x.2) else some (false, x.2) := by
  rw [r_and, bind_tst, tst_bind]
  refine congrArg _ (funext fun x => ?_)
  rw [bind_tst]
  cases hx : rtruth x.1 with
  | none => rfl
  | some t => cases t <;> first | rfl | (show (rtruth x.1).map _ = _; rw [hx]; rfl)
theorem tr_or (a b : RE) : tst (rev C (.bop true a b) ρ' H) = (tst (rev C a ρ' H)).bind fun x => bif x.1 then some (true, x.2) else tst (rev C b ρ' x.2) := by
  rw [r_or, bind_tst, tst_bind]
  refine congrArg _ (funext fun x => ?_)
  rw [bind_tst]
  cases hx : rtruth x.1 with
  | none => rfl
  | some t => cases t <;> first | rfl | (show (rtruth x.1).map _ = _; rw [hx]; rfl)
theorem eT_pl {e : Expr} (h : isPl e = true) : evT D (n + 1) sc e ρ H = tstV (ev D n sc e ρ H) := by
  cases e <;> first | exact ff0 h | kernel_rfl
section
variable (ih : Sim K C D n) (E : EnvR K ρ' ρ)
include ih E
theorem s_call (cx : CxR K C D) {f : Nat} {as : REs} {x : Str} {q p : Pos} {es : List Expr} (h : (glbOk K sc x && !K.P.blt x && nmOk K f x && mEs K n sc as es) = true) :
    Le (rev C (.fn f as) ρ' H) (ev D (n + 1) sc (.Call (.Name x q) es [] p) ρ H) :=
  an4 h fun h1 h2 h3 h4 => an2 h1 fun a b => by
    obtain ⟨hi, rfl⟩ := nmOk_ok h3
    rw [r_fn, e_call, chk_true (by rw [a, b]; rfl), cx.blt, not1 h2]
    exact Le.bind (ih.es h4 E) fun r => fun y q => cx.call _ _ _ _ _ q hi
theorem s_blt (cx : CxR K C D) {f : Nat} {as : REs} {x : Str} {q p : Pos} {es : List Expr} (h : (glbOk K sc x && K.P.blt x && Nat.blt f 9 && seq x (bltS f) && mEs K n sc as es) = true) :
    Le (rev C (.blt f as) ρ' H) (ev D (n + 1) sc (.Call (.Name x q) es [] p) ρ H) :=
  an5 h fun h1 h2 h3 h4 h5 => an2 h1 fun a b => by
    rw [r_blt, e_call, chk_true (by rw [a, b]; rfl), cx.blt, h2]
    exact Le.bind (ih.es h5 E) fun r => Le.map _ fun y q => rblt_ok h3 h4 q
theorem s_meth (cx : CxR K C D) {o : RE} {m : Nat} {as : REs} {o' : Expr} {x : Str} {q p : Pos} {es : List Expr}
    (h : (Nat.beq q.endLine p.line && Nat.ble es.length 3 && baseOk o' && nmOk K m x && (bif Nat.blt m 6 then seq x (metS m) else true) && mE K n sc o o' && mEs K n sc as es) = true) :
    Le (rev C (.meth o m as) ρ' H) (ev D (n + 1) sc (.Call (.Attribute o' x q) es [] p) ρ H) :=
  an5 h fun h1 h4 h5 h6 h7 => by
    obtain ⟨hi, e⟩ := nmOk_ok h4
    rw [r_meth, e_meth, chk_true h1, cx.nm, ← e]
    exact Le.bind (ih.e h6 E) (methK_le (fun H => ih.es h7 E) (fun H l vs => fun y q => rstrM_ok h5 q) (fun H i l vs => fun y q => rlistM_ok h5 q) (fun vs H => fun y q => e ▸ cx.call _ _ _ _ _ q hi))
theorem s_comp (k : CkOk K) {elt it cond : RE} {xs : List Nat} {elt' tgt it' : Expr} {ifs : List Expr} {sc' : Scope} {p : Pos}
    (h : (mE K n sc it it' && ((tnames tgt).any fun ys => nmsOk K xs ys && compScOk sc sc' ys) && mIf K n sc' cond ifs && mE K n sc' elt elt') = true) :
    Le (rev C (.comp elt xs it cond) ρ' H) (ev D (n + 1) sc (.ListComp elt' [⟨tgt, it', ifs, 0⟩] sc' p) ρ H) :=
  an4 h fun h1 h2 h3 h4 => via h2 fun ys hy h2 => an2 h2 fun h2 h5 => by
    refine Le.eqs (r_comp ..) (e_comp elt' tgt it' ifs sc' p hy h5 E.dot) (Le.bind (ih.e h1 E) fun y => ?_)
    refine Le.bind (Le.refl _) fun vs => Le.map _ (compF_mono (fun v H z q => ?_) vs y.2)
    obtain ⟨own, q1, q⟩ := Option.bind_eq_some_iff.mp q
    obtain ⟨o2, e5, E2⟩ := rbind_ok k E h2 q1
    rw [e5, Option.bind_some]
    have q : ((tst (rev C cond (own ++ ρ') H)).bind fun x => match x.1 with
      | true => (rev C elt (own ++ ρ') x.2).map fun r => (some r.1, r.2)
      | false => some (none, x.2)) = some z := by
      rw [tst_bind]; exact q
    refine Le.bind (ih.cnd h3 E2) (fun x => ?_) z q
    cases x.1
    · exact Le.refl _
    · exact Le.map _ (ih.e h4 E2)
theorem s_bin {op op' : Operator} {a b : RE} {l r : Expr} {p : Pos} (h : (op == op' && mI K n sc a l && mI K n sc b r) = true) : Le (rev C (.bin op a b) ρ' H) (ev D (n + 1) sc (.BinOp l op' r p) ρ H) :=
  an3 h fun h1 h2 h3 => eq_of_beq h1 ▸ Le.eqs (r_bin ..) (e_bin ..) (Le.bind (ih.i h2 E) fun _ => Le.bind (ih.i h3 E) fun _ => Le.refl _)
theorem s_un {op op' : UnaryOp} {a : RE} {l : Expr} {p : Pos} (h : (op == op' && mE K n sc a l) = true) : Le (rev C (.un op a) ρ' H) (ev D (n + 1) sc (.UnaryOp op' l p) ρ H) :=
  an2 h fun h1 h2 => eq_of_beq h1 ▸ Le.eqs (r_un ..) (e_un ..) (Le.bind (ih.e h2 E) fun _ => Le.refl _)
theorem s_cmp {a : RE} {cs : RC} {l : Expr} {ops : List CmpOp} {rs : List Expr} {p : Pos} (h : (mI K n sc a l && mC K n sc cs ops rs) = true) : Le (rev C (.cmp a cs) ρ' H) (ev D (n + 1) sc (.Compare l ops rs p) ρ H) :=
  an2 h fun h1 h2 => Le.eqs (r_cmp ..) (e_cmp ..) (Le.bind (ih.i h1 E) fun _ => Le.map _ (ih.c h2 E))
theorem s_ite {t a b : RE} {t' a' b' : Expr} {p : Pos} (h : (mT K n sc t t' && mE K n sc a a' && mE K n sc b b') = true) : Le (rev C (.ite t a b) ρ' H) (ev D (n + 1) sc (.IfExp t' a' b' p) ρ H) :=
  an3 h fun h1 h2 h3 => Le.eqs (r_ite ..) (e_ite ..) (Le.bind (ih.t h1 E) fun x => by
    cases x.1
    · exact ih.e h3 E
    · exact ih.e h2 E)
theorem s_tup {es : REs} {l : List Expr} {c : Nat} {p : Pos} (h : (szOk l.length && mEs K n sc es l) = true) : Le (rev C (.tup es) ρ' H) (ev D (n + 1) sc (.Tuple l c p) ρ H) :=
  an2 h fun h1 h2 => Le.eqs (r_tup ..) ((e_tup ..).trans (chk_true h1)) (Le.map _ (ih.es h2 E))
theorem s_lst {es : REs} {l : List Expr} {p : Pos} (h : (szOk l.length && mEs K n sc es l) = true) : Le (rev C (.lst es) ρ' H) (ev D (n + 1) sc (.List l p) ρ H) :=
  an2 h fun h1 h2 => Le.eqs (r_lst ..) ((e_lst ..).trans (chk_true h1)) (Le.map _ (ih.es h2 E))
theorem s_att (cx : CxR K C D) {o : RE} {a : Nat} {o' : Expr} {x : Str} {p : Pos} (h : (K.P.attr x && baseOk o' && nmOk K a x && mE K n sc o o') = true) : Le (rev C (.att o a) ρ' H) (ev D (n + 1) sc (.Attribute o' x p) ρ H) :=
  an3 h fun h1 h3 h4 => by
    obtain ⟨hi, e2⟩ := nmOk_ok h3
    rw [r_att, e_att, cx.attr, chk_true h1, cx.nm, ← e2]
    exact Le.app _ rfl (ih.e h4 E)
theorem s_sli {b : RE} {lo hi : RO} {b' : Expr} {lo' hi' : Option Expr} {p p2 : Pos} (h : (mI K n sc b b' && mO K n sc lo lo' && mO K n sc hi hi') = true) : Le (rev C (.sli b lo hi) ρ' H) (ev D (n + 1) sc (.Subscript b' (.Slice lo' hi' none p2) p) ρ H) :=
  an3 h fun h1 h2 h3 => Le.eqs (r_sli ..) (e_sli ..) (Le.bind (ih.i h1 E) fun _ => Le.bind (ih.o h2 E) fun _ => Le.bind (ih.o h3 E) fun _ => Le.refl _)
theorem s_idx {b i : RE} {b' i' : Expr} {p : Pos} (h : (!isSlice i' && mI K n sc b b' && mE K n sc i i') = true) : Le (rev C (.idx b i) ρ' H) (ev D (n + 1) sc (.Subscript b' i' p) ρ H) :=
  an3 h fun h1 h2 h3 => Le.eqs (r_idx ..) (e_idx _ _ _ (not1 h1)) (Le.bind (ih.i h2 E) fun _ => Le.bind (ih.e h3 E) fun _ => Le.refl _)

theorem sim_e (k : CkOk K) (cx : CxR K C D) {r : RE} {e : Expr} (h : mE K (n + 1) sc r e = true) : Le (rev C r ρ' H) (ev D (n + 1) sc e ρ H) := by
  cases r with
  | val v => exact s_val h
  | glb i => exact via h fun d e1 h => (dName_ok e1).elim fun p q => q ▸ s_glb cx h
  | loc i => exact via h fun d e1 h => (dName_ok e1).elim fun p q => q ▸ s_loc E h
  | bin op a b => exact via h fun d e1 h => (dBin_ok e1).elim fun p q => q ▸ s_bin ih E h
  | un op a => exact via h fun d e1 h => (dUn_ok e1).elim fun p q => q ▸ s_un ih E h
  | tnot a => exact ff0 h
  | bop o a b => exact via h fun d e1 h => (dBop_ok e1).elim fun p q => q ▸ ih.b h E
  | cmp a cs => exact via h fun d e1 h => (dCmp_ok e1).elim fun p q => q ▸ s_cmp ih E h
  | ite t a b => exact via h fun d e1 h => (dIte_ok e1).elim fun p q => q ▸ s_ite ih E h
  | tup es => exact via h fun d e1 h => (dTup_ok e1).elim fun c q => q.elim fun p q => q ▸ s_tup ih E h
  | lst es => exact via h fun d e1 h => (dLst_ok e1).elim fun p q => q ▸ s_lst ih E h
  | lstI es => exact ff0 h
  | comp elt xs it cond => exact via h fun d e1 h => (dComp_ok e1).elim fun p q => via h fun c e2 h => q ▸ dOneC_ok e2 ▸ s_comp ih E k h
  | att o a => exact via h fun d e1 h => (dAtt_ok e1).elim fun p q => q ▸ s_att ih E cx h
  | sli b lo hi => exact via h fun d e1 h => (dSub_ok e1).elim fun p q => via h fun s e2 h => (dSli_ok e2).elim fun p2 q2 => q ▸ q2 ▸ s_sli ih E h
  | idx b i => exact via h fun d e1 h => (dSub_ok e1).elim fun p q => q ▸ s_idx ih E h
  | blt f as => exact via h fun d e1 h => an2 h fun h1 h => via h fun x e2 h => (dName_ok e2).elim fun p q => dCall_ok e1 ▸ q ▸ nil_of h1 ▸ s_blt ih E cx h
  | fn f as => exact via h fun d e1 h => an2 h fun h1 h => via h fun x e2 h => (dName_ok e2).elim fun p q => dCall_ok e1 ▸ q ▸ nil_of h1 ▸ s_call ih E cx h
  | meth o m as => exact via h fun d e1 h => an2 h fun h1 h => via h fun x e2 h => dCall_ok e1 ▸ dAttP_ok e2 ▸ nil_of h1 ▸ s_meth ih E cx h
theorem sim_i {r : RE} {e : Expr} (h : mI K (n + 1) sc r e = true) : Le (rev C r ρ' H) (evI D (n + 1) sc e ρ H) := by
  have h : (match dLst e with
    | some es' => (match (generalizing := false) r with
      | .lstI es => szOk es'.length && mEs K n sc es es'
      | _ => false)
    | none => mE K n sc r e) = true := h
  cases q : dLst e with
  | none =>
    rw [q] at h
    exact Le.eqs rfl (eI_none q) (ih.e h E)
  | some es =>
    rw [q] at h
    obtain ⟨p, rfl⟩ := dLst_ok q
    cases r <;> first | exact ff0 h | skip
    exact an2 h fun h1 h2 => Le.eqs (r_lstI ..) ((eI_lst ..).trans (chk_true h1)) (Le.map _ (ih.es h2 E))
theorem sim_es {r : REs} {es : List Expr} (h : mEs K (n + 1) sc r es = true) : Le (revs C r ρ' H) (evs D (n + 1) sc es ρ H) := by
  cases r with
  | nil => rw [nil_of h]; exact Le.eqs r_nil e_nil (Le.refl _)
  | cons r rs =>
    cases es with
    | nil => exact ff0 h
    | cons e es => exact an3 h fun h1 h2 h3 => Le.eqs (r_cons ..) (e_cons _ _ (not1 h1)) (Le.bind (ih.e h2 E) fun _ => Le.map _ (ih.es h3 E))
theorem sim_o {r : RO} {e : Option Expr} (h : mO K (n + 1) sc r e = true) : Le (revO C r ρ' H) (evO D (n + 1) sc e ρ H) := by
  cases r with
  | no => rw [Option.isNone_iff_eq_none.mp h]; exact Le.of r_no
  | yes r => exact via h fun e' e1 h => e1 ▸ Le.eqs (r_yes r) (eO_some e') (Le.app intK rfl (ih.e h E))
theorem sim_cnd {r : RE} {es : List Expr} (h : mIf K (n + 1) sc r es = true) : Le (tst (rev C r ρ' H)) (evIf D (n + 1) sc es ρ H) := by
  cases es with
  | nil =>
    cases r <;> first | exact ff0 h | skip
    rename_i v
    cases v <;> first | exact ff0 h | skip
    rename_i b
    cases b
    · exact ff0 h
    · exact Le.of (by kernel_rfl)
  | cons e es => exact an2 h fun h1 h2 => nil_of h1 ▸ ih.t h2 E
theorem sim_b {op : BoolOp} {r : RE} {es : List Expr} (h : mB K (n + 1) sc op r es = true) : Le (rev C r ρ' H) (evB D (n + 1) sc op es ρ H) := by
  cases es with
  | nil => exact ff0 h
  | cons e es =>
    cases es with
    | nil => exact ih.e h E
    | cons e2 es =>
      cases r <;> first | exact ff0 h | skip
      refine an3 h fun h1 h2 h3 => eq_of_beq h1 ▸ ?_
      cases op with
      | And => exact Le.eqs (r_and ..) (eB_and ..) (Le.bind (ih.e h2 E) fun x => Le.bind (Le.of (rtruth_eq _ _).symm) fun t => Le.cond (ih.b h3 E) (Le.refl _))
      | Or => exact Le.eqs (r_or ..) (eB_or ..) (Le.bind (ih.e h2 E) fun x => Le.bind (Le.of (rtruth_eq _ _).symm) fun t => Le.cond (Le.refl _) (ih.b h3 E))
theorem sim_c {c : RC} {ops : List CmpOp} {es : List Expr} {a : V} (h : mC K (n + 1) sc c ops es = true) : Le (revC C a c ρ' H) (evC D (n + 1) sc a ops es ρ H) := by
  cases ops with
  | nil => exact ff0 h
  | cons op' ops =>
    cases es with
    | nil => exact ff0 h
    | cons e es =>
      cases c with
      | one op r => exact an4 h fun h1 h2 h3 h4 => eq_of_beq h1 ▸ nil_of h2 ▸ nil_of h3 ▸ Le.eqs (r_one ..) (eC_one ..) (Le.bind (ih.i h4 E) fun y => Le.refl _)
      | more op r cs =>
        refine an5 h fun h1 h2 h3 h4 h5 => ?_
        cases ops with
        | nil => exact ff0 h2
        | cons o2 ops =>
        cases es with
        | nil => exact ff0 h3
        | cons e2 es => exact eq_of_beq h1 ▸ Le.eqs (r_more ..) (eC_more ..) (Le.bind (ih.i h4 E) fun y => Le.bind (Le.refl _) fun c => Le.cond (ih.c h5 E) (Le.refl _))
theorem sim_t {r : RE} {e : Expr} (h : mT K (n + 1) sc r e = true) : Le (tst (rev C r ρ' H)) (evT D (n + 1) sc e ρ H) := by
  cases r
  case tnot a => exact via h fun d e1 h => (dUn_ok e1).elim fun p q => an2 h fun h1 h => q ▸ isNot_ok h1 ▸ Le.eqs ((congrArg tst (r_tnot a)).trans (tst_not _)) (eT_not ..) (Le.map _ (ih.t h E))
  case bop o a b => exact via h fun d e1 h => (dBop_ok e1).elim fun p q => q ▸ ih.ts h E
  case ite t a b => exact via h fun d e1 h => (dIte_ok e1).elim fun p q => an3 h fun h1 h2 h3 => q ▸ Le.eqs ((congrArg tst (r_iteC t a b)).trans (bind_tst _ _)) (eT_ite ..) (Le.bind (ih.t h1 E) fun x => by
    cases x.1
    · exact ih.t h3 E
    · exact ih.t h2 E)
  case cmp a cs => exact via h fun d e1 h => (dCmp_ok e1).elim fun p q => an2 h fun h1 h2 => q ▸ Le.eqs ((congrArg tst (r_cmp a cs)).trans (tst_bool _ _)) (eT_cmp ..) (Le.bind (ih.i h1 E) fun x => ih.c h2 E)
  all_goals exact an2 h fun h1 h => Le.eqs rfl (eT_pl h1) (rtruth_le (ih.e h E))
theorem sim_ts {op : BoolOp} {r : RE} {es : List Expr} (h : mTs K (n + 1) sc op r es = true) : Le (tst (rev C r ρ' H)) (evTs D (n + 1) sc op es ρ H) := by
  cases es with
  | nil => exact ff0 h
  | cons e es =>
    cases es with
    | nil =>
      refine an2 h fun h1 h2 => fun y q => ?_
      cases n with
      | zero => exact ff0 h1
      | succ m =>
        have q := ih.t h2 E y q
        obtain ⟨b, H1⟩ := y
        cases op with
        | And => rw [eTs_and, q]; cases b <;> rfl
        | Or => rw [eTs_or, q]; cases b <;> rfl
    | cons e2 es =>
      cases r <;> first | exact ff0 h | skip
      refine an3 h fun h1 h2 h3 => eq_of_beq h1 ▸ ?_
      cases op with
      | And => exact Le.eqs (tr_and ..) (eTs_and ..) (Le.bind (ih.t h2 E) fun x => Le.cond (ih.ts h3 E) (Le.refl _))
      | Or => exact Le.eqs (tr_or ..) (eTs_or ..) (Le.bind (ih.t h2 E) fun x => Le.cond (Le.refl _) (ih.ts h3 E))
end
end
theorem Sim.next (k : CkOk K) (cx : CxR K C D) {n : Nat} (ih : Sim K C D n) : Sim K C D (n + 1) :=
  ⟨fun h E => sim_e ih E k cx h, fun h E => sim_i ih E h, fun h E => sim_es ih E h, fun h E => sim_o ih E h, fun h E => sim_cnd ih E h, fun h E => sim_b ih E h, fun h E => sim_c ih E h, fun h E => sim_t ih E h, fun h E => sim_ts ih E h⟩
theorem sim (k : CkOk K) (cx : CxR K C D) : ∀ n, Sim K C D n
  | 0 => .zero
  | n + 1 => Sim.next k cx (sim k cx n)
end
end Mine.R
end
section
open PySem
namespace Mine.R
/-- what the one gives, the other gives up to R -/
noncomputable def LeX {A B : Type} (R : A → B → Prop) (o : Option A) (o' : Option B) : Prop := ∀ a, o = some a → ∃ b, o' = some b ∧ R a b
section
variable {A B A' B' α : Type} {R : A → B → Prop} {S : A' → B' → Prop}
theorem LeX.none {o' : Option B} : LeX R Option.none o' := fun _ h => nos h
theorem LeX.some {a : A} {b : B} (h : R a b) : LeX R (Option.some a) (Option.some b) := fun _ e => ⟨b, rfl, Option.some.inj e ▸ h⟩
theorem LeX.bind {o : Option A} {o' : Option B} {f : A → Option A'} {g : B → Option B'} (h : LeX R o o') (k : ∀ a b, R a b → LeX S (f a) (g b)) : LeX S (o.bind f) (o'.bind g) := fun x q =>
  bndE q fun a e q => (h a e).elim fun b z => (k a b z.2 x q).elim fun y w => ⟨y, by rw [z.1]; exact w.1, w.2⟩
theorem LeX.bindL {o o' : Option α} {f : α → Option A'} {g : α → Option B'} (h : Le o o') (k : ∀ a, LeX S (f a) (g a)) : LeX S (o.bind f) (o'.bind g) := fun x q =>
  bndE q fun a e q => (k a x q).elim fun y w => ⟨y, by rw [h a e]; exact w.1, w.2⟩
theorem LeX.cond {b : Bool} {o p : Option A} {o' p' : Option B} (h1 : LeX R o o') (h2 : LeX R p p') : LeX R (bif b then o else p) (bif b then o' else p') := by
  cases b
  · exact h2
  · exact h1
theorem LeX.eqs {o p : Option A} {o' p' : Option B} (h1 : o = p) (h2 : o' = p') (k : LeX R p p') : LeX R o o' := by rw [h1, h2]; exact k
theorem LeX.chk {b : Bool} {o : Option A} {o' : Option B} (k : LeX R o o') : LeX R (chk b o) (chk b o') := by
  cases b
  · exact .none
  · exact k
end
section
variable {K : Ck} {C : RCx} {D : Cx}
noncomputable def RT2 (K : Ck) (a : Env × Hp) (b : Loc × Hp) : Prop := EnvR K a.1 b.1 ∧ a.2 = b.2
noncomputable def RS2 (K : Ck) (a : Fl × Env × Hp) (b : Fl × Loc × Hp) : Prop := a.1 = b.1 ∧ RT2 K a.2 b.2
theorem contK_le {f : Env → Hp → Option (Fl × Env × Hp)} {g : Loc → Hp → Option (Fl × Loc × Hp)} (k : ∀ ρ' ρ H, EnvR K ρ' ρ → LeX (RS2 K) (f ρ' H) (g ρ H)) (a : Fl × Env × Hp) (b : Fl × Loc × Hp) (h : RS2 K a b) : LeX (RS2 K) (contK f a) (contK g b) := by
  obtain ⟨fl, ρ', H⟩ := a
  obtain ⟨fl2, ρ, H2⟩ := b
  obtain ⟨rfl, E, rfl⟩ := h
  cases fl with
  | next => exact k _ _ _ E
  | ret v => exact .some ⟨rfl, E, rfl⟩
section
variable {ρ' : Env} {ρ : Loc} (E : EnvR K ρ' ρ)
include E
theorem attT_le {x : Str} {v : V} {o o' : Option (V × Hp)} (h : Le o o') : LeX (RT2 K) (attT x v ρ' o) (attT x v ρ o') :=
  .bindL h fun _ => .bindL (.refl _) fun _ => .bindL (.refl _) fun _ => .cond .none (.some ⟨E, rfl⟩)
theorem idxT_le {v : V} {o o' : Option (V × Hp)} {f f' : Hp → Option (V × Hp)} (h : Le o o') (k : ∀ H, Le (f H) (f' H)) : LeX (RT2 K) (idxT v ρ' o f) (idxT v ρ o' f') :=
  .bindL h fun _ => .bindL (.refl _) fun _ => .bindL (k _) fun _ => .bindL (.refl _) fun _ => .bindL (.refl _) fun _ => .chk (.some ⟨E, rfl⟩)
theorem augAK_le {x : Str} {o o' : Option (V × Hp)} {g g' : Hp → Option (V × Hp)} (h : Le o o') (k : ∀ H, Le (g H) (g' H)) : LeX (RS2 K) (augAK x ρ' o g) (augAK x ρ o' g') :=
  .bindL h fun _ => .bindL (.refl _) fun _ => .bindL (.refl _) fun _ => .bindL (.refl _) fun _ => .bindL (.refl _) fun _ => .bindL (k _) fun _ => .bindL (.refl _) fun _ => .bindL (.refl _) fun _ => .cond .none (.some ⟨rfl, E, rfl⟩)
end
theorem map_bind {α β : Type} (o : Option α) (f : α → β) : o.map f = o.bind fun a => some (f a) := by cases o <;> rfl
theorem augK_le {g : Int → Env} {g' : Int → Loc} (k : ∀ i, EnvR K (g i) (g' i)) {a a' : Option V} {o o' : Option (V × Hp)} (h1 : Le a a') (h2 : Le o o') : LeX (RS2 K) (augK g a o) (augK g' a' o') :=
  .bindL h1 fun _ => .bindL (.refl _) fun _ => .bindL h2 fun _ => .eqs (map_bind ..) (map_bind ..) (.bindL (.refl _) fun _ => .some ⟨rfl, k _, rfl⟩)
theorem rtgts_cons (C : RCx) (t : RT1) (ts : List RT1) (v : V) (vs : List V) (ρ : Env) (H : Hp) : rtgts C (t :: ts) (v :: vs) ρ H = (rtgt C t v ρ H).bind fun y => rtgts C ts vs y.1 y.2 := by kernel_rfl
section
variable (k : CkOk K) (cx : CxR K C D) {n : Nat} {sc : Scope}
include k cx
theorem tgt_ok {t : RT1} {e : Expr} {ρ' : Env} {ρ : Loc} {H : Hp} {v : V} (h : mTg K n sc t e = true) (E : EnvR K ρ' ρ) : LeX (RT2 K) (rtgt C t v ρ' H) (tgt D n sc e v ρ H) := by
  have ih := sim (C := C) k cx n
  cases t with
  | name i =>
    exact via h fun x e1 h => (dName_ok e1).elim fun p q => an2 h fun h1 h2 => by
      obtain ⟨hi, rfl⟩ := nmOk_ok h2
      exact q ▸ .eqs rfl (chk_true h1) (.some ⟨E.up k v hi, rfl⟩)
  | att o a =>
    exact via h fun d e1 h => (dAtt_ok e1).elim fun p q => an3 h fun h1 h2 h3 => by
      obtain ⟨hi, e2⟩ := nmOk_ok h2
      subst q
      exact .eqs (congrArg (fun x => attT x v ρ' (rev C o ρ' H)) ((congrFun cx.nm a).trans e2.symm)) (chk_true (cx.attr ▸ h1)) (attT_le E (ih.e h3 E))
  | idx o i => exact via h fun d e1 h => (dSub_ok e1).elim fun p q => an2 h fun h1 h2 => q ▸ idxT_le E (ih.e h1 E) fun H => ih.e h2 E
theorem tgts_ok {ts : List RT1} : ∀ {es : List Expr} {ρ' : Env} {ρ : Loc} {H : Hp} {vs : List V}, mTgs K n sc ts es = true → EnvR K ρ' ρ → LeX (RT2 K) (rtgts C ts vs ρ' H) (tgts D n sc es vs ρ H) := by
  induction ts with
  | nil =>
    intro es ρ' ρ H vs h E
    cases es with
    | cons => exact ff0 h
    | nil => cases vs with
      | nil => exact .some ⟨E, rfl⟩
      | cons => exact .none
  | cons t ts ih =>
    intro es ρ' ρ H vs h E
    cases es with
    | nil => exact ff0 h
    | cons e es => cases vs with
      | nil => exact .none
      | cons v vs => exact an2 h fun h1 h2 => .eqs (rtgts_cons ..) (tgts_cons ..) (.bind (tgt_ok k cx h1 E) fun a b r => r.2 ▸ ih h2 r.1)
theorem tgtA_ok {t : RT} {e : Expr} {ρ' : Env} {ρ : Loc} {H : Hp} {v : V} (h : mTA K n sc t e = true) (E : EnvR K ρ' ρ) : LeX (RT2 K) (rtgtA C t v ρ' H) (tgtAny D n sc e v ρ H) := by
  unfold mTA at h
  unfold tgtAny
  cases hd : dTup e with
  | some es =>
    rw [hd] at h
    cases t with
    | one t => exact ff0 h
    | tup ts => cases v <;> first | exact .none | exact tgts_ok k cx h E
  | none =>
    rw [hd] at h
    cases t with
    | tup ts => exact ff0 h
    | one t => exact tgt_ok k cx h E
end
theorem rwhileF_s (t : Env → Hp → Option (Bool × Hp)) (b : Env → Hp → Option (Fl × Env × Hp)) (m : Nat) (ρ : Env) (H : Hp) : rwhileF t b (m + 1) ρ H = (t ρ H).bind fun x => bif x.1 then (b ρ x.2).bind (contK (rwhileF t b m)) else some (.next, ρ, x.2) := by kernel_rfl
theorem rforF_c (f : V → Env → Hp → Option (Fl × Env × Hp)) (v : V) (vs : List V) (ρ : Env) (H : Hp) : rforF f (v :: vs) ρ H = (f v ρ H).bind (contK (rforF f vs)) := by kernel_rfl
theorem whileF_ok {tr : Env → Hp → Option (Bool × Hp)} {br : Env → Hp → Option (Fl × Env × Hp)} {td : Loc → Hp → Option (Bool × Hp)} {bd : Loc → Hp → Option (Fl × Loc × Hp)}
    (ht : ∀ ρ' ρ H, EnvR K ρ' ρ → Le (tr ρ' H) (td ρ H)) (hb : ∀ ρ' ρ H, EnvR K ρ' ρ → LeX (RS2 K) (br ρ' H) (bd ρ H)) (w : Nat) : ∀ (ρ' : Env) (ρ : Loc) (H : Hp), EnvR K ρ' ρ → LeX (RS2 K) (rwhileF tr br w ρ' H) (whileF td bd w ρ H) := by
  induction w with
  | zero => exact fun _ _ _ _ => .none
  | succ w ih => exact fun ρ' ρ H E => .eqs (rwhileF_s ..) (whileF_s ..) (.bindL (ht _ _ _ E) fun x => .cond (.bind (hb _ _ _ E) (contK_le ih)) (.some ⟨rfl, E, rfl⟩))
theorem forF_ok {br : V → Env → Hp → Option (Fl × Env × Hp)} {bd : V → Loc → Hp → Option (Fl × Loc × Hp)} (hb : ∀ v ρ' ρ H, EnvR K ρ' ρ → LeX (RS2 K) (br v ρ' H) (bd v ρ H)) (vs : List V) : ∀ (ρ' : Env) (ρ : Loc) (H : Hp), EnvR K ρ' ρ → LeX (RS2 K) (rforF br vs ρ' H) (forF bd vs ρ H) := by
  induction vs with
  | nil => exact fun _ _ _ E => .some ⟨rfl, E, rfl⟩
  | cons v vs ih => exact fun ρ' ρ H E => .eqs (rforF_c ..) (forF_c ..) (.bind (hb _ _ _ _ E) (contK_le ih))

structure SimS (K : Ck) (C : RCx) (D : Cx) (n : Nat) : Prop where
  s : ∀ {sc r st ρ' ρ H}, mS K n sc r st = true → EnvR K ρ' ρ → LeX (RS2 K) (rex C r ρ' H) (ex D n sc st ρ H)
  ss : ∀ {sc r st ρ' ρ H}, mSs K n sc r st = true → EnvR K ρ' ρ → LeX (RS2 K) (rexs C r ρ' H) (exs D n sc st ρ H)
section
variable {ρ' : Env} {H : Hp}
theorem rx_expr (e : RE) : rex C (.expr e) ρ' H = (rev C e ρ' H).bind fun x => some (.next, ρ', x.2) := by kernel_rfl
theorem rx_ret (e : RE) : rex C (.ret e) ρ' H = (rev C e ρ' H).bind fun x => some (.ret x.1, ρ', x.2) := by kernel_rfl
theorem rx_asg (t : RT) (e : RE) : rex C (.asg t e) ρ' H = (rev C e ρ' H).bind fun x => (rtgtA C t x.1 ρ' x.2).bind fun y => some (.next, y.1, y.2) := by kernel_rfl
theorem rx_if (t : RE) (a b : RSs) : rex C (.ite t a b) ρ' H = (tst (rev C t ρ' H)).bind fun x => bif x.1 then rexs C a ρ' x.2 else rexs C b ρ' x.2 := by rw [tst_bind]; kernel_rfl
theorem tst_2 (o : Option (V × Hp)) : (o.bind fun x => (rtruth x.1).bind fun b => some (b, x.2)) = tst o := by
  unfold tst
  refine congrArg _ (funext fun x => ?_)
  cases rtruth x.1 <;> rfl
theorem rx_while (t : RE) (b : RSs) : rex C (.whl t b) ρ' H = rwhileF (fun ρ H => tst (rev C t ρ H)) (fun ρ H => rexs C b ρ H) W ρ' H := by
  rw [show (fun ρ H => tst (rev C t ρ H)) = fun ρ H => (rev C t ρ H).bind fun x => (rtruth x.1).bind fun b => some (b, x.2) from funext fun ρ => funext fun H => (tst_2 _).symm]
  kernel_rfl
theorem rx_for (t : RT) (it : RE) (b : RSs) : rex C (.for_ t it b) ρ' H = (rev C it ρ' H).bind fun x => (iter x.1).bind fun vs => rforF (fun v ρ H => (rtgtA C t v ρ H).bind fun y => rexs C b y.1 y.2) vs ρ' x.2 := by kernel_rfl
theorem rxs_cons (s : RS) (r : RSs) : rexs C (.cons s r) ρ' H = (rex C s ρ' H).bind (contK (rexs C r)) := by kernel_rfl
end
section
variable (k : CkOk K) (cx : CxR K C D) {n : Nat} (ih : SimS K C D n) {sc : Scope} {ρ' : Env} {ρ : Loc} {H : Hp} (E : EnvR K ρ' ρ)
theorem addOk {op : Operator} (h : (match op with | .Add => true | _ => false) = true) : op = .Add := by
  cases op <;> first | rfl | exact ff0 h
include k cx ih E
omit ih in
theorem simS_aug {r : RS} {t' e' : Expr} {p : Pos} (h : mS K (n + 1) sc r (.AugAssign t' .Add e' p) = true) : LeX (RS2 K) (rex C r ρ' H) (ex D (n + 1) sc (.AugAssign t' .Add e' p) ρ H) := by
  have je := sim (C := C) k cx n
  cases r <;> first | exact ff0 h | skip
  · exact via h fun x e1 h => (dName_ok e1).elim fun q e2 => an3 h fun h2 h3 h4 => by
      obtain ⟨hi, rfl⟩ := nmOk_ok h3
      exact e2 ▸ .eqs rfl ((x_augN ..).trans (chk_true h2)) (augK_le (fun i => E.up k _ hi) (fun v q => E.look _ v hi q) (je.e h4 E))
  · rename_i o a e
    exact via h fun d e1 h => (dAtt_ok e1).elim fun q e2 => an4 h fun h2 h3 h4 h5 => by
      obtain ⟨hi, e3⟩ := nmOk_ok h3
      subst e2
      exact .eqs (congrArg (fun x => augAK x ρ' (rev C o ρ' H) (rev C e ρ')) ((congrFun cx.nm a).trans e3.symm)) ((x_augA ..).trans (chk_true (cx.attr ▸ h2))) (augAK_le E (je.e h4 E) fun H => je.e h5 E)
theorem simS_s {r : RS} {st : Stmt} (h : mS K (n + 1) sc r st = true) : LeX (RS2 K) (rex C r ρ' H) (ex D (n + 1) sc st ρ H) := by
  have je := sim (C := C) k cx n
  cases st <;> first | exact ff0 h | skip
  case Expr e' p =>
    refine an2 h fun h1 h => ?_
    cases r <;> first | exact ff0 h | skip
    rename_i e _
    obtain ⟨d, h1⟩ := Option.isSome_iff_exists.mp h1
    have h : mE K n sc e e' = true := h
    rw [dCall_ok h1] at h ⊢
    exact .eqs (rx_expr ..) (x_expr ..) (.bindL (je.e h E) fun _ => .some ⟨rfl, E, rfl⟩)
  case Return e' p =>
    cases r <;> first | exact ff0 h | skip
    rename_i e
    cases e' with
    | some e' => exact .eqs (rx_ret ..) (x_ret ..) (.bindL (je.e h E) fun _ => .some ⟨rfl, E, rfl⟩)
    | none =>
      cases e <;> first | exact ff0 h | skip
      rename_i v
      cases v <;> first | exact ff0 h | skip
      exact .some ⟨rfl, E, rfl⟩
  case Assign ts e' p =>
    cases r <;> first | exact ff0 h | skip
    refine via h fun t' e1 h => an3 h fun h1 h2 h3 => ?_
    rw [dOne_ok e1]
    exact .eqs (rx_asg ..) ((x_asg ..).trans (chk_true h1)) (.bindL (je.e h2 E) fun _ => .bind (tgtA_ok k cx h3 E) fun _ _ r => .some ⟨rfl, r.1, r.2⟩)
  case AugAssign t' op e' p =>
    have e := addOk (and2 h).1
    subst e
    exact simS_aug k cx E h
  case If t' a' b' p =>
    cases r <;> first | exact ff0 h | skip
    exact an3 h fun h1 h2 h3 => .eqs (rx_if ..) (x_if ..) (.bindL (je.t h1 E) fun _ => .cond (ih.ss h2 E) (ih.ss h3 E))
  case While t' b' el p =>
    refine an2 h fun h1 h => ?_
    cases r <;> first | exact ff0 h | skip
    exact an2 h fun h2 h3 => nil_of h1 ▸ .eqs (rx_while ..) (x_while ..) (by
      refine whileF_ok ?_ ?_ _ _ _ _ E
      · exact fun _ _ _ E => je.t h2 E
      · exact fun _ _ _ E => ih.ss h3 E)
  case For t' it' b' el p =>
    refine an2 h fun h1 h => ?_
    cases r <;> first | exact ff0 h | skip
    exact an3 h fun h2 h3 h4 => nil_of h1 ▸ .eqs (rx_for ..) (x_for ..) (.bindL (je.e h2 E) fun _ => .bindL (.refl _) fun _ => by
      refine forF_ok ?_ _ _ _ _ E
      exact fun v ρ' ρ H E => .bind (tgtA_ok k cx h3 E) fun a b r => by rw [r.2]; exact ih.ss h4 r.1)
omit k cx in
theorem simS_ss {r : RSs} {st : List Stmt} (h : mSs K (n + 1) sc r st = true) : LeX (RS2 K) (rexs C r ρ' H) (exs D (n + 1) sc st ρ H) := by
  cases r with
  | nil => rw [nil_of h]; exact .some ⟨rfl, E, rfl⟩
  | cons s ss =>
    cases st with
    | nil => exact ff0 h
    | cons t ts => exact an2 h fun h1 h2 => .eqs (rxs_cons ..) (xs_cons ..) (.bind (ih.s h1 E) (contK_le fun _ _ _ E => ih.ss h2 E))
end
theorem simS (k : CkOk K) (cx : CxR K C D) : ∀ n, SimS K C D n
  | 0 => ⟨fun h _ => ff0 h, fun h _ => ff0 h⟩
  | n + 1 => ⟨fun h E => simS_s k cx (simS k cx n) E h, fun h E => simS_ss (simS k cx n) E h⟩

noncomputable def ER (K : Ck) (a : Env) (b : Loc) : Prop := EnvR K a b
theorem rbindP_c (x : Nat) (xs : List Nat) (v : V) (vs : List V) : rbindP (x :: xs) (v :: vs) = (rbindP xs vs).bind fun r => some ((x, v) :: r) := by kernel_rfl
theorem bindP_ok (k : CkOk K) {is : List Nat} : ∀ {xs : List Str} {vs : List V}, nmsOk K is xs = true → LeX (ER K) (rbindP is vs) (bindP xs vs) := by
  induction is with
  | nil =>
    intro xs vs h
    cases xs with
    | cons => exact ff0 h
    | nil => cases vs with
      | nil => exact .some ⟨fun _ h => (nomatch h), fun _ _ _ h => nos h, rfl⟩
      | cons => exact .none
  | cons i is ih =>
    intro xs vs h
    cases xs with
    | nil => exact ff0 h
    | cons x xs => cases vs with
      | nil => exact .none
      | cons v vs =>
        exact an2 h fun h1 h2 => by
          obtain ⟨hi, rfl⟩ := nmOk_ok h1
          exact .eqs (rbindP_c ..) ((bindP_c ..).trans (map_bind ..)) (.bind (ih h2) fun _ _ E => .some (EnvR.cons k E v hi))
theorem rrun_b (d : RFD) (args : List V) (H : Hp) : rrun C d args H = (rbindP d.params args).bind fun ρ => (rexs C d.body ρ H).bind retK := by kernel_rfl
theorem LeX.le {α : Type} {o o' : Option α} (h : LeX Eq o o') : Le o o' := fun x q => (h x q).elim fun b z => z.2 ▸ z.1
theorem retK_le (a : Fl × Env × Hp) (b : Fl × Loc × Hp) (h : RS2 K a b) : LeX Eq (retK a) (retK b) := by
  obtain ⟨fl, ρ', H⟩ := a
  obtain ⟨fl2, ρ, H2⟩ := b
  obtain ⟨rfl, E, rfl⟩ := h
  cases fl <;> exact .some rfl
theorem run_sim (k : CkOk K) (cx : CxR K C D) {d : RFD} {fd : FD} (h : mFD K d fd = true) (vs : List V) (H : Hp) : Le (rrun C d vs H) (runD D fd vs H) :=
  an2 h fun h1 h2 => LeX.le (.eqs (rrun_b ..) (runD_b ..) (.bind (bindP_ok k h1) fun _ _ E => .bind ((simS (C := C) k cx FU).ss h2 E) retK_le))

structure PgR (K : Ck) (R : RPg) : Prop where
  nm : R.nm = K.nm
  glb : R.glb = K.glb
  defs : ∀ m f d, R.defs m f = some d → ∃ fd, K.P.defs m (K.nm f) = some fd ∧ mFD K d fd = true
  cls : R.cls < K.lim
  ini : K.nm R.ini = N "__init__"
  clsT : K.P.cls (K.nm R.cls) = true
  clsF : ∀ f, f < K.lim → f ≠ R.cls → K.P.cls (K.nm f) = false
theorem rF_b (P : RPg) (k : Nat) (m : Bool) (f : Nat) (args : List V) (H : Hp) : rF P (k + 1) m f args H = bif !m && (f == P.cls) then (P.defs true P.ini).bind fun d => newK H (rrun ⟨P.glb, P.nm, rF P k⟩ d (.obj H.length :: args) (H ++ [.inst []]))
    else (P.defs m f).bind fun d => bif vpures args then (rrun ⟨P.glb, P.nm, rF P k⟩ d args []).bind fun y => (frz y.2 100 y.1).bind fun v => some (v, H) else rrun ⟨P.glb, P.nm, rF P k⟩ d args H := by kernel_rfl
theorem defs_le {R : RPg} (p : PgR K R) {m : Bool} {f : Nat} {x : Str} (e : K.nm f = x) {F : RFD → Option (V × Hp)} {G : FD → Option (V × Hp)} (h : ∀ d fd, mFD K d fd = true → Le (F d) (G fd)) : Le ((R.defs m f).bind F) ((K.P.defs m x).bind G) := fun r q =>
  bndE q fun d e1 q => (p.defs _ _ _ e1).elim fun fd z => by rw [← e, z.1]; exact h d fd z.2 r q
theorem rF_ok (k : CkOk K) {R : RPg} (p : PgR K R) (n : Nat) : ∀ {m : Bool} {f : Nat} {vs : List V} {H : Hp}, f < K.lim → Le (rF R n m f vs H) (callF K.P n m (K.nm f) vs H) := by
  induction n with
  | zero => exact fun _ => Le.none
  | succ n ih =>
    intro m f vs H hf
    have cx : CxR K ⟨R.glb, R.nm, rF R n⟩ ⟨K.P.glob, K.P.blt, K.P.cls, K.P.attr, callF K.P n⟩ := ⟨p.nm, p.glb, rfl, rfl, rfl, fun m f vs H r q hf => ih hf r q⟩
    have hc : K.P.cls (K.nm f) = (f == R.cls) := by
      by_cases e : f = R.cls
      · rw [e, beq_self]; exact p.clsT
      · rw [beq_ne e]; exact p.clsF f hf e
    refine Le.eqs (rF_b ..) (callF_b ..) ?_
    rw [hc]
    exact Le.cond (defs_le p p.ini fun d fd h => Le.app _ rfl (run_sim k cx h _ _)) (defs_le p rfl fun d fd h => Le.cond (Le.bind (run_sim k cx h _ _) fun y => Le.of (map_bind ..).symm) (run_sim k cx h _ _))
end
end Mine.R
end
section
open PySem
namespace Mine
noncomputable def wb_width_0 : RSs := (.cons
  (.asg (.one (.name 113)) (.bin .RShift (.loc 113) (.val (.int 64))))
  (.cons
  (.asg (.one (.name 114)) (.bin .Add (.loc 114) (.val (.int 64))))
  .nil))
noncomputable def w_width_1 : RS := (.whl (.cmp (.loc 113) (.one .GtE (.bin .LShift (.val (.int 1)) (.val (.int 64))))) wb_width_0)
noncomputable def fb_width_2 : RSs := (.cons
  (.ite (.cmp (.loc 113) (.one .GtE (.bin .LShift (.val (.int 1)) (.loc 115)))) (.cons
  (.asg (.one (.name 113)) (.bin .RShift (.loc 113) (.loc 115)))
  (.cons
  (.asg (.one (.name 114)) (.bin .Add (.loc 114) (.loc 115)))
  .nil)) .nil)
  .nil)
noncomputable def f_width_3 : RS := (.for_ (.one (.name 115)) (.tup (.cons (.val (.int 32)) (.cons (.val (.int 16)) (.cons (.val (.int 8)) (.cons (.val (.int 4)) (.cons (.val (.int 2)) (.cons (.val (.int 1)) .nil))))))) fb_width_2)
noncomputable def b_width : RSs := (.cons
  (.asg (.one (.name 114)) (.val (.int 0)))
  (.cons
  w_width_1
  (.cons
  f_width_3
  (.cons
  (.ret (.bin .Add (.loc 114) (.loc 113)))
  .nil))))
noncomputable def d_width : RFD := ⟨[113], b_width⟩
noncomputable def b_pack : RSs := (.cons
  (.ret (.bin .BitOr (.bin .BitOr (.bin .LShift (.loc 116) (.val (.int 63))) (.bin .LShift (.loc 117) (.glb 80))) (.loc 118)))
  .nil)
noncomputable def d_pack : RFD := ⟨[116, 117, 118], b_pack⟩
noncomputable def b_is_negative : RSs := (.cons
  (.ret (.cmp (.bin .RShift (.loc 119) (.val (.int 63))) (.one .Eq (.val (.int 1)))))
  .nil)
noncomputable def d_is_negative : RFD := ⟨[119], b_is_negative⟩
noncomputable def b_is_nan : RSs := (.cons
  (.ret (.cmp (.bin .BitAnd (.loc 119) (.bin .Sub (.glb 79) (.val (.int 1)))) (.one .Gt (.glb 88))))
  .nil)
noncomputable def d_is_nan : RFD := ⟨[119], b_is_nan⟩
noncomputable def b_is_inf : RSs := (.cons
  (.ret (.cmp (.bin .BitAnd (.loc 119) (.bin .Sub (.glb 79) (.val (.int 1)))) (.one .Eq (.glb 88))))
  .nil)
noncomputable def d_is_inf : RFD := ⟨[119], b_is_inf⟩
noncomputable def b_is_finite : RSs := (.cons
  (.ret (.cmp (.bin .BitAnd (.loc 119) (.bin .Sub (.glb 79) (.val (.int 1)))) (.one .Lt (.glb 88))))
  .nil)
noncomputable def d_is_finite : RFD := ⟨[119], b_is_finite⟩
noncomputable def b_is_zero : RSs := (.cons
  (.ret (.cmp (.bin .BitAnd (.loc 119) (.bin .Sub (.glb 79) (.val (.int 1)))) (.one .Eq (.val (.int 0)))))
  .nil)
noncomputable def d_is_zero : RFD := ⟨[119], b_is_zero⟩
noncomputable def b_signed : RSs := (.cons
  (.ret (.bin .BitOr (.bin .BitAnd (.loc 119) (.bin .Sub (.glb 79) (.val (.int 1)))) (.bin .LShift (.loc 116) (.val (.int 63)))))
  .nil)
noncomputable def d_signed : RFD := ⟨[116, 119], b_signed⟩
noncomputable def b_parts : RSs := (.cons
  (.asg (.tup [(.name 116), (.name 117), (.name 118)]) (.tup (.cons (.bin .RShift (.loc 119) (.val (.int 63))) (.cons (.bin .BitAnd (.bin .RShift (.loc 119) (.glb 80)) (.glb 83)) (.cons (.bin .BitAnd (.loc 119) (.glb 81)) .nil)))))
  (.cons
  (.ite (.cmp (.loc 117) (.one .Eq (.val (.int 0)))) (.cons
  (.ret (.tup (.cons (.loc 116) (.cons (.loc 118) (.cons (.glb 85) .nil)))))
  .nil) .nil)
  (.cons
  (.ret (.tup (.cons (.loc 116) (.cons (.bin .BitOr (.loc 118) (.glb 82)) (.cons (.bin .Sub (.loc 117) (.glb 84)) .nil)))))
  .nil)))
noncomputable def d_parts : RFD := ⟨[119], b_parts⟩
noncomputable def b_quotient : RSs := (.cons
  (.ite (.cmp (.loc 122) (.one .GtE (.val (.int 0)))) (.cons
  (.asg (.one (.name 121)) (.bin .LShift (.loc 121) (.loc 122)))
  .nil) (.cons
  (.asg (.one (.name 120)) (.bin .LShift (.loc 120) (.un .USub (.loc 122))))
  .nil))
  (.cons
  (.ret (.tup (.cons (.bin .FloorDiv (.loc 120) (.loc 121)) (.cons (.bin .Mod (.loc 120) (.loc 121)) (.cons (.loc 121) .nil)))))
  .nil))
noncomputable def d_quotient : RFD := ⟨[120, 121, 122], b_quotient⟩
noncomputable def b_round_ratio : RSs := (.cons
  (.ite (.cmp (.loc 120) (.one .Eq (.val (.int 0)))) (.cons
  (.ret (.bin .LShift (.loc 116) (.val (.int 63))))
  .nil) .nil)
  (.cons
  (.asg (.one (.name 122)) (.blt 4 (.cons (.bin .Sub (.bin .Sub (.fn 10 (.cons (.loc 120) .nil)) (.fn 10 (.cons (.loc 121) .nil))) (.val (.int 53))) (.cons (.glb 85) .nil))))
  (.cons
  (.asg (.tup [(.name 78), (.name 123), (.name 124)]) (.fn 19 (.cons (.loc 120) (.cons (.loc 121) (.cons (.loc 122) .nil)))))
  (.cons
  (.ite (.cmp (.loc 78) (.one .GtE (.bin .LShift (.glb 82) (.val (.int 1))))) (.cons
  (.asg (.one (.name 122)) (.bin .Add (.loc 122) (.val (.int 1))))
  (.cons
  (.asg (.tup [(.name 78), (.name 123), (.name 124)]) (.fn 19 (.cons (.loc 120) (.cons (.loc 121) (.cons (.loc 122) .nil)))))
  .nil)) .nil)
  (.cons
  (.ite (.bop true (.cmp (.bin .Mult (.val (.int 2)) (.loc 123)) (.one .Gt (.loc 124))) (.bop false (.cmp (.bin .Mult (.val (.int 2)) (.loc 123)) (.one .Eq (.loc 124))) (.cmp (.bin .Mod (.loc 78) (.val (.int 2))) (.one .Eq (.val (.int 1)))))) (.cons
  (.asg (.one (.name 78)) (.bin .Add (.loc 78) (.val (.int 1))))
  .nil) .nil)
  (.cons
  (.ret (.fn 21 (.cons (.loc 116) (.cons (.loc 78) (.cons (.loc 122) .nil)))))
  .nil))))))
noncomputable def d_round_ratio : RFD := ⟨[116, 120, 121], b_round_ratio⟩
noncomputable def b_assembled : RSs := (.cons
  (.ite (.cmp (.loc 78) (.one .Eq (.bin .LShift (.glb 82) (.val (.int 1))))) (.cons
  (.asg (.tup [(.name 78), (.name 122)]) (.tup (.cons (.glb 82) (.cons (.bin .Add (.loc 122) (.val (.int 1))) .nil))))
  .nil) .nil)
  (.cons
  (.ite (.cmp (.loc 78) (.one .Lt (.glb 82))) (.cons
  (.ret (.bin .BitOr (.bin .LShift (.loc 116) (.val (.int 63))) (.loc 78)))
  .nil) .nil)
  (.cons
  (.asg (.one (.name 117)) (.bin .Add (.loc 122) (.glb 84)))
  (.cons
  (.ite (.cmp (.loc 117) (.one .GtE (.glb 83))) (.cons
  (.ret (.fn 17 (.cons (.loc 116) (.cons (.glb 88) .nil))))
  .nil) .nil)
  (.cons
  (.ret (.fn 11 (.cons (.loc 116) (.cons (.loc 117) (.cons (.bin .Sub (.loc 78) (.glb 82)) .nil)))))
  .nil)))))
noncomputable def d_assembled : RFD := ⟨[116, 78, 122], b_assembled⟩
noncomputable def b_from_int : RSs := (.cons
  (.ret (.fn 20 (.cons (.ite (.cmp (.loc 113) (.one .Lt (.val (.int 0)))) (.val (.int 1)) (.val (.int 0))) (.cons (.blt 2 (.cons (.loc 113) .nil)) (.cons (.val (.int 1)) .nil)))))
  .nil)
noncomputable def d_from_int : RFD := ⟨[113], b_from_int⟩
noncomputable def b_scaled : RSs := (.cons
  (.asg (.one (.name 126)) (.bop false (.cmp (.loc 125) (.one .Eq (.glb 92))) (.cmp (.loc 122) (.one .Gt (.glb 91)))))
  (.cons
  (.asg (.one (.name 127)) (.ite (.loc 126) (.val (.int 4)) (.val (.int 2))))
  (.cons
  (.asg (.one (.name 128)) (.ite (.loc 126) (.val (.int 2)) (.val (.int 1))))
  (.cons
  (.ite (.cmp (.loc 122) (.one .GtE (.val (.int 0)))) (.cons
  (.ret (.tup (.cons (.bin .LShift (.bin .Mult (.loc 125) (.loc 127)) (.loc 122)) (.cons (.bin .LShift (.loc 128) (.loc 122)) (.cons (.bin .LShift (.val (.int 1)) (.loc 122)) (.cons (.loc 127) .nil))))))
  .nil) .nil)
  (.cons
  (.ret (.tup (.cons (.bin .Mult (.loc 125) (.loc 127)) (.cons (.loc 128) (.cons (.val (.int 1)) (.cons (.bin .LShift (.loc 127) (.bin .Sub (.val (.int 0)) (.loc 122))) .nil))))))
  .nil)))))
noncomputable def d_scaled : RFD := ⟨[125, 122], b_scaled⟩
noncomputable def b_decimal_place : RSs := (.cons
  (.asg (.one (.name 129)) (.bin .Sub (.blt 0 (.cons (.blt 1 (.cons (.loc 120) .nil)) .nil)) (.blt 0 (.cons (.blt 1 (.cons (.loc 121) .nil)) .nil))))
  (.cons
  (.ite (.bop false (.cmp (.loc 129) (.one .GtE (.val (.int 0)))) (.cmp (.loc 120) (.one .GtE (.bin .Mult (.loc 121) (.bin .Pow (.val (.int 10)) (.loc 129)))))) (.cons
  (.ret (.bin .Add (.loc 129) (.val (.int 1))))
  .nil) .nil)
  (.cons
  (.ret (.ite (.bop false (.cmp (.loc 129) (.one .Lt (.val (.int 0)))) (.cmp (.bin .Mult (.loc 120) (.bin .Pow (.val (.int 10)) (.bin .Sub (.val (.int 0)) (.loc 129)))) (.one .GtE (.loc 121)))) (.bin .Add (.loc 129) (.val (.int 1))) (.loc 129)))
  .nil)))
noncomputable def d_decimal_place : RFD := ⟨[120, 121], b_decimal_place⟩
noncomputable def b_first_place : RSs := (.cons
  (.asg (.one (.name 129)) (.fn 24 (.cons (.loc 130) (.cons (.loc 124) .nil))))
  (.cons
  (.asg (.one (.name 132)) (.bin .Add (.loc 130) (.loc 128)))
  (.cons
  (.ite (.cmp (.loc 129) (.one .GtE (.val (.int 0)))) (.cons
  (.asg (.one (.name 133)) (.bin .Mult (.loc 124) (.bin .Pow (.val (.int 10)) (.loc 129))))
  .nil) (.cons
  (.asg (.tup [(.name 132), (.name 133)]) (.tup (.cons (.bin .Mult (.loc 132) (.bin .Pow (.val (.int 10)) (.bin .Sub (.val (.int 0)) (.loc 129)))) (.cons (.loc 124) .nil))))
  .nil))
  (.cons
  (.ret (.ite (.bop true (.cmp (.loc 132) (.one .Gt (.loc 133))) (.bop false (.loc 131) (.cmp (.loc 132) (.one .Eq (.loc 133))))) (.bin .Add (.loc 129) (.val (.int 1))) (.loc 129)))
  .nil))))
noncomputable def d_first_place : RFD := ⟨[130, 128, 124, 131], b_first_place⟩
noncomputable def wb_shortest_0 : RSs := (.cons
  (.asg (.tup [(.name 130), (.name 128), (.name 134)]) (.tup (.cons (.bin .Mult (.loc 130) (.val (.int 10))) (.cons (.bin .Mult (.loc 128) (.val (.int 10))) (.cons (.bin .Mult (.loc 134) (.val (.int 10))) .nil)))))
  (.cons
  (.asg (.one (.name 136)) (.bin .FloorDiv (.loc 130) (.loc 124)))
  (.cons
  (.asg (.one (.name 130)) (.bin .Mod (.loc 130) (.loc 124)))
  (.cons
  (.asg (.one (.name 137)) (.bop true (.cmp (.loc 130) (.one .Lt (.loc 134))) (.bop false (.loc 131) (.cmp (.loc 130) (.one .Eq (.loc 134))))))
  (.cons
  (.asg (.one (.name 138)) (.bop true (.cmp (.bin .Add (.loc 130) (.loc 128)) (.one .Gt (.loc 124))) (.bop false (.loc 131) (.cmp (.bin .Add (.loc 130) (.loc 128)) (.one .Eq (.loc 124))))))
  (.cons
  (.ite (.bop true (.loc 137) (.loc 138)) (.cons
  (.expr (.meth (.loc 129) 4 (.cons (.blt 1 (.cons (.fn 27 (.cons (.loc 136) (.cons (.loc 130) (.cons (.loc 124) (.cons (.loc 137) (.cons (.loc 138) .nil)))))) .nil)) .nil)))
  (.cons
  (.ret (.tup (.cons (.meth (.val (.str [])) 0 (.cons (.loc 129) .nil)) (.cons (.loc 135) .nil))))
  .nil)) .nil)
  (.cons
  (.expr (.meth (.loc 129) 4 (.cons (.blt 1 (.cons (.loc 136) .nil)) .nil)))
  .nil)))))))
noncomputable def w_shortest_1 : RS := (.whl (.val (.bool true)) wb_shortest_0)
noncomputable def b_shortest : RSs := (.cons
  (.asg (.tup [(.name 116), (.name 125), (.name 122)]) (.fn 18 (.cons (.loc 119) .nil)))
  (.cons
  (.asg (.one (.name 131)) (.cmp (.bin .Mod (.loc 125) (.val (.int 2))) (.one .Eq (.val (.int 0)))))
  (.cons
  (.asg (.tup [(.name 130), (.name 128), (.name 134), (.name 124)]) (.fn 23 (.cons (.loc 125) (.cons (.loc 122) .nil))))
  (.cons
  (.asg (.one (.name 135)) (.fn 25 (.cons (.loc 130) (.cons (.loc 128) (.cons (.loc 124) (.cons (.loc 131) .nil))))))
  (.cons
  (.ite (.cmp (.loc 135) (.one .GtE (.val (.int 0)))) (.cons
  (.asg (.one (.name 124)) (.bin .Mult (.loc 124) (.bin .Pow (.val (.int 10)) (.loc 135))))
  .nil) (.cons
  (.asg (.one (.name 127)) (.bin .Pow (.val (.int 10)) (.bin .Sub (.val (.int 0)) (.loc 135))))
  (.cons
  (.asg (.tup [(.name 130), (.name 128), (.name 134)]) (.tup (.cons (.bin .Mult (.loc 130) (.loc 127)) (.cons (.bin .Mult (.loc 128) (.loc 127)) (.cons (.bin .Mult (.loc 134) (.loc 127)) .nil)))))
  .nil)))
  (.cons
  (.asg (.one (.name 129)) (.lst .nil))
  (.cons
  w_shortest_1
  .nil)))))))
noncomputable def d_shortest : RFD := ⟨[119], b_shortest⟩
noncomputable def b_last_figure : RSs := (.cons
  (.ite (.bop false (.loc 137) (.loc 138)) (.cons
  (.ite (.cmp (.bin .Mult (.val (.int 2)) (.loc 123)) (.one .Eq (.loc 124))) (.cons
  (.ret (.bin .Add (.loc 136) (.bin .Mod (.loc 136) (.val (.int 2)))))
  .nil) .nil)
  (.cons
  (.ret (.bin .Add (.loc 136) (.blt 3 (.cons (.cmp (.bin .Mult (.val (.int 2)) (.loc 123)) (.one .Gt (.loc 124))) .nil))))
  .nil)) .nil)
  (.cons
  (.ret (.bin .Add (.loc 136) (.blt 3 (.cons (.loc 138) .nil))))
  .nil))
noncomputable def d_last_figure : RFD := ⟨[136, 123, 124, 137, 138], b_last_figure⟩
noncomputable def b_signed_exponent : RSs := (.cons
  (.ret (.bin .Add (.bin .Add (.val (.str [101])) (.ite (.cmp (.loc 117) (.one .Lt (.val (.int 0)))) (.val (.str [45])) (.val (.str [43])))) (.blt 1 (.cons (.blt 2 (.cons (.loc 117) .nil)) .nil))))
  .nil)
noncomputable def d_signed_exponent : RFD := ⟨[117], b_signed_exponent⟩
noncomputable def b_with_exponent : RSs := (.cons
  (.asg (.one (.name 123)) (.ite (.cmp (.blt 0 (.cons (.loc 139) .nil)) (.one .Gt (.val (.int 1)))) (.bin .Add (.val (.str [46])) (.sli (.loc 139) (.yes (.val (.int 1))) .no)) (.val (.str []))))
  (.cons
  (.ret (.bin .Add (.bin .Add (.sli (.loc 139) .no (.yes (.val (.int 1)))) (.loc 123)) (.fn 28 (.cons (.loc 117) .nil))))
  .nil))
noncomputable def d_with_exponent : RFD := ⟨[139, 117], b_with_exponent⟩
noncomputable def b_laid_out : RSs := (.cons
  (.asg (.one (.name 140)) (.blt 0 (.cons (.loc 139) .nil)))
  (.cons
  (.ite (.cmp (.loc 140) (.more .LtE (.loc 135) (.one .LtE (.val (.int 21))))) (.cons
  (.ret (.bin .Add (.loc 139) (.bin .Mult (.val (.str [48])) (.bin .Sub (.loc 135) (.loc 140)))))
  .nil) .nil)
  (.cons
  (.ite (.cmp (.val (.int 0)) (.more .Lt (.loc 135) (.one .LtE (.val (.int 21))))) (.cons
  (.ret (.bin .Add (.bin .Add (.sli (.loc 139) .no (.yes (.loc 135))) (.val (.str [46]))) (.sli (.loc 139) (.yes (.loc 135)) .no)))
  .nil) .nil)
  (.cons
  (.ite (.cmp (.un .USub (.val (.int 6))) (.more .Lt (.loc 135) (.one .LtE (.val (.int 0))))) (.cons
  (.ret (.bin .Add (.bin .Add (.val (.str [48, 46])) (.bin .Mult (.val (.str [48])) (.bin .Sub (.val (.int 0)) (.loc 135)))) (.loc 139)))
  .nil) .nil)
  (.cons
  (.ret (.fn 29 (.cons (.loc 139) (.cons (.bin .Sub (.loc 135) (.val (.int 1))) .nil))))
  .nil)))))
noncomputable def d_laid_out : RFD := ⟨[139, 135], b_laid_out⟩
noncomputable def b_without_figures : RSs := (.cons
  (.ite (.fn 13 (.cons (.loc 119) .nil)) (.cons
  (.ret (.val (.str [78, 97, 78])))
  .nil) .nil)
  (.cons
  (.ite (.fn 14 (.cons (.loc 119) .nil)) (.cons
  (.ret (.ite (.fn 12 (.cons (.loc 119) .nil)) (.val (.str [45, 73, 110, 102, 105, 110, 105, 116, 121])) (.val (.str [73, 110, 102, 105, 110, 105, 116, 121]))))
  .nil) .nil)
  (.cons
  (.ret (.val .none))
  .nil)))
noncomputable def d_without_figures : RFD := ⟨[119], b_without_figures⟩
noncomputable def b_show : RSs := (.cons
  (.asg (.one (.name 141)) (.fn 31 (.cons (.loc 119) .nil)))
  (.cons
  (.ite (.cmp (.loc 141) (.one .IsNot (.val .none))) (.cons
  (.ret (.loc 141))
  .nil) .nil)
  (.cons
  (.ite (.fn 16 (.cons (.loc 119) .nil)) (.cons
  (.ret (.val (.str [48])))
  .nil) .nil)
  (.cons
  (.asg (.tup [(.name 139), (.name 135)]) (.fn 26 (.cons (.loc 119) .nil)))
  (.cons
  (.ret (.bin .Add (.ite (.fn 12 (.cons (.loc 119) .nil)) (.val (.str [45])) (.val (.str []))) (.fn 30 (.cons (.loc 139) (.cons (.loc 135) .nil)))))
  .nil)))))
noncomputable def d_show : RFD := ⟨[119], b_show⟩
noncomputable def b_json_quoted_sign : RSs := (.cons
  (.ite (.cmp (.loc 116) (.one .In (.glb 94))) (.cons
  (.ret (.idx (.glb 94) (.loc 116)))
  .nil) .nil)
  (.cons
  (.asg (.one (.name 124)) (.blt 5 (.cons (.loc 116) .nil)))
  (.cons
  (.ite (.cmp (.loc 124) (.one .GtE (.val (.int 32)))) (.cons
  (.ret (.loc 116))
  .nil) .nil)
  (.cons
  (.ret (.bin .Add (.bin .Add (.val (.str [92, 117, 48, 48])) (.idx (.glb 93) (.bin .RShift (.loc 124) (.val (.int 4))))) (.idx (.glb 93) (.bin .BitAnd (.loc 124) (.val (.int 15))))))
  .nil))))
noncomputable def d_json_quoted_sign : RFD := ⟨[116], b_json_quoted_sign⟩
noncomputable def c_json_quoted_0 : RE := (.comp (.fn 33 (.cons (.loc 116) .nil)) [116] (.loc 6) (.val (.bool true)))
noncomputable def b_json_quoted : RSs := (.cons
  (.ret (.bin .Add (.bin .Add (.val (.str [34])) (.meth (.val (.str [])) 0 (.cons c_json_quoted_0 .nil))) (.val (.str [34]))))
  .nil)
noncomputable def d_json_quoted : RFD := ⟨[6], b_json_quoted⟩
noncomputable def b_json_number_text : RSs := (.cons
  (.ret (.ite (.fn 15 (.cons (.loc 119) .nil)) (.fn 32 (.cons (.loc 119) .nil)) (.val (.str [110, 117, 108, 108]))))
  .nil)
noncomputable def d_json_number_text : RFD := ⟨[119], b_json_number_text⟩
noncomputable def b_json_plain_text : RSs := (.cons
  (.asg (.tup [(.name 143), (.name 144)]) (.loc 142))
  (.cons
  (.ite (.cmp (.loc 143) (.one .Eq (.val (.str [98, 111, 111, 108])))) (.cons
  (.ret (.ite (.loc 144) (.val (.str [116, 114, 117, 101])) (.val (.str [102, 97, 108, 115, 101]))))
  .nil) .nil)
  (.cons
  (.ite (.cmp (.loc 143) (.one .Eq (.val (.str [110, 117, 109, 98, 101, 114])))) (.cons
  (.ret (.fn 35 (.cons (.loc 144) .nil)))
  .nil) .nil)
  (.cons
  (.ret (.ite (.cmp (.loc 143) (.one .Eq (.val (.str [115, 116, 114, 105, 110, 103])))) (.fn 34 (.cons (.loc 144) .nil)) (.val (.str [110, 117, 108, 108]))))
  .nil))))
noncomputable def d_json_plain_text : RFD := ⟨[142], b_json_plain_text⟩
noncomputable def b_json_rows : RSs := (.cons
  (.ite (.cmp (.blt 0 (.cons (.loc 147) .nil)) (.one .Eq (.val (.int 0)))) (.cons
  (.ret (.bin .Add (.loc 145) (.loc 146)))
  .nil) .nil)
  (.cons
  (.ite (.cmp (.loc 148) (.one .Eq (.val (.str [])))) (.cons
  (.ret (.bin .Add (.bin .Add (.loc 145) (.meth (.val (.str [44])) 0 (.cons (.loc 147) .nil))) (.loc 146)))
  .nil) .nil)
  (.cons
  (.asg (.one (.name 150)) (.bin .Add (.bin .Add (.val (.str [10])) (.loc 149)) (.loc 148)))
  (.cons
  (.ret (.bin .Add (.bin .Add (.bin .Add (.bin .Add (.bin .Add (.loc 145) (.loc 150)) (.meth (.bin .Add (.val (.str [44])) (.loc 150)) 0 (.cons (.loc 147) .nil))) (.val (.str [10]))) (.loc 149)) (.loc 146)))
  .nil))))
noncomputable def d_json_rows : RFD := ⟨[145, 146, 147, 148, 149], b_json_rows⟩
noncomputable def c_json_laid_0 : RE := (.comp (.fn 38 (.cons (.loc 152) (.cons (.loc 148) (.cons (.bin .Add (.loc 149) (.loc 148)) .nil)))) [152] (.loc 151) (.val (.bool true)))
noncomputable def fb_json_laid_1 : RSs := (.cons
  (.ite (.cmp (.idx (.loc 152) (.val (.int 0))) (.one .NotEq (.val (.str [115, 107, 105, 112])))) (.cons
  (.expr (.meth (.loc 147) 4 (.cons (.bin .Add (.bin .Add (.fn 34 (.cons (.loc 154) .nil)) (.loc 153)) (.fn 38 (.cons (.loc 152) (.cons (.loc 148) (.cons (.bin .Add (.loc 149) (.loc 148)) .nil))))) .nil)))
  .nil) .nil)
  .nil)
noncomputable def f_json_laid_2 : RS := (.for_ (.tup [(.name 154), (.name 152)]) (.loc 151) fb_json_laid_1)
noncomputable def b_json_laid : RSs := (.cons
  (.asg (.tup [(.name 143), (.name 151)]) (.loc 142))
  (.cons
  (.ite (.cmp (.loc 143) (.one .Eq (.val (.str [97, 114, 114, 97, 121])))) (.cons
  (.ret (.fn 37 (.cons (.val (.str [91])) (.cons (.val (.str [93])) (.cons c_json_laid_0 (.cons (.loc 148) (.cons (.loc 149) .nil)))))))
  .nil) .nil)
  (.cons
  (.ite (.cmp (.loc 143) (.one .NotEq (.val (.str [111, 98, 106, 101, 99, 116])))) (.cons
  (.ret (.fn 36 (.cons (.loc 142) .nil)))
  .nil) .nil)
  (.cons
  (.asg (.one (.name 153)) (.ite (.cmp (.loc 148) (.one .Eq (.val (.str [])))) (.val (.str [58])) (.val (.str [58, 32]))))
  (.cons
  (.asg (.one (.name 147)) (.lst .nil))
  (.cons
  f_json_laid_2
  (.cons
  (.ret (.fn 37 (.cons (.val (.str [123])) (.cons (.val (.str [125])) (.cons (.loc 147) (.cons (.loc 148) (.cons (.loc 149) .nil)))))))
  .nil)))))))
noncomputable def d_json_laid : RFD := ⟨[142, 148, 149], b_json_laid⟩
noncomputable def b_show_json : RSs := (.cons
  (.ite (.cmp (.idx (.loc 142) (.val (.int 0))) (.one .Eq (.val (.str [115, 107, 105, 112])))) (.cons
  (.ret (.val .none))
  .nil) .nil)
  (.cons
  (.ret (.fn 38 (.cons (.loc 142) (.cons (.loc 148) (.cons (.val (.str [])) .nil)))))
  .nil))
noncomputable def d_show_json : RFD := ⟨[142, 148], b_show_json⟩
noncomputable def c_json_without_skips_0 : RE := (.comp (.fn 40 (.cons (.loc 152) .nil)) [152] (.loc 151) (.val (.bool true)))
noncomputable def c_json_without_skips_1 : RE := (.comp (.tup (.cons (.loc 154) (.cons (.fn 40 (.cons (.loc 152) .nil)) .nil))) [154, 152] (.loc 151) (.cmp (.idx (.loc 152) (.val (.int 0))) (.one .NotEq (.val (.str [115, 107, 105, 112])))))
noncomputable def b_json_without_skips : RSs := (.cons
  (.asg (.tup [(.name 143), (.name 151)]) (.loc 142))
  (.cons
  (.ite (.cmp (.loc 143) (.one .Eq (.val (.str [97, 114, 114, 97, 121])))) (.cons
  (.ret (.tup (.cons (.loc 143) (.cons c_json_without_skips_0 .nil))))
  .nil) .nil)
  (.cons
  (.ite (.cmp (.loc 143) (.one .Eq (.val (.str [111, 98, 106, 101, 99, 116])))) (.cons
  (.ret (.tup (.cons (.loc 143) (.cons c_json_without_skips_1 .nil))))
  .nil) .nil)
  (.cons
  (.ite (.bop true (.cmp (.loc 143) (.one .Eq (.val (.str [115, 107, 105, 112])))) (.bop false (.cmp (.loc 143) (.one .Eq (.val (.str [110, 117, 109, 98, 101, 114])))) (.tnot (.fn 15 (.cons (.loc 151) .nil))))) (.cons
  (.ret (.tup (.cons (.val (.str [110, 117, 108, 108])) (.cons (.val .none) .nil))))
  .nil) .nil)
  (.cons
  (.ret (.loc 142))
  .nil)))))
noncomputable def d_json_without_skips : RFD := ⟨[142], b_json_without_skips⟩
noncomputable def fb_is_among_0 : RSs := (.cons
  (.ite (.cmp (.loc 157) (.more .LtE (.loc 155) (.one .LtE (.loc 158)))) (.cons
  (.ret (.val (.bool true)))
  .nil) .nil)
  .nil)
noncomputable def f_is_among_1 : RS := (.for_ (.tup [(.name 157), (.name 158)]) (.loc 156) fb_is_among_0)
noncomputable def b_is_among : RSs := (.cons
  f_is_among_1
  (.cons
  (.ret (.val (.bool false)))
  .nil))
noncomputable def d_is_among : RFD := ⟨[155, 156], b_is_among⟩
noncomputable def b_is_digit : RSs := (.cons
  (.ret (.cmp (.val (.int 48)) (.more .LtE (.loc 155) (.one .LtE (.val (.int 57))))))
  .nil)
noncomputable def d_is_digit : RFD := ⟨[155], b_is_digit⟩
noncomputable def b_is_id_start : RSs := (.cons
  (.ite (.cmp (.loc 155) (.one .Lt (.val (.int 128)))) (.cons
  (.ret (.bop true (.cmp (.val (.int 65)) (.more .LtE (.loc 155) (.one .LtE (.val (.int 90))))) (.bop true (.cmp (.val (.int 97)) (.more .LtE (.loc 155) (.one .LtE (.val (.int 122))))) (.bop true (.cmp (.loc 155) (.one .Eq (.val (.int 36)))) (.cmp (.loc 155) (.one .Eq (.val (.int 95))))))))
  .nil) .nil)
  (.cons
  (.ret (.fn 41 (.cons (.loc 155) (.cons (.glb 95) .nil))))
  .nil))
noncomputable def d_is_id_start : RFD := ⟨[155], b_is_id_start⟩
noncomputable def b_is_id_part : RSs := (.cons
  (.ret (.bop true (.fn 43 (.cons (.loc 155) .nil)) (.bop true (.fn 42 (.cons (.loc 155) .nil)) (.bop false (.cmp (.loc 155) (.one .Gt (.val (.int 127)))) (.fn 41 (.cons (.loc 155) (.cons (.glb 96) .nil)))))))
  .nil)
noncomputable def d_is_id_part : RFD := ⟨[155], b_is_id_part⟩
noncomputable def fb_is_name_0 : RSs := (.cons
  (.ite (.tnot (.fn 44 (.cons (.blt 5 (.cons (.loc 116) .nil)) .nil))) (.cons
  (.ret (.val (.bool false)))
  .nil) .nil)
  .nil)
noncomputable def f_is_name_1 : RS := (.for_ (.one (.name 116)) (.loc 6) fb_is_name_0)
noncomputable def b_is_name : RSs := (.cons
  (.ite (.bop true (.cmp (.loc 6) (.one .Eq (.val (.str [])))) (.tnot (.fn 43 (.cons (.blt 5 (.cons (.idx (.loc 6) (.val (.int 0))) .nil)) .nil)))) (.cons
  (.ret (.val (.bool false)))
  .nil) .nil)
  (.cons
  f_is_name_1
  (.cons
  (.ret (.val (.bool true)))
  .nil)))
noncomputable def d_is_name : RFD := ⟨[6], b_is_name⟩
noncomputable def b_figure_of : RSs := (.cons
  (.ite (.cmp (.val (.str [48])) (.more .LtE (.loc 116) (.one .LtE (.val (.str [57]))))) (.cons
  (.ret (.bin .Sub (.blt 5 (.cons (.loc 116) .nil)) (.val (.int 48))))
  .nil) .nil)
  (.cons
  (.ite (.cmp (.val (.str [97])) (.more .LtE (.loc 116) (.one .LtE (.val (.str [122]))))) (.cons
  (.ret (.bin .Sub (.blt 5 (.cons (.loc 116) .nil)) (.val (.int 87))))
  .nil) .nil)
  (.cons
  (.ret (.ite (.cmp (.val (.str [65])) (.more .LtE (.loc 116) (.one .LtE (.val (.str [90]))))) (.bin .Sub (.blt 5 (.cons (.loc 116) .nil)) (.val (.int 55))) (.val (.int 36))))
  .nil)))
noncomputable def d_figure_of : RFD := ⟨[116], b_figure_of⟩
noncomputable def wb_run_end_0 : RSs := (.cons
  (.augL 7 (.val (.int 1)))
  .nil)
noncomputable def w_run_end_1 : RS := (.whl (.bop false (.cmp (.loc 7) (.one .Lt (.blt 0 (.cons (.loc 6) .nil)))) (.cmp (.fn 46 (.cons (.idx (.loc 6) (.loc 7)) .nil)) (.one .Lt (.loc 159)))) wb_run_end_0)
noncomputable def b_run_end : RSs := (.cons
  w_run_end_1
  (.cons
  (.ret (.loc 7))
  .nil))
noncomputable def d_run_end : RFD := ⟨[6, 7, 159], b_run_end⟩
noncomputable def fb_worth_0 : RSs := (.cons
  (.asg (.one (.name 129)) (.bin .Add (.bin .Mult (.loc 129) (.loc 159)) (.fn 46 (.cons (.idx (.loc 6) (.loc 7)) .nil))))
  .nil)
noncomputable def f_worth_1 : RS := (.for_ (.one (.name 7)) (.blt 7 (.cons (.loc 160) (.cons (.loc 161) .nil))) fb_worth_0)
noncomputable def b_worth : RSs := (.cons
  (.asg (.one (.name 129)) (.val (.int 0)))
  (.cons
  f_worth_1
  (.cons
  (.ret (.loc 129))
  .nil)))
noncomputable def d_worth : RFD := ⟨[6, 160, 161, 159], b_worth⟩
noncomputable def b_from_decimal : RSs := (.cons
  (.asg (.one (.name 141)) (.meth (.loc 139) 1 (.cons (.val (.str [48])) .nil)))
  (.cons
  (.asg (.one (.name 135)) (.bin .Add (.blt 0 (.cons (.loc 141) .nil)) (.loc 117)))
  (.cons
  (.ite (.bop true (.cmp (.loc 141) (.one .Eq (.val (.str [])))) (.cmp (.loc 135) (.one .Lt (.bin .Sub (.val (.int 0)) (.glb 97))))) (.cons
  (.ret (.glb 86))
  .nil) .nil)
  (.cons
  (.ite (.cmp (.loc 135) (.one .Gt (.glb 97))) (.cons
  (.ret (.glb 88))
  .nil) .nil)
  (.cons
  (.asg (.one (.name 130)) (.fn 48 (.cons (.loc 141) (.cons (.val (.int 0)) (.cons (.blt 0 (.cons (.loc 141) .nil)) (.cons (.val (.int 10)) .nil))))))
  (.cons
  (.ite (.cmp (.loc 117) (.one .GtE (.val (.int 0)))) (.cons
  (.ret (.fn 20 (.cons (.val (.int 0)) (.cons (.bin .Mult (.loc 130) (.bin .Pow (.val (.int 10)) (.loc 117))) (.cons (.val (.int 1)) .nil)))))
  .nil) .nil)
  (.cons
  (.ret (.fn 20 (.cons (.val (.int 0)) (.cons (.loc 130) (.cons (.bin .Pow (.val (.int 10)) (.bin .Sub (.val (.int 0)) (.loc 117))) .nil)))))
  .nil)))))))
noncomputable def d_from_decimal : RFD := ⟨[139, 117], b_from_decimal⟩
noncomputable def b_sign_at : RSs := (.cons
  (.ite (.bop false (.cmp (.loc 7) (.one .Lt (.blt 0 (.cons (.loc 6) .nil)))) (.cmp (.idx (.loc 6) (.loc 7)) (.one .In (.val (.str [43, 45]))))) (.cons
  (.ret (.tup (.cons (.cmp (.idx (.loc 6) (.loc 7)) (.one .Eq (.val (.str [45])))) (.cons (.bin .Add (.loc 7) (.val (.int 1))) .nil))))
  .nil) .nil)
  (.cons
  (.ret (.tup (.cons (.val (.bool false)) (.cons (.loc 7) .nil))))
  .nil))
noncomputable def d_sign_at : RFD := ⟨[6, 7], b_sign_at⟩
noncomputable def b_turned : RSs := (.cons
  (.ret (.ite (.loc 162) (.bin .BitXor (.loc 119) (.glb 87)) (.loc 119)))
  .nil)
noncomputable def d_turned : RFD := ⟨[119, 162], b_turned⟩
noncomputable def b_exponent_at : RSs := (.cons
  (.ite (.bop true (.cmp (.loc 7) (.one .GtE (.blt 0 (.cons (.loc 6) .nil)))) (.cmp (.idx (.loc 6) (.loc 7)) (.one .NotIn (.val (.str [101, 69]))))) (.cons
  (.ret (.tup (.cons (.val (.int 0)) (.cons (.loc 7) .nil))))
  .nil) .nil)
  (.cons
  (.asg (.tup [(.name 162), (.name 160)]) (.fn 50 (.cons (.loc 6) (.cons (.bin .Add (.loc 7) (.val (.int 1))) .nil))))
  (.cons
  (.asg (.one (.name 161)) (.fn 47 (.cons (.loc 6) (.cons (.loc 160) (.cons (.val (.int 10)) .nil)))))
  (.cons
  (.ite (.cmp (.loc 161) (.one .Eq (.loc 160))) (.cons
  (.ret (.tup (.cons (.val (.int 0)) (.cons (.loc 7) .nil))))
  .nil) .nil)
  (.cons
  (.asg (.one (.name 163)) (.blt 8 (.cons (.fn 48 (.cons (.loc 6) (.cons (.loc 160) (.cons (.loc 161) (.cons (.val (.int 10)) .nil))))) (.cons (.bin .Pow (.val (.int 10)) (.val (.int 9))) .nil))))
  (.cons
  (.ret (.tup (.cons (.ite (.loc 162) (.bin .Sub (.val (.int 0)) (.loc 163)) (.loc 163)) (.cons (.loc 161) .nil))))
  .nil))))))
noncomputable def d_exponent_at : RFD := ⟨[6, 7], b_exponent_at⟩
noncomputable def b_json_sign : RSs := (.cons
  (.ret (.sli (.loc 6) (.yes (.loc 7)) (.yes (.bin .Add (.loc 7) (.val (.int 1))))))
  .nil)
noncomputable def d_json_sign : RFD := ⟨[6, 7], b_json_sign⟩
noncomputable def wb_skip_json_blanks_0 : RSs := (.cons
  (.augL 7 (.val (.int 1)))
  .nil)
noncomputable def w_skip_json_blanks_1 : RS := (.whl (.bop false (.cmp (.loc 7) (.one .Lt (.blt 0 (.cons (.loc 6) .nil)))) (.cmp (.idx (.loc 6) (.loc 7)) (.one .In (.glb 98)))) wb_skip_json_blanks_0)
noncomputable def b_skip_json_blanks : RSs := (.cons
  w_skip_json_blanks_1
  (.cons
  (.ret (.loc 7))
  .nil))
noncomputable def d_skip_json_blanks : RFD := ⟨[6, 7], b_skip_json_blanks⟩
noncomputable def b_json_number : RSs := (.cons
  (.asg (.one (.name 162)) (.cmp (.fn 54 (.cons (.loc 6) (.cons (.loc 7) .nil))) (.one .Eq (.val (.str [45])))))
  (.cons
  (.asg (.one (.name 160)) (.ite (.loc 162) (.bin .Add (.loc 7) (.val (.int 1))) (.loc 7)))
  (.cons
  (.asg (.one (.name 164)) (.fn 47 (.cons (.loc 6) (.cons (.loc 160) (.cons (.val (.int 10)) .nil)))))
  (.cons
  (.ite (.bop true (.cmp (.loc 164) (.one .Eq (.loc 160))) (.bop false (.cmp (.idx (.loc 6) (.loc 160)) (.one .Eq (.val (.str [48])))) (.cmp (.loc 164) (.one .Gt (.bin .Add (.loc 160) (.val (.int 1))))))) (.cons
  (.expr (.fn 53 (.cons (.loc 6) (.cons (.ite (.cmp (.loc 164) (.one .Eq (.loc 160))) (.loc 160) (.bin .Add (.loc 160) (.val (.int 1)))) .nil))))
  .nil) .nil)
  (.cons
  (.asg (.tup [(.name 139), (.name 161), (.name 165)]) (.tup (.cons (.sli (.loc 6) (.yes (.loc 160)) (.yes (.loc 164))) (.cons (.loc 164) (.cons (.val (.int 0)) .nil)))))
  (.cons
  (.ite (.cmp (.fn 54 (.cons (.loc 6) (.cons (.loc 164) .nil))) (.one .Eq (.val (.str [46])))) (.cons
  (.asg (.one (.name 161)) (.fn 47 (.cons (.loc 6) (.cons (.bin .Add (.loc 164) (.val (.int 1))) (.cons (.val (.int 10)) .nil)))))
  (.cons
  (.ite (.cmp (.loc 161) (.one .Eq (.bin .Add (.loc 164) (.val (.int 1))))) (.cons
  (.expr (.fn 53 (.cons (.loc 6) (.cons (.loc 161) .nil))))
  .nil) .nil)
  (.cons
  (.asg (.tup [(.name 139), (.name 165)]) (.tup (.cons (.bin .Add (.loc 139) (.sli (.loc 6) (.yes (.bin .Add (.loc 164) (.val (.int 1)))) (.yes (.loc 161)))) (.cons (.bin .Sub (.bin .Sub (.loc 161) (.loc 164)) (.val (.int 1))) .nil))))
  .nil))) .nil)
  (.cons
  (.asg (.tup [(.name 117), (.name 158)]) (.fn 52 (.cons (.loc 6) (.cons (.loc 161) .nil))))
  (.cons
  (.ret (.tup (.cons (.fn 51 (.cons (.fn 49 (.cons (.loc 139) (.cons (.bin .Sub (.loc 117) (.loc 165)) .nil))) (.cons (.loc 162) .nil))) (.cons (.loc 158) .nil))))
  .nil))))))))
noncomputable def d_json_number : RFD := ⟨[6, 7], b_json_number⟩
noncomputable def fb_json_hex_unit_0 : RSs := (.cons
  (.ite (.bop true (.cmp (.fn 54 (.cons (.loc 6) (.cons (.loc 166) .nil))) (.one .Eq (.val (.str [])))) (.cmp (.idx (.loc 6) (.loc 166)) (.one .NotIn (.glb 100)))) (.cons
  (.expr (.fn 53 (.cons (.loc 6) (.cons (.loc 166) .nil))))
  .nil) .nil)
  .nil)
noncomputable def f_json_hex_unit_1 : RS := (.for_ (.one (.name 166)) (.blt 7 (.cons (.loc 7) (.cons (.bin .Add (.loc 7) (.val (.int 4))) .nil))) fb_json_hex_unit_0)
noncomputable def b_json_hex_unit : RSs := (.cons
  f_json_hex_unit_1
  (.cons
  (.ret (.fn 167 (.cons (.fn 48 (.cons (.loc 6) (.cons (.loc 7) (.cons (.bin .Add (.loc 7) (.val (.int 4))) (.cons (.val (.int 16)) .nil))))) .nil)))
  .nil))
noncomputable def d_json_hex_unit : RFD := ⟨[6, 7], b_json_hex_unit⟩
noncomputable def wb_json_string_0 : RSs := (.cons
  (.asg (.one (.name 116)) (.fn 54 (.cons (.loc 6) (.cons (.loc 7) .nil))))
  (.cons
  (.ite (.bop true (.cmp (.loc 116) (.one .Eq (.val (.str [])))) (.cmp (.blt 5 (.cons (.loc 116) .nil)) (.one .Lt (.val (.int 32))))) (.cons
  (.expr (.fn 53 (.cons (.loc 6) (.cons (.loc 7) .nil))))
  .nil) .nil)
  (.cons
  (.ite (.cmp (.loc 116) (.one .NotEq (.val (.str [92])))) (.cons
  (.expr (.meth (.loc 129) 4 (.cons (.loc 116) .nil)))
  (.cons
  (.augL 7 (.val (.int 1)))
  .nil)) (.cons
  (.ite (.cmp (.fn 54 (.cons (.loc 6) (.cons (.bin .Add (.loc 7) (.val (.int 1))) .nil))) (.one .Eq (.val (.str [117])))) (.cons
  (.expr (.meth (.loc 129) 4 (.cons (.fn 57 (.cons (.loc 6) (.cons (.bin .Add (.loc 7) (.val (.int 2))) .nil))) .nil)))
  (.cons
  (.augL 7 (.val (.int 6)))
  .nil)) (.cons
  (.ite (.cmp (.fn 54 (.cons (.loc 6) (.cons (.bin .Add (.loc 7) (.val (.int 1))) .nil))) (.one .In (.glb 101))) (.cons
  (.expr (.meth (.loc 129) 4 (.cons (.idx (.glb 101) (.idx (.loc 6) (.bin .Add (.loc 7) (.val (.int 1))))) .nil)))
  (.cons
  (.augL 7 (.val (.int 2)))
  .nil)) (.cons
  (.expr (.fn 53 (.cons (.loc 6) (.cons (.bin .Add (.loc 7) (.val (.int 1))) .nil))))
  .nil))
  .nil))
  .nil))
  .nil)))
noncomputable def w_json_string_1 : RS := (.whl (.cmp (.fn 54 (.cons (.loc 6) (.cons (.loc 7) .nil))) (.one .NotEq (.val (.str [34])))) wb_json_string_0)
noncomputable def b_json_string : RSs := (.cons
  (.ite (.cmp (.fn 54 (.cons (.loc 6) (.cons (.loc 7) .nil))) (.one .NotEq (.val (.str [34])))) (.cons
  (.expr (.fn 53 (.cons (.loc 6) (.cons (.loc 7) .nil))))
  .nil) .nil)
  (.cons
  (.asg (.tup [(.name 129), (.name 7)]) (.tup (.cons (.lst .nil) (.cons (.bin .Add (.loc 7) (.val (.int 1))) .nil))))
  (.cons
  w_json_string_1
  (.cons
  (.ret (.tup (.cons (.meth (.val (.str [])) 0 (.cons (.loc 129) .nil)) (.cons (.bin .Add (.loc 7) (.val (.int 1))) .nil))))
  .nil))))
noncomputable def d_json_string : RFD := ⟨[6, 7], b_json_string⟩
noncomputable def fb_json_plain_0 : RSs := (.cons
  (.ite (.cmp (.sli (.loc 6) (.yes (.loc 7)) (.yes (.bin .Add (.loc 7) (.blt 0 (.cons (.loc 168) .nil))))) (.one .Eq (.loc 168))) (.cons
  (.ret (.tup (.cons (.loc 142) (.cons (.bin .Add (.loc 7) (.blt 0 (.cons (.loc 168) .nil))) .nil))))
  .nil) .nil)
  .nil)
noncomputable def f_json_plain_1 : RS := (.for_ (.tup [(.name 168), (.name 142)]) (.glb 102) fb_json_plain_0)
noncomputable def b_json_plain : RSs := (.cons
  f_json_plain_1
  (.cons
  (.ite (.cmp (.fn 54 (.cons (.loc 6) (.cons (.loc 7) .nil))) (.one .Eq (.val (.str [34])))) (.cons
  (.asg (.tup [(.name 141), (.name 161)]) (.fn 58 (.cons (.loc 6) (.cons (.loc 7) .nil))))
  (.cons
  (.ret (.tup (.cons (.tup (.cons (.val (.str [115, 116, 114, 105, 110, 103])) (.cons (.loc 141) .nil))) (.cons (.loc 161) .nil))))
  .nil)) .nil)
  (.cons
  (.ite (.bop false (.cmp (.fn 54 (.cons (.loc 6) (.cons (.loc 7) .nil))) (.one .NotEq (.val (.str [45])))) (.bop true (.cmp (.fn 54 (.cons (.loc 6) (.cons (.loc 7) .nil))) (.one .Eq (.val (.str [])))) (.cmp (.idx (.loc 6) (.loc 7)) (.one .NotIn (.glb 99))))) (.cons
  (.expr (.fn 53 (.cons (.loc 6) (.cons (.loc 7) .nil))))
  .nil) .nil)
  (.cons
  (.asg (.tup [(.name 119), (.name 161)]) (.fn 56 (.cons (.loc 6) (.cons (.loc 7) .nil))))
  (.cons
  (.ret (.tup (.cons (.tup (.cons (.val (.str [110, 117, 109, 98, 101, 114])) (.cons (.loc 119) .nil))) (.cons (.loc 161) .nil))))
  .nil)))))
noncomputable def d_json_plain : RFD := ⟨[6, 7], b_json_plain⟩
noncomputable def b_read_json : RSs := (.cons
  (.ret (.meth (.fn 71 (.cons (.loc 6) .nil)) 78 .nil))
  .nil)
noncomputable def d_read_json : RFD := ⟨[6], b_read_json⟩
noncomputable def b_is_keyword : RSs := (.cons
  (.ret (.cmp (.loc 168) (.one .In (.glb 104))))
  .nil)
noncomputable def d_is_keyword : RFD := ⟨[168], b_is_keyword⟩
noncomputable def b_is_strict_word : RSs := (.cons
  (.ret (.cmp (.loc 168) (.one .In (.glb 105))))
  .nil)
noncomputable def d_is_strict_word : RFD := ⟨[168], b_is_strict_word⟩
noncomputable def fb_punct_at_0 : RSs := (.cons
  (.asg (.one (.name 169)) (.sli (.loc 6) (.yes (.loc 7)) (.yes (.bin .Add (.loc 7) (.loc 140)))))
  (.cons
  (.ite (.cmp (.loc 169) (.one .In (.glb 107))) (.cons
  (.ret (.loc 169))
  .nil) .nil)
  .nil))
noncomputable def f_punct_at_1 : RS := (.for_ (.one (.name 140)) (.tup (.cons (.val (.int 4)) (.cons (.val (.int 3)) (.cons (.val (.int 2)) (.cons (.val (.int 1)) .nil))))) fb_punct_at_0)
noncomputable def b_punct_at : RSs := (.cons
  f_punct_at_1
  (.cons
  (.ret (.val .none))
  .nil))
noncomputable def d_punct_at : RFD := ⟨[6, 7], b_punct_at⟩
noncomputable def b__law_take : RSs := (.cons
  (.asg (.one (.idx (.loc 170) (.val (.int 0)))) (.bin .Add (.idx (.loc 170) (.val (.int 0))) (.val (.int 1))))
  (.cons
  (.ret (.bin .Mod (.ite (.cmp (.idx (.loc 170) (.val (.int 0))) (.one .LtE (.blt 0 (.cons (.idx (.loc 170) (.val (.int 1))) .nil)))) (.idx (.idx (.loc 170) (.val (.int 1))) (.bin .Sub (.idx (.loc 170) (.val (.int 0))) (.val (.int 1)))) (.bin .Add (.bin .Add (.bin .Mult (.val (.int 5)) (.idx (.loc 170) (.val (.int 0)))) (.bin .FloorDiv (.idx (.loc 170) (.val (.int 0))) (.val (.int 2)))) (.val (.int 3)))) (.loc 114)))
  .nil))
noncomputable def d__law_take : RFD := ⟨[170, 114], b__law_take⟩
noncomputable def c__law_tree_0 : RE := (.comp (.fn 65 (.cons (.loc 170) (.cons (.bin .Sub (.loc 171) (.val (.int 1))) .nil))) [173] (.blt 7 (.cons (.loc 140) .nil)) (.val (.bool true)))
noncomputable def c__law_tree_1 : RE := (.comp (.tup (.cons (.idx (.val (.str [107, 97, 108])) (.fn 64 (.cons (.loc 170) (.cons (.val (.int 3)) .nil)))) (.cons (.fn 65 (.cons (.loc 170) (.cons (.bin .Sub (.loc 171) (.val (.int 1))) .nil))) .nil))) [173] (.blt 7 (.cons (.loc 140) .nil)) (.val (.bool true)))
noncomputable def b__law_tree : RSs := (.cons
  (.asg (.one (.name 172)) (.fn 64 (.cons (.loc 170) (.cons (.ite (.cmp (.loc 171) (.one .Gt (.val (.int 0)))) (.val (.int 7)) (.val (.int 5))) .nil))))
  (.cons
  (.ite (.cmp (.loc 172) (.one .Eq (.val (.int 0)))) (.cons
  (.ret (.tup (.cons (.val (.str [115, 107, 105, 112])) (.cons (.val .none) .nil))))
  .nil) .nil)
  (.cons
  (.ite (.cmp (.loc 172) (.one .Eq (.val (.int 1)))) (.cons
  (.ret (.tup (.cons (.val (.str [110, 117, 109, 98, 101, 114])) (.cons (.idx (.lstI (.cons (.glb 90) (.cons (.glb 88) (.cons (.glb 89) (.cons (.fn 22 (.cons (.val (.int 7)) .nil)) (.cons (.fn 22 (.cons (.bin .Sub (.val (.int 0)) (.val (.int 3))) .nil)) (.cons (.fn 22 (.cons (.val (.int 0)) .nil)) .nil))))))) (.fn 64 (.cons (.loc 170) (.cons (.val (.int 6)) .nil)))) .nil))))
  .nil) .nil)
  (.cons
  (.ite (.cmp (.loc 172) (.one .Eq (.val (.int 2)))) (.cons
  (.ret (.tup (.cons (.val (.str [115, 116, 114, 105, 110, 103])) (.cons (.idx (.lstI (.cons (.val (.str [])) (.cons (.val (.str [115])) (.cons (.val (.str [10])) .nil)))) (.fn 64 (.cons (.loc 170) (.cons (.val (.int 3)) .nil)))) .nil))))
  .nil) .nil)
  (.cons
  (.ite (.cmp (.loc 172) (.one .Lt (.val (.int 5)))) (.cons
  (.ret (.idx (.lstI (.cons (.tup (.cons (.val (.str [98, 111, 111, 108])) (.cons (.val (.bool true)) .nil))) (.cons (.tup (.cons (.val (.str [110, 117, 108, 108])) (.cons (.val .none) .nil))) .nil))) (.bin .Sub (.loc 172) (.val (.int 3)))))
  .nil) .nil)
  (.cons
  (.asg (.one (.name 140)) (.fn 64 (.cons (.loc 170) (.cons (.val (.int 4)) .nil))))
  (.cons
  (.ite (.cmp (.loc 172) (.one .Eq (.val (.int 6)))) (.cons
  (.ret (.tup (.cons (.val (.str [97, 114, 114, 97, 121])) (.cons c__law_tree_0 .nil))))
  .nil) .nil)
  (.cons
  (.ret (.tup (.cons (.val (.str [111, 98, 106, 101, 99, 116])) (.cons c__law_tree_1 .nil))))
  .nil))))))))
noncomputable def d__law_tree : RFD := ⟨[170, 171], b__law_tree⟩
noncomputable def c__law_pruned_0 : RE := (.comp (.fn 66 (.cons (.loc 174) .nil)) [174] (.loc 151) (.val (.bool true)))
noncomputable def c__law_pruned_1 : RE := (.comp (.tup (.cons (.loc 154) (.cons (.fn 66 (.cons (.loc 174) .nil)) .nil))) [154, 174] (.loc 151) (.cmp (.loc 174) (.one .NotEq (.tup (.cons (.val (.str [115, 107, 105, 112])) (.cons (.val .none) .nil))))))
noncomputable def b__law_pruned : RSs := (.cons
  (.asg (.tup [(.name 143), (.name 151)]) (.loc 142))
  (.cons
  (.ite (.cmp (.loc 143) (.one .Eq (.val (.str [97, 114, 114, 97, 121])))) (.cons
  (.ret (.tup (.cons (.loc 143) (.cons c__law_pruned_0 .nil))))
  .nil) .nil)
  (.cons
  (.ite (.cmp (.loc 143) (.one .Eq (.val (.str [111, 98, 106, 101, 99, 116])))) (.cons
  (.ret (.tup (.cons (.loc 143) (.cons c__law_pruned_1 .nil))))
  .nil) .nil)
  (.cons
  (.ite (.bop true (.cmp (.loc 143) (.one .Eq (.val (.str [115, 107, 105, 112])))) (.bop false (.cmp (.loc 143) (.one .Eq (.val (.str [110, 117, 109, 98, 101, 114])))) (.cmp (.loc 151) (.one .In (.tup (.cons (.glb 90) (.cons (.glb 88) (.cons (.glb 89) .nil)))))))) (.cons
  (.ret (.tup (.cons (.val (.str [110, 117, 108, 108])) (.cons (.val .none) .nil))))
  .nil) .nil)
  (.cons
  (.ret (.loc 142))
  .nil)))))
noncomputable def d__law_pruned : RFD := ⟨[142], b__law_pruned⟩
noncomputable def c__law_is_name_0 : RE := (.comp (.loc 174) [174] (.loc 6) (.cmp (.loc 174) (.one .NotIn (.bin .Add (.loc 175) (.val (.str [769, 8205]))))))
noncomputable def b__law_is_name : RSs := (.cons
  (.ite (.bop true (.cmp (.loc 6) (.one .Eq (.val (.str [])))) (.cmp (.idx (.loc 6) (.val (.int 0))) (.one .In (.val (.str [48, 49, 50, 51, 52, 53, 54, 55, 56, 57]))))) (.cons
  (.ret (.val (.bool false)))
  .nil) .nil)
  (.cons
  (.asg (.one (.name 175)) (.val (.str [65, 66, 67, 68, 69, 70, 71, 72, 73, 74, 75, 76, 77, 78, 79, 80, 81, 82, 83, 84, 85, 86, 87, 88, 89, 90, 97, 98, 99, 100, 101, 102, 103, 104, 105, 106, 107, 108, 109, 110, 111, 112, 113, 114, 115, 116, 117, 118, 119, 120, 121, 122, 48, 49, 50, 51, 52, 53, 54, 55, 56, 57, 36, 95, 233, 20013])))
  (.cons
  (.ret (.bop false (.cmp (.idx (.loc 6) (.val (.int 0))) (.one .In (.loc 175))) (.cmp c__law_is_name_0 (.one .Eq (.lstI .nil)))))
  .nil)))
noncomputable def d__law_is_name : RFD := ⟨[6], b__law_is_name⟩
noncomputable def c__law_cut_0 : RE := (.comp (.loc 174) [174] (.loc 176) (.cmp (.sli (.loc 6) (.yes (.loc 7)) (.yes (.bin .Add (.loc 7) (.blt 0 (.cons (.loc 174) .nil))))) (.one .Eq (.loc 174))))
noncomputable def c__law_cut_1 : RE := (.comp (.blt 0 (.cons (.loc 174) .nil)) [174] (.loc 147) (.val (.bool true)))
noncomputable def wb__law_cut_2 : RSs := (.cons
  (.asg (.one (.name 147)) c__law_cut_0)
  (.cons
  (.ite (.cmp (.loc 147) (.one .Eq (.lstI .nil))) (.cons
  (.ret (.bin .Add (.loc 129) (.lstI (.cons (.val .none) .nil))))
  .nil) .nil)
  (.cons
  (.asg (.one (.name 177)) (.blt 4 (.cons c__law_cut_1 .nil)))
  (.cons
  (.expr (.meth (.loc 129) 4 (.cons (.sli (.loc 6) (.yes (.loc 7)) (.yes (.bin .Add (.loc 7) (.loc 177)))) .nil)))
  (.cons
  (.asg (.one (.name 7)) (.bin .Add (.loc 7) (.loc 177)))
  .nil)))))
noncomputable def w__law_cut_3 : RS := (.whl (.cmp (.loc 7) (.one .Lt (.blt 0 (.cons (.loc 6) .nil)))) wb__law_cut_2)
noncomputable def b__law_cut : RSs := (.cons
  (.asg (.tup [(.name 176), (.name 129), (.name 7)]) (.tup (.cons (.meth (.bin .Add (.bin .Add (.glb 111) (.val (.str [32]))) (.glb 112)) 2 (.cons (.val (.str [32])) .nil)) (.cons (.lst .nil) (.cons (.val (.int 0)) .nil)))))
  (.cons
  w__law_cut_3
  (.cons
  (.ret (.loc 129))
  .nil)))
noncomputable def d__law_cut : RFD := ⟨[6], b__law_cut⟩
noncomputable def wb__law_cut_by_0 : RSs := (.cons
  (.asg (.one (.name 169)) (.fn 63 (.cons (.loc 6) (.cons (.loc 7) .nil))))
  (.cons
  (.expr (.meth (.loc 129) 4 (.cons (.loc 169) .nil)))
  (.cons
  (.ite (.cmp (.loc 169) (.one .Is (.val .none))) (.cons
  (.ret (.loc 129))
  .nil) .nil)
  (.cons
  (.asg (.one (.name 7)) (.bin .Add (.loc 7) (.blt 0 (.cons (.loc 169) .nil))))
  .nil))))
noncomputable def w__law_cut_by_1 : RS := (.whl (.cmp (.loc 7) (.one .Lt (.blt 0 (.cons (.loc 6) .nil)))) wb__law_cut_by_0)
noncomputable def b__law_cut_by : RSs := (.cons
  (.asg (.tup [(.name 129), (.name 7)]) (.tup (.cons (.lst .nil) (.cons (.val (.int 0)) .nil))))
  (.cons
  w__law_cut_by_1
  (.cons
  (.ret (.loc 129))
  .nil)))
noncomputable def d__law_cut_by : RFD := ⟨[6], b__law_cut_by⟩
noncomputable def c_law_0 : RE := (.comp (.blt 2 (.cons (.blt 3 (.cons (.loc 174) .nil)) .nil)) [174] (.sli (.loc 178) .no (.yes (.val (.int 40)))) (.val (.bool true)))
noncomputable def fb_law_1 : RSs := (.cons
  (.asg (.one (.name 179)) (.fn 39 (.cons (.loc 142) (.cons (.loc 148) .nil))))
  (.cons
  (.ite (.bop true (.cmp (.cmp (.loc 179) (.one .Is (.val .none))) (.one .NotEq (.cmp (.loc 142) (.one .Eq (.tup (.cons (.val (.str [115, 107, 105, 112])) (.cons (.val .none) .nil))))))) (.bop false (.cmp (.loc 179) (.one .IsNot (.val .none))) (.cmp (.fn 60 (.cons (.loc 179) .nil)) (.one .NotEq (.loc 141))))) (.cons
  (.ret (.val (.bool false)))
  .nil) .nil)
  .nil))
noncomputable def f_law_2 : RS := (.for_ (.one (.name 148)) (.tup (.cons (.val (.str [])) (.cons (.val (.str [32, 32])) .nil))) fb_law_1)
noncomputable def c_law_3 : RE := (.comp (.idx (.val (.str [97, 90, 36, 95, 55, 233, 20013, 769, 8205, 32, 45])) (.fn 64 (.cons (.loc 170) (.cons (.val (.int 11)) .nil)))) [173] (.blt 7 (.cons (.fn 64 (.cons (.loc 170) (.cons (.val (.int 5)) .nil))) .nil)) (.val (.bool true)))
noncomputable def c_law_4 : RE := (.comp (.idx (.val (.str [60, 62, 61, 33, 43, 45, 38, 124, 42, 47, 37, 94, 46, 44, 59, 97])) (.fn 64 (.cons (.loc 170) (.cons (.val (.int 16)) .nil)))) [173] (.blt 7 (.cons (.fn 64 (.cons (.loc 170) (.cons (.val (.int 8)) .nil))) .nil)) (.val (.bool true)))
noncomputable def fb_law_5 : RSs := (.cons
  (.ite (.bop true (.cmp (.fn 61 (.cons (.loc 182) .nil)) (.one .NotEq (.cmp (.loc 182) (.one .In (.loc 176))))) (.cmp (.fn 62 (.cons (.loc 182) .nil)) (.one .NotEq (.cmp (.loc 182) (.one .In (.loc 180)))))) (.cons
  (.ret (.val (.bool false)))
  .nil) .nil)
  .nil)
noncomputable def f_law_6 : RS := (.for_ (.one (.name 182)) (.tup (.cons (.bin .Add (.loc 181) (.val (.str [115]))) (.cons (.sli (.loc 181) (.yes (.val (.int 1))) .no) (.cons (.bin .Add (.meth (.idx (.loc 181) (.val (.int 0))) 3 .nil) (.sli (.loc 181) (.yes (.val (.int 1))) .no)) (.cons (.val (.str [])) .nil))))) fb_law_5)
noncomputable def fb_law_7 : RSs := (.cons
  (.asg (.one (.name 181)) (.idx (.loc 147) (.fn 64 (.cons (.loc 170) (.cons (.blt 0 (.cons (.loc 147) .nil)) .nil)))))
  (.cons
  (.ite (.bop true (.cmp (.blt 6 (.cons (.fn 61 (.cons (.loc 181) .nil)) .nil)) (.one .NotEq (.blt 6 (.cons (.cmp (.loc 181) (.one .In (.loc 176))) .nil)))) (.cmp (.blt 6 (.cons (.fn 62 (.cons (.loc 181) .nil)) .nil)) (.one .NotEq (.blt 6 (.cons (.cmp (.loc 181) (.one .In (.loc 180))) .nil))))) (.cons
  (.ret (.val (.bool false)))
  .nil) .nil)
  (.cons
  f_law_6
  .nil)))
noncomputable def f_law_8 : RS := (.for_ (.one (.name 147)) (.tup (.cons (.loc 176) (.cons (.loc 180) .nil))) fb_law_7)
noncomputable def b_law : RSs := (.cons
  (.asg (.one (.name 170)) (.lst (.cons (.val (.int 0)) (.cons c_law_0 .nil))))
  (.cons
  (.asg (.one (.name 142)) (.fn 65 (.cons (.loc 170) (.cons (.val (.int 2)) .nil))))
  (.cons
  (.asg (.one (.name 141)) (.fn 40 (.cons (.loc 142) .nil)))
  (.cons
  (.ite (.bop true (.cmp (.loc 141) (.one .NotEq (.fn 66 (.cons (.loc 142) .nil)))) (.cmp (.fn 40 (.cons (.loc 141) .nil)) (.one .NotEq (.loc 141)))) (.cons
  (.ret (.val (.bool false)))
  .nil) .nil)
  (.cons
  f_law_2
  (.cons
  (.asg (.one (.name 168)) (.meth (.val (.str [])) 0 (.cons c_law_3 .nil)))
  (.cons
  (.ite (.cmp (.blt 6 (.cons (.fn 45 (.cons (.loc 168) .nil)) .nil)) (.one .NotEq (.blt 6 (.cons (.fn 67 (.cons (.loc 168) .nil)) .nil)))) (.cons
  (.ret (.val (.bool false)))
  .nil) .nil)
  (.cons
  (.asg (.one (.name 150)) (.meth (.val (.str [])) 0 (.cons c_law_4 .nil)))
  (.cons
  (.ite (.bop true (.cmp (.fn 69 (.cons (.loc 150) .nil)) (.one .NotEq (.fn 68 (.cons (.loc 150) .nil)))) (.cmp (.fn 63 (.cons (.loc 150) (.cons (.blt 0 (.cons (.loc 150) .nil)) .nil))) (.one .IsNot (.val .none)))) (.cons
  (.ret (.val (.bool false)))
  .nil) .nil)
  (.cons
  (.asg (.one (.name 176)) (.meth (.bin .Add (.bin .Add (.bin .Add (.glb 108) (.val (.str [32]))) (.glb 109)) (.val (.str [32, 110, 117, 108, 108, 32, 116, 114, 117, 101, 32, 102, 97, 108, 115, 101]))) 2 (.cons (.val (.str [32])) .nil)))
  (.cons
  (.asg (.one (.name 180)) (.meth (.glb 110) 2 (.cons (.val (.str [32])) .nil)))
  (.cons
  f_law_8
  (.cons
  (.ret (.val (.bool true)))
  .nil)))))))))))))
noncomputable def d_law : RFD := ⟨[178], b_law⟩
noncomputable def b_m___init__ : RSs := (.cons
  (.asg (.one (.att (.loc 183) 6)) (.loc 6))
  (.cons
  (.asg (.one (.att (.loc 183) 7)) (.val (.int 0)))
  (.cons
  (.asg (.one (.att (.loc 183) 8)) (.lst .nil))
  (.cons
  (.asg (.one (.att (.loc 183) 9)) (.lst .nil))
  .nil))))
noncomputable def d_m___init__ : RFD := ⟨[183, 6], b_m___init__⟩
noncomputable def b_m_skip : RSs := (.cons
  (.asg (.one (.att (.loc 183) 7)) (.fn 55 (.cons (.att (.loc 183) 6) (.cons (.att (.loc 183) 7) .nil))))
  (.cons
  (.ret (.fn 54 (.cons (.att (.loc 183) 6) (.cons (.att (.loc 183) 7) .nil))))
  .nil))
noncomputable def d_m_skip : RFD := ⟨[183], b_m_skip⟩
noncomputable def b_m_take_key : RSs := (.cons
  (.expr (.meth (.loc 183) 73 .nil))
  (.cons
  (.asg (.tup [(.name 154), (.att (.loc 183) 7)]) (.fn 58 (.cons (.att (.loc 183) 6) (.cons (.att (.loc 183) 7) .nil))))
  (.cons
  (.ite (.cmp (.meth (.loc 183) 73 .nil) (.one .NotEq (.val (.str [58])))) (.cons
  (.expr (.fn 53 (.cons (.att (.loc 183) 6) (.cons (.att (.loc 183) 7) .nil))))
  .nil) .nil)
  (.cons
  (.augA (.loc 183) 7 (.val (.int 1)))
  (.cons
  (.expr (.meth (.att (.loc 183) 9) 4 (.cons (.loc 154) .nil)))
  .nil)))))
noncomputable def d_m_take_key : RFD := ⟨[183], b_m_take_key⟩
noncomputable def b_m_opened : RSs := (.cons
  (.augA (.loc 183) 7 (.val (.int 1)))
  (.cons
  (.ite (.cmp (.meth (.loc 183) 73 .nil) (.one .Eq (.idx (.glb 103) (.loc 143)))) (.cons
  (.augA (.loc 183) 7 (.val (.int 1)))
  (.cons
  (.ret (.tup (.cons (.loc 143) (.cons (.lst .nil) .nil))))
  .nil)) .nil)
  (.cons
  (.expr (.meth (.att (.loc 183) 8) 4 (.cons (.tup (.cons (.loc 143) (.cons (.lst .nil) .nil))) .nil)))
  (.cons
  (.ite (.cmp (.loc 143) (.one .Eq (.val (.str [111, 98, 106, 101, 99, 116])))) (.cons
  (.expr (.meth (.loc 183) 74 .nil))
  .nil) .nil)
  (.cons
  (.ret (.val .none))
  .nil)))))
noncomputable def d_m_opened : RFD := ⟨[183, 143], b_m_opened⟩
noncomputable def b_m_next_tree : RSs := (.cons
  (.asg (.one (.name 116)) (.meth (.loc 183) 73 .nil))
  (.cons
  (.ite (.cmp (.loc 116) (.one .Eq (.val (.str [91])))) (.cons
  (.ret (.meth (.loc 183) 75 (.cons (.val (.str [97, 114, 114, 97, 121])) .nil)))
  .nil) .nil)
  (.cons
  (.ite (.cmp (.loc 116) (.one .Eq (.val (.str [123])))) (.cons
  (.ret (.meth (.loc 183) 75 (.cons (.val (.str [111, 98, 106, 101, 99, 116])) .nil)))
  .nil) .nil)
  (.cons
  (.asg (.tup [(.name 142), (.att (.loc 183) 7)]) (.fn 59 (.cons (.att (.loc 183) 6) (.cons (.att (.loc 183) 7) .nil))))
  (.cons
  (.ret (.loc 142))
  .nil)))))
noncomputable def d_m_next_tree : RFD := ⟨[183], b_m_next_tree⟩
noncomputable def wb_m_settled_0 : RSs := (.cons
  (.asg (.tup [(.name 143), (.name 151)]) (.idx (.att (.loc 183) 8) (.un .USub (.val (.int 1)))))
  (.cons
  (.expr (.meth (.loc 151) 4 (.cons (.ite (.cmp (.loc 143) (.one .Eq (.val (.str [97, 114, 114, 97, 121])))) (.loc 142) (.tup (.cons (.meth (.att (.loc 183) 9) 5 .nil) (.cons (.loc 142) .nil)))) .nil)))
  (.cons
  (.asg (.one (.name 116)) (.meth (.loc 183) 73 .nil))
  (.cons
  (.ite (.cmp (.loc 116) (.one .Eq (.val (.str [44])))) (.cons
  (.augA (.loc 183) 7 (.val (.int 1)))
  (.cons
  (.ite (.cmp (.loc 143) (.one .Eq (.val (.str [111, 98, 106, 101, 99, 116])))) (.cons
  (.expr (.meth (.loc 183) 74 .nil))
  .nil) .nil)
  (.cons
  (.ret (.val .none))
  .nil))) .nil)
  (.cons
  (.ite (.cmp (.loc 116) (.one .NotEq (.idx (.glb 103) (.loc 143)))) (.cons
  (.expr (.fn 53 (.cons (.att (.loc 183) 6) (.cons (.att (.loc 183) 7) .nil))))
  .nil) .nil)
  (.cons
  (.augA (.loc 183) 7 (.val (.int 1)))
  (.cons
  (.asg (.one (.name 142)) (.meth (.att (.loc 183) 8) 5 .nil))
  .nil)))))))
noncomputable def w_m_settled_1 : RS := (.whl (.cmp (.blt 0 (.cons (.att (.loc 183) 8) .nil)) (.one .Gt (.val (.int 0)))) wb_m_settled_0)
noncomputable def b_m_settled : RSs := (.cons
  w_m_settled_1
  (.cons
  (.ret (.loc 142))
  .nil))
noncomputable def d_m_settled : RFD := ⟨[183, 142], b_m_settled⟩
noncomputable def wb_m_whole_0 : RSs := (.cons
  (.asg (.one (.name 142)) (.meth (.loc 183) 76 .nil))
  (.cons
  (.ite (.cmp (.loc 142) (.one .IsNot (.val .none))) (.cons
  (.asg (.one (.name 129)) (.meth (.loc 183) 77 (.cons (.loc 142) .nil)))
  .nil) .nil)
  .nil))
noncomputable def w_m_whole_1 : RS := (.whl (.cmp (.loc 129) (.one .Is (.val .none))) wb_m_whole_0)
noncomputable def b_m_whole : RSs := (.cons
  (.asg (.one (.name 129)) (.val .none))
  (.cons
  w_m_whole_1
  (.cons
  (.ite (.cmp (.meth (.loc 183) 73 .nil) (.one .NotEq (.val (.str [])))) (.cons
  (.expr (.fn 53 (.cons (.att (.loc 183) 6) (.cons (.att (.loc 183) 7) .nil))))
  .nil) .nil)
  (.cons
  (.ret (.loc 129))
  .nil))))
noncomputable def d_m_whole : RFD := ⟨[183], b_m_whole⟩
noncomputable def g_SIGN_BIT : V := (.int 9223372036854775808)
noncomputable def g_FRACTION_BITS : V := (.int 52)
noncomputable def g_FRACTION_MASK : V := (.int 4503599627370495)
noncomputable def g_HIDDEN_BIT_dbits : V := (.int 4503599627370496)
noncomputable def g_EXPONENT_MASK : V := (.int 2047)
noncomputable def g_EXPONENT_SHIFT : V := (.int 1075)
noncomputable def g_LEAST_POWER_dbits : V := (.int (-1074))
noncomputable def g_ZERO : V := (.int 0)
noncomputable def g_NEG_ZERO : V := (.int 9223372036854775808)
noncomputable def g_INF : V := (.int 9218868437227405312)
noncomputable def g_NEG_INF : V := (.int 18442240474082181120)
noncomputable def g_NAN : V := (.int 9221120237041090560)
noncomputable def g_LEAST_POWER_numshow : V := (.int (-1074))
noncomputable def g_HIDDEN_BIT_numshow : V := (.int 4503599627370496)
noncomputable def g_JSON_SMALL_HEX : V := (.str [48, 49, 50, 51, 52, 53, 54, 55, 56, 57, 97, 98, 99, 100, 101, 102])
noncomputable def g_JSON_SHORT : V := (.dct [([34], (.str [92, 34])), ([92], (.str [92, 92])), ([8], (.str [92, 98])), ([12], (.str [92, 102])), ([10], (.str [92, 110])), ([13], (.str [92, 114])), ([9], (.str [92, 116]))])
noncomputable def g_LETTERS : V := (.lst [(.tup [(.int 170), (.int 170)]), (.tup [(.int 181), (.int 181)]), (.tup [(.int 186), (.int 186)]), (.tup [(.int 192), (.int 214)]), (.tup [(.int 216), (.int 246)]), (.tup [(.int 248), (.int 705)]), (.tup [(.int 880), (.int 883)]), (.tup [(.int 886), (.int 887)]), (.tup [(.int 891), (.int 893)]), (.tup [(.int 902), (.int 902)]), (.tup [(.int 904), (.int 906)]), (.tup [(.int 908), (.int 908)]), (.tup [(.int 910), (.int 929)]), (.tup [(.int 931), (.int 1013)]), (.tup [(.int 1015), (.int 1153)]), (.tup [(.int 1162), (.int 1315)]), (.tup [(.int 1329), (.int 1366)]), (.tup [(.int 1377), (.int 1415)]), (.tup [(.int 1488), (.int 1514)]), (.tup [(.int 1569), (.int 1594)]), (.tup [(.int 1601), (.int 1610)]), (.tup [(.int 2308), (.int 2361)]), (.tup [(.int 4256), (.int 4293)]), (.tup [(.int 4304), (.int 4346)]), (.tup [(.int 7680), (.int 7835)]), (.tup [(.int 7840), (.int 7929)]), (.tup [(.int 8544), (.int 8578)]), (.tup [(.int 12353), (.int 12438)]), (.tup [(.int 12449), (.int 12538)]), (.tup [(.int 12549), (.int 12588)]), (.tup [(.int 19968), (.int 40891)]), (.tup [(.int 44032), (.int 55203)])])
noncomputable def g_PARTS : V := (.lst [(.tup [(.int 768), (.int 879)]), (.tup [(.int 1632), (.int 1641)]), (.tup [(.int 2406), (.int 2415)]), (.tup [(.int 8204), (.int 8205)]), (.tup [(.int 8255), (.int 8256)]), (.tup [(.int 8276), (.int 8276)])])
noncomputable def g_FARTHEST : V := (.int 400)
noncomputable def g_JSON_BLANKS : V := (.str [32, 9, 10, 13])
noncomputable def g_JSON_DIGITS : V := (.str [48, 49, 50, 51, 52, 53, 54, 55, 56, 57])
noncomputable def g_JSON_HEX : V := (.str [48, 49, 50, 51, 52, 53, 54, 55, 56, 57, 97, 98, 99, 100, 101, 102, 65, 66, 67, 68, 69, 70])
noncomputable def g_JSON_ESCAPES : V := (.dct [([34], (.str [34])), ([92], (.str [92])), ([47], (.str [47])), ([98], (.str [8])), ([102], (.str [12])), ([110], (.str [10])), ([114], (.str [13])), ([116], (.str [9]))])
noncomputable def g_JSON_WORDS : V := (.tup [(.tup [(.str [110, 117, 108, 108]), (.tup [(.str [110, 117, 108, 108]), .none])]), (.tup [(.str [116, 114, 117, 101]), (.tup [(.str [98, 111, 111, 108]), (.bool true)])]), (.tup [(.str [102, 97, 108, 115, 101]), (.tup [(.str [98, 111, 111, 108]), (.bool false)])])])
noncomputable def g_JSON_CLOSERS : V := (.dct [([97, 114, 114, 97, 121], (.str [93])), ([111, 98, 106, 101, 99, 116], (.str [125]))])
noncomputable def g_KEYWORDS : V := (.lst [(.str [98, 114, 101, 97, 107]), (.str [99, 97, 115, 101]), (.str [99, 97, 116, 99, 104]), (.str [99, 111, 110, 116, 105, 110, 117, 101]), (.str [100, 101, 98, 117, 103, 103, 101, 114]), (.str [100, 101, 102, 97, 117, 108, 116]), (.str [100, 101, 108, 101, 116, 101]), (.str [100, 111]), (.str [101, 108, 115, 101]), (.str [102, 105, 110, 97, 108, 108, 121]), (.str [102, 111, 114]), (.str [102, 117, 110, 99, 116, 105, 111, 110]), (.str [105, 102]), (.str [105, 110]), (.str [105, 110, 115, 116, 97, 110, 99, 101, 111, 102]), (.str [110, 101, 119]), (.str [114, 101, 116, 117, 114, 110]), (.str [115, 119, 105, 116, 99, 104]), (.str [116, 104, 105, 115]), (.str [116, 104, 114, 111, 119]), (.str [116, 114, 121]), (.str [116, 121, 112, 101, 111, 102]), (.str [118, 97, 114]), (.str [118, 111, 105, 100]), (.str [119, 104, 105, 108, 101]), (.str [119, 105, 116, 104]), (.str [99, 108, 97, 115, 115]), (.str [99, 111, 110, 115, 116]), (.str [101, 110, 117, 109]), (.str [101, 120, 112, 111, 114, 116]), (.str [101, 120, 116, 101, 110, 100, 115]), (.str [105, 109, 112, 111, 114, 116]), (.str [115, 117, 112, 101, 114]), (.str [110, 117, 108, 108]), (.str [116, 114, 117, 101]), (.str [102, 97, 108, 115, 101])])
noncomputable def g_STRICT_WORDS : V := (.lst [(.str [105, 109, 112, 108, 101, 109, 101, 110, 116, 115]), (.str [105, 110, 116, 101, 114, 102, 97, 99, 101]), (.str [108, 101, 116]), (.str [112, 97, 99, 107, 97, 103, 101]), (.str [112, 114, 105, 118, 97, 116, 101]), (.str [112, 114, 111, 116, 101, 99, 116, 101, 100]), (.str [112, 117, 98, 108, 105, 99]), (.str [115, 116, 97, 116, 105, 99]), (.str [121, 105, 101, 108, 100])])
noncomputable def g_PUNCTS : V := (.lst [(.str [62, 62, 62, 61]), (.str [61, 61, 61]), (.str [33, 61, 61]), (.str [62, 62, 62]), (.str [60, 60, 61]), (.str [62, 62, 61]), (.str [60, 61]), (.str [62, 61]), (.str [61, 61]), (.str [33, 61]), (.str [43, 43]), (.str [45, 45]), (.str [60, 60]), (.str [62, 62]), (.str [38, 38]), (.str [124, 124]), (.str [43, 61]), (.str [45, 61]), (.str [42, 61]), (.str [37, 61]), (.str [38, 61]), (.str [124, 61]), (.str [94, 61]), (.str [47, 61]), (.str [123]), (.str [125]), (.str [40]), (.str [41]), (.str [91]), (.str [93]), (.str [46]), (.str [59]), (.str [44]), (.str [60]), (.str [62]), (.str [43]), (.str [45]), (.str [42]), (.str [37]), (.str [38]), (.str [124]), (.str [94]), (.str [33]), (.str [126]), (.str [63]), (.str [58]), (.str [61]), (.str [47])])
noncomputable def g_PUNCT_TABLE : V := (.dct [([62, 62, 62, 61], (.bool true)), ([61, 61, 61], (.bool true)), ([33, 61, 61], (.bool true)), ([62, 62, 62], (.bool true)), ([60, 60, 61], (.bool true)), ([62, 62, 61], (.bool true)), ([60, 61], (.bool true)), ([62, 61], (.bool true)), ([61, 61], (.bool true)), ([33, 61], (.bool true)), ([43, 43], (.bool true)), ([45, 45], (.bool true)), ([60, 60], (.bool true)), ([62, 62], (.bool true)), ([38, 38], (.bool true)), ([124, 124], (.bool true)), ([43, 61], (.bool true)), ([45, 61], (.bool true)), ([42, 61], (.bool true)), ([37, 61], (.bool true)), ([38, 61], (.bool true)), ([124, 61], (.bool true)), ([94, 61], (.bool true)), ([47, 61], (.bool true)), ([123], (.bool true)), ([125], (.bool true)), ([40], (.bool true)), ([41], (.bool true)), ([91], (.bool true)), ([93], (.bool true)), ([46], (.bool true)), ([59], (.bool true)), ([44], (.bool true)), ([60], (.bool true)), ([62], (.bool true)), ([43], (.bool true)), ([45], (.bool true)), ([42], (.bool true)), ([37], (.bool true)), ([38], (.bool true)), ([124], (.bool true)), ([94], (.bool true)), ([33], (.bool true)), ([126], (.bool true)), ([63], (.bool true)), ([58], (.bool true)), ([61], (.bool true)), ([47], (.bool true))])
noncomputable def g__law_reserved : V := (.str [98, 114, 101, 97, 107, 32, 99, 97, 115, 101, 32, 99, 97, 116, 99, 104, 32, 99, 111, 110, 116, 105, 110, 117, 101, 32, 100, 101, 98, 117, 103, 103, 101, 114, 32, 100, 101, 102, 97, 117, 108, 116, 32, 100, 101, 108, 101, 116, 101, 32, 100, 111, 32, 101, 108, 115, 101, 32, 102, 105, 110, 97, 108, 108, 121, 32, 102, 111, 114, 32, 102, 117, 110, 99, 116, 105, 111, 110, 32, 105, 102, 32, 105, 110, 32, 105, 110, 115, 116, 97, 110, 99, 101, 111, 102, 32, 110, 101, 119])
noncomputable def g__law_other : V := (.str [114, 101, 116, 117, 114, 110, 32, 115, 119, 105, 116, 99, 104, 32, 116, 104, 105, 115, 32, 116, 104, 114, 111, 119, 32, 116, 114, 121, 32, 116, 121, 112, 101, 111, 102, 32, 118, 97, 114, 32, 118, 111, 105, 100, 32, 119, 104, 105, 108, 101, 32, 119, 105, 116, 104, 32, 99, 108, 97, 115, 115, 32, 99, 111, 110, 115, 116, 32, 101, 110, 117, 109, 32, 101, 120, 112, 111, 114, 116, 32, 101, 120, 116, 101, 110, 100, 115, 32, 105, 109, 112, 111, 114, 116, 32, 115, 117, 112, 101, 114])
noncomputable def g__law_strict : V := (.str [105, 109, 112, 108, 101, 109, 101, 110, 116, 115, 32, 105, 110, 116, 101, 114, 102, 97, 99, 101, 32, 108, 101, 116, 32, 112, 97, 99, 107, 97, 103, 101, 32, 112, 114, 105, 118, 97, 116, 101, 32, 112, 114, 111, 116, 101, 99, 116, 101, 100, 32, 112, 117, 98, 108, 105, 99, 32, 115, 116, 97, 116, 105, 99, 32, 121, 105, 101, 108, 100])
noncomputable def g__law_puncts : V := (.str [123, 32, 125, 32, 40, 32, 41, 32, 91, 32, 93, 32, 46, 32, 59, 32, 44, 32, 60, 32, 62, 32, 60, 61, 32, 62, 61, 32, 61, 61, 32, 33, 61, 32, 61, 61, 61, 32, 33, 61, 61, 32, 43, 32, 45, 32, 42, 32, 47, 32, 37, 32, 43, 43, 32, 45, 45, 32, 60, 60, 32, 62, 62, 32, 62, 62, 62, 32, 38, 32, 124, 32, 94, 32, 33, 32, 126, 32, 38, 38, 32, 124, 124, 32, 63, 32, 58, 32, 61, 32, 43, 61, 32, 45, 61, 32, 42, 61, 32, 47, 61])
noncomputable def g__law_long : V := (.str [37, 61, 32, 60, 60, 61, 32, 62, 62, 61, 32, 62, 62, 62, 61, 32, 38, 61, 32, 124, 61, 32, 94, 61])
noncomputable def GL : Nat → V
  | 79 => g_SIGN_BIT
  | 80 => g_FRACTION_BITS
  | 81 => g_FRACTION_MASK
  | 82 => g_HIDDEN_BIT_dbits
  | 83 => g_EXPONENT_MASK
  | 84 => g_EXPONENT_SHIFT
  | 85 => g_LEAST_POWER_dbits
  | 86 => g_ZERO
  | 87 => g_NEG_ZERO
  | 88 => g_INF
  | 89 => g_NEG_INF
  | 90 => g_NAN
  | 91 => g_LEAST_POWER_numshow
  | 92 => g_HIDDEN_BIT_numshow
  | 93 => g_JSON_SMALL_HEX
  | 94 => g_JSON_SHORT
  | 95 => g_LETTERS
  | 96 => g_PARTS
  | 97 => g_FARTHEST
  | 98 => g_JSON_BLANKS
  | 99 => g_JSON_DIGITS
  | 100 => g_JSON_HEX
  | 101 => g_JSON_ESCAPES
  | 102 => g_JSON_WORDS
  | 103 => g_JSON_CLOSERS
  | 104 => g_KEYWORDS
  | 105 => g_STRICT_WORDS
  | 106 => g_PUNCTS
  | 107 => g_PUNCT_TABLE
  | 108 => g__law_reserved
  | 109 => g__law_other
  | 110 => g__law_strict
  | 111 => g__law_puncts
  | 112 => g__law_long
  | _ => .none
noncomputable def TF : Nat → Option RFD
  | 10 => some d_width
  | 11 => some d_pack
  | 12 => some d_is_negative
  | 13 => some d_is_nan
  | 14 => some d_is_inf
  | 15 => some d_is_finite
  | 16 => some d_is_zero
  | 17 => some d_signed
  | 18 => some d_parts
  | 19 => some d_quotient
  | 20 => some d_round_ratio
  | 21 => some d_assembled
  | 22 => some d_from_int
  | 23 => some d_scaled
  | 24 => some d_decimal_place
  | 25 => some d_first_place
  | 26 => some d_shortest
  | 27 => some d_last_figure
  | 28 => some d_signed_exponent
  | 29 => some d_with_exponent
  | 30 => some d_laid_out
  | 31 => some d_without_figures
  | 32 => some d_show
  | 33 => some d_json_quoted_sign
  | 34 => some d_json_quoted
  | 35 => some d_json_number_text
  | 36 => some d_json_plain_text
  | 37 => some d_json_rows
  | 38 => some d_json_laid
  | 39 => some d_show_json
  | 40 => some d_json_without_skips
  | 41 => some d_is_among
  | 42 => some d_is_digit
  | 43 => some d_is_id_start
  | 44 => some d_is_id_part
  | 45 => some d_is_name
  | 46 => some d_figure_of
  | 47 => some d_run_end
  | 48 => some d_worth
  | 49 => some d_from_decimal
  | 50 => some d_sign_at
  | 51 => some d_turned
  | 52 => some d_exponent_at
  | 54 => some d_json_sign
  | 55 => some d_skip_json_blanks
  | 56 => some d_json_number
  | 57 => some d_json_hex_unit
  | 58 => some d_json_string
  | 59 => some d_json_plain
  | 60 => some d_read_json
  | 61 => some d_is_keyword
  | 62 => some d_is_strict_word
  | 63 => some d_punct_at
  | 64 => some d__law_take
  | 65 => some d__law_tree
  | 66 => some d__law_pruned
  | 67 => some d__law_is_name
  | 68 => some d__law_cut
  | 69 => some d__law_cut_by
  | 70 => some d_law
  | _ => none
noncomputable def TM : Nat → Option RFD
  | 72 => some d_m___init__
  | 73 => some d_m_skip
  | 74 => some d_m_take_key
  | 75 => some d_m_opened
  | 76 => some d_m_next_tree
  | 77 => some d_m_settled
  | 78 => some d_m_whole
  | _ => none
noncomputable def NMs : List String := ["join", "lstrip", "split", "upper", "append", "pop", "text", "at", "waiting", "keys", "width", "pack", "is_negative",
 "is_nan", "is_inf", "is_finite", "is_zero", "signed", "parts", "quotient", "round_ratio", "assembled", "from_int",
 "scaled", "decimal_place", "first_place", "shortest", "last_figure", "signed_exponent", "with_exponent", "laid_out",
 "without_figures", "show", "json_quoted_sign", "json_quoted", "json_number_text", "json_plain_text", "json_rows",
 "json_laid", "show_json", "json_without_skips", "is_among", "is_digit", "is_id_start", "is_id_part", "is_name",
 "figure_of", "run_end", "worth", "from_decimal", "sign_at", "turned", "exponent_at", "refuse_json", "json_sign",
 "skip_json_blanks", "json_number", "json_hex_unit", "json_string", "json_plain", "read_json", "is_keyword",
 "is_strict_word", "punct_at", "_law_take", "_law_tree", "_law_pruned", "_law_is_name", "_law_cut", "_law_cut_by",
 "law", "JsonReader", "__init__", "skip", "take_key", "opened", "next_tree", "settled", "whole", "SIGN_BIT",
 "FRACTION_BITS", "FRACTION_MASK", "HIDDEN_BIT_dbits", "EXPONENT_MASK", "EXPONENT_SHIFT", "LEAST_POWER_dbits", "ZERO",
 "NEG_ZERO", "INF", "NEG_INF", "NAN", "LEAST_POWER_numshow", "HIDDEN_BIT_numshow", "JSON_SMALL_HEX", "JSON_SHORT",
 "LETTERS", "PARTS", "FARTHEST", "JSON_BLANKS", "JSON_DIGITS", "JSON_HEX", "JSON_ESCAPES", "JSON_WORDS", "JSON_CLOSERS",
 "KEYWORDS", "STRICT_WORDS", "PUNCTS", "PUNCT_TABLE", "_law_reserved", "_law_other", "_law_strict", "_law_puncts",
 "_law_long", "n", "many", "step", "sign", "exponent", "fraction", "bits", "top", "bottom", "power", "rest", "unit",
 "mantissa", "is_edge", "factor", "above", "found", "number", "is_even", "edge", "limit", "below", "place", "figure",
 "is_low", "is_high", "figures", "size", "told", "tree", "kind", "value", "opener", "closer", "some", "gap", "indent",
 "row", "items", "item", "colon", "key", "code", "ranges", "first", "last", "radix", "begin", "end", "is_minus", "far",
 "point", "behind", "spot", "chr", "word", "piece", "tube", "deep", "form", "turn", "one", "plain", "known", "longest",
 "script", "shown", "strict", "near", "other", "self"]
noncomputable def nmR (i : Nat) : Str := N (NMs.getD i "")
noncomputable def cId : Nat := 71
noncomputable def iId : Nat := 72
noncomputable def RP : RPg := ⟨GL, nmR, fun m f => match m with | true => TM f | false => TF f, cId, iId⟩
end Mine
end
section
open PySem
namespace Mine.R
noncomputable def CK : Ck := ⟨nmR, 184, GL, PP⟩
noncomputable def memStr (x : List Nat) : List (List Nat) → Bool
  | [] => false
  | y :: r => match leq x y with | true => true | false => memStr x r
theorem memStr_1 (x y : List Nat) (r : List (List Nat)) : memStr x (y :: r) = match leq x y with
    | true => true
    | false => memStr x r := rfl
noncomputable def nodupS : List (List Nat) → Bool
  | [] => true
  | x :: r => !memStr x r && nodupS r
theorem memStr_of {x : List Nat} : ∀ {l : List (List Nat)}, x ∈ l → memStr x l = true
  | y :: r, h => by
    rw [memStr_1]
    cases q : leq x y with
    | true => rfl
    | false =>
      rcases List.mem_cons.mp h with e | e
      · rw [e, leq_iff.mpr rfl] at q; cases q
      · exact memStr_of e
theorem nodupS_ok : ∀ {l : List (List Nat)}, nodupS l = true → l.Nodup
  | [], _ => List.nodup_nil
  | x :: r, h => by
    rw [nodupS, Bool.and_eq_true, Bool.not_eq_true'] at h
    refine List.nodup_cons.mpr ⟨fun m => ?_, nodupS_ok h.2⟩
    rw [memStr_of m] at h
    cases h.1
noncomputable def NMc : List (List Nat) := NMs.map fun x => cps (N x)
theorem nmc_nodup : NMc.Nodup := nodupS_ok (by decide +kernel)
theorem nmc_dot : memStr (cps dot0) NMc = false := by decide +kernel
theorem nms_len : NMs.length = 184 := by decide +kernel
theorem cps_nm {i : Nat} (h : i < 184) : NMc[i]? = some (cps (nmR i)) := by
  have h' : i < NMs.length := by rw [nms_len]; exact h
  unfold NMc
  rw [List.getElem?_map, List.getElem?_eq_getElem h', Option.map_some]
  unfold nmR
  rw [List.getD_eq_getElem?_getD, List.getElem?_eq_getElem h', Option.getD_some]
theorem ckOk : CkOk CK := by
  refine ⟨fun i j hi hj h => ?_, fun i hi h => ?_⟩
  · have a := cps_nm hi
    have b := cps_nm hj
    rw [show nmR i = nmR j from h] at a
    exact (List.getElem?_inj (List.getElem?_eq_some_iff.mp a).1 nmc_nodup).mp (a.trans b.symm)
  · have a := cps_nm hi
    rw [show nmR i = dot0 from h] at a
    have := memStr_of (List.mem_of_getElem? a)
    rw [nmc_dot] at this
    cases this
noncomputable def okFn (m : Bool) (i : Nat) : Bool := match RP.defs m i with
  | some d => match PP.defs m (nmR i) with
    | some fd => mFD CK d fd
    | none => false
  | none => true
noncomputable def okAll (m : Bool) : Nat → Bool
  | 0 => true
  | n + 1 => okFn m n && okAll m n
theorem okAll_1 (m : Bool) (n : Nat) : okAll m n.succ = (okFn m n && okAll m n) := rfl
theorem okAll_ok {m : Bool} : ∀ {n i : Nat}, okAll m n = true → i < n → okFn m i = true
  | n + 1, i, h, hi => by
    rw [okAll_1, Bool.and_eq_true] at h
    by_cases e : i = n
    · rw [e]; exact h.1
    · exact okAll_ok h.2 (by (first | lia | omega))
theorem all_f : okAll false 71 = true := by decide +kernel
theorem all_m : okAll true 79 = true := by decide +kernel
noncomputable def clsOff : Nat → Bool
  | 0 => true
  | n + 1 => (Nat.beq n cId || !PP.cls (nmR n)) && clsOff n
theorem clsOff_ok : ∀ {n i : Nat}, clsOff n = true → i < n → i ≠ cId → PP.cls (nmR i) = false
  | n + 1, i, h, hi, hc => by
    rw [clsOff, Bool.and_eq_true, Bool.or_eq_true] at h
    by_cases e : i = n
    · subst e
      rcases h.1 with q | q
      · exact absurd (Nat.eq_of_beq_eq_true q) hc
      · rw [Bool.not_eq_true'] at q; exact q
    · exact clsOff_ok h.2 (by (first | lia | omega)) hc
theorem TF_ge (n : Nat) : TF (n + 71) = none := by kernel_rfl
theorem TM_ge (n : Nat) : TM (n + 79) = none := by kernel_rfl
theorem TF_lt {f : Nat} {d : RFD} (h : TF f = some d) : f < 71 := by
  rcases Nat.lt_or_ge f 71 with q | q
  · exact q
  · rw [← Nat.sub_add_cancel q, TF_ge] at h; cases h
theorem TM_lt {f : Nat} {d : RFD} (h : TM f = some d) : f < 79 := by
  rcases Nat.lt_or_ge f 79 with q | q
  · exact q
  · rw [← Nat.sub_add_cancel q, TM_ge] at h; cases h
theorem pgR : PgR CK RP := by
  refine ⟨rfl, rfl, fun m f d h => ?_, by decide, by decide +kernel, by decide +kernel, fun f hf hc => clsOff_ok (n := 184) (by decide +kernel) hf hc⟩
  have hk : okFn m f = true := by
    cases m
    · exact okAll_ok all_f (TF_lt h)
    · exact okAll_ok all_m (TM_lt h)
  unfold okFn at hk
  rw [h] at hk
  dsimp only at hk
  split at hk
  · rename_i fd e
    exact ⟨fd, e, hk⟩
  · cases hk
/-- the resolved run tells the program's -/
theorem rF_callF {n : Nat} {m : Bool} {f : Nat} {vs : List V} {H : Hp} {r : V × Hp} (hf : f < 184) (q : rF RP n m f vs H = some r) : callF PP n m (nmR f) vs H = some r :=
  rF_ok ckOk pgR n hf r q
end Mine.R
end
section
namespace Mine.R
open PySem
noncomputable def cx (k : Nat) : RCx := ⟨GL, nmR, rF RP k⟩
theorem cx_call (k : Nat) (m : Bool) (f : Nat) (vs : List V) (H : Hp) : (cx k).call m f vs H = rF RP k m f vs H := rfl
theorem cx_nm (k : Nat) : (cx k).nm = nmR := rfl
theorem l_rev_0 (C : RCx) (v) (ρ : Env) (H : Hp) : rev C (.val v) ρ H = some (v, H) := rfl
theorem l_rev_1 (C : RCx) (i) (ρ : Env) (H : Hp) : rev C (.glb i) ρ H = some (C.glb i, H) := rfl
theorem l_rev_2 (C : RCx) (i) (ρ : Env) (H : Hp) : rev C (.loc i) ρ H = match rlk i ρ with
    | some v => some (v, H)
    | none => none := rfl
theorem l_rev_3 (C : RCx) (op) (a) (b) (ρ : Env) (H : Hp) : rev C (.bin op a b) ρ H = match rev C a ρ H with
    | some (x, H) => match rev C b ρ H with
      | some (y, H) => match binop op H x y with
        | some v => some (v, H)
        | none => none
      | none => none
    | none => none := rfl
theorem l_rev_4 (C : RCx) (op) (a) (ρ : Env) (H : Hp) : rev C (.un op a) ρ H = match rev C a ρ H with
    | some (x, H) => match unop op x with
      | some v => some (v, H)
      | none => none
    | none => none := rfl
theorem l_rev_5 (C : RCx) (a) (ρ : Env) (H : Hp) : rev C (.tnot a) ρ H = match rev C a ρ H with
    | some (x, H) => match rtruth x with
      | some b => some (.bool !b, H)
      | none => none
    | none => none := rfl
theorem l_rev_6 (C : RCx) (isOr) (a) (b) (ρ : Env) (H : Hp) : rev C (.bop isOr a b) ρ H = match rev C a ρ H with
    | some (x, H) => match rtruth x with
      | some t => match isOr, t with
        | false, false => some (x, H)
        | false, true => rev C b ρ H
        | true, true => some (x, H)
        | true, false => rev C b ρ H
      | none => none
    | none => none := rfl
theorem l_rev_7 (C : RCx) (a) (cs) (ρ : Env) (H : Hp) : rev C (.cmp a cs) ρ H = match rev C a ρ H with
    | some (x, H) => match revC C x cs ρ H with
      | some (b, H) => some (.bool b, H)
      | none => none
    | none => none := rfl
theorem l_rev_8 (C : RCx) (t) (a) (b) (ρ : Env) (H : Hp) : rev C (.ite t a b) ρ H = match rev C t ρ H with
    | some (x, H) => match rtruth x with
      | some true => rev C a ρ H
      | some false => rev C b ρ H
      | none => none
    | none => none := rfl
theorem l_rev_9 (C : RCx) (es) (ρ : Env) (H : Hp) : rev C (.tup es) ρ H = match revs C es ρ H with
    | some (vs, H) => some (.tup vs, H)
    | none => none := rfl
theorem l_rev_10 (C : RCx) (es) (ρ : Env) (H : Hp) : rev C (.lst es) ρ H = match revs C es ρ H with
    | some (vs, H) => some (.ref H.length, H ++ [.list vs])
    | none => none := rfl
theorem l_rev_11 (C : RCx) (es) (ρ : Env) (H : Hp) : rev C (.lstI es) ρ H = match revs C es ρ H with
    | some (vs, H) => some (.lst vs, H)
    | none => none := rfl
theorem l_rev_12 (C : RCx) (elt) (xs) (it) (cond) (ρ : Env) (H : Hp) : rev C (.comp elt xs it cond) ρ H = match rev C it ρ H with
    | some (src, H) => match iter src with
      | some vs => match compF (fun v H => match rbind xs v with
          | some own => match rev C cond (own ++ ρ) H with
            | some (x, H) => match rtruth x with
              | some true => match rev C elt (own ++ ρ) H with
                | some (r, H) => some (some r, H)
                | none => none
              | some false => some (none, H)
              | none => none
            | none => none
          | none => none) vs H with
        | some (rs, H) => some (.lst rs, H)
        | none => none
      | none => none
    | none => none := rfl
theorem l_rev_13 (C : RCx) (o) (a) (ρ : Env) (H : Hp) : rev C (.att o a) ρ H = match rev C o ρ H with
    | some (.obj i, H) => match H[i]? with
      | some (.inst fs) => match lk (C.nm a) fs with
        | some v => some (v, H)
        | none => none
      | _ => none
    | _ => none := rfl
theorem l_rev_14 (C : RCx) (b) (lo) (hi) (ρ : Env) (H : Hp) : rev C (.sli b lo hi) ρ H = match rev C b ρ H with
    | some (bv, H) => match revO C lo ρ H with
      | some (l, H) => match revO C hi ρ H with
        | some (h, H) => match slice bv l h with
          | some v => some (v, H)
          | none => none
        | none => none
      | none => none
    | none => none := rfl
theorem l_rev_15 (C : RCx) (b) (i) (ρ : Env) (H : Hp) : rev C (.idx b i) ρ H = match rev C b ρ H with
    | some (bv, H) => match rev C i ρ H with
      | some (iv, H) => match sub H bv iv with
        | some v => some (v, H)
        | none => none
      | none => none
    | none => none := rfl
theorem l_rev_16 (C : RCx) (f) (args) (ρ : Env) (H : Hp) : rev C (.blt f args) ρ H = match revs C args ρ H with
    | some (vs, H) => match rblt f H vs with
      | some v => some (v, H)
      | none => none
    | none => none := rfl
theorem l_rev_17 (C : RCx) (f) (args) (ρ : Env) (H : Hp) : rev C (.fn f args) ρ H = match revs C args ρ H with
    | some (vs, H) => C.call false f vs H
    | none => none := rfl
theorem l_rev_18 (C : RCx) (o) (m) (args) (ρ : Env) (H : Hp) : rev C (.meth o m args) ρ H = match rev C o ρ H with
    | some (ov, H) => match ov with
      | .str l => match revs C args ρ H with
        | some (vs, H) => match rstrM m H l vs with
          | some v => some (v, H)
          | none => none
        | none => none
      | .ref i => match H[i]? with
        | some (.list _) => match revs C args ρ H with
          | some (vs, H) => match H[i]? with
            | some (.list xs) => rlistM m H i xs vs
            | _ => none
          | none => none
        | _ => none
      | .obj i => match H[i]? with
        | some (.inst fs) => match lk (C.nm m) fs with
          | none => match revs C args ρ H with
            | some (vs, H) => C.call true m (.obj i :: vs) H
            | none => none
          | some _ => none
        | _ => none
      | _ => none
    | none => none := rfl
theorem l_revs_0 (C : RCx) (ρ : Env) (H : Hp) : revs C (.nil) ρ H = some ([], H) := rfl
theorem l_revs_1 (C : RCx) (e) (es) (ρ : Env) (H : Hp) : revs C (.cons e es) ρ H = match rev C e ρ H with
    | some (v, H) => match revs C es ρ H with
      | some (vs, H) => some (v :: vs, H)
      | none => none
    | none => none := rfl
theorem l_revC_0 (C : RCx) (a : V) (op) (r) (ρ : Env) (H : Hp) : revC C a (.one op r) ρ H = match rev C r ρ H with
    | some (b, H) => match cmpop op H a b with
      | some c => some (c, H)
      | none => none
    | none => none := rfl
theorem l_revO_0 (C : RCx) (ρ : Env) (H : Hp) : revO C (.no) ρ H = some (none, H) := rfl
theorem l_revO_1 (C : RCx) (e) (ρ : Env) (H : Hp) : revO C (.yes e) ρ H = match rev C e ρ H with
    | some (.int i, H) => some (some i, H)
    | _ => none := rfl
theorem l_rex_0 (C : RCx) (e) (ρ : Env) (H : Hp) : rex C (.expr e) ρ H = match rev C e ρ H with
    | some (_, H) => some (.next, ρ, H)
    | none => none := rfl
theorem l_rex_1 (C : RCx) (e) (ρ : Env) (H : Hp) : rex C (.ret e) ρ H = match rev C e ρ H with
    | some (v, H) => some (.ret v, ρ, H)
    | none => none := rfl
theorem l_rex_2 (C : RCx) (t) (e) (ρ : Env) (H : Hp) : rex C (.asg t e) ρ H = match rev C e ρ H with
    | some (v, H) => match rtgtA C t v ρ H with
      | some (ρ, H) => some (.next, ρ, H)
      | none => none
    | none => none := rfl
theorem l_rex_3 (C : RCx) (x) (e) (ρ : Env) (H : Hp) : rex C (.augL x e) ρ H = augK (fun i => rup x (.int i) ρ) (rlk x ρ) (rev C e ρ H) := rfl
theorem l_rex_4 (C : RCx) (o) (a) (e) (ρ : Env) (H : Hp) : rex C (.augA o a e) ρ H = augAK (C.nm a) ρ (rev C o ρ H) (rev C e ρ) := rfl
theorem l_rex_5 (C : RCx) (t) (a) (b) (ρ : Env) (H : Hp) : rex C (.ite t a b) ρ H = match rev C t ρ H with
    | some (x, H) => match rtruth x with
      | some true => rexs C a ρ H
      | some false => rexs C b ρ H
      | none => none
    | none => none := rfl
theorem l_rex_6 (C : RCx) (t) (body) (ρ : Env) (H : Hp) : rex C (.whl t body) ρ H = rwhileF (fun ρ H => match rev C t ρ H with
      | some (x, H) => match rtruth x with
        | some b => some (b, H)
        | none => none
      | none => none) (fun ρ H => rexs C body ρ H) W ρ H := rfl
theorem l_rex_7 (C : RCx) (t) (it) (body) (ρ : Env) (H : Hp) : rex C (.for_ t it body) ρ H = match rev C it ρ H with
    | some (src, H) => match iter src with
      | some vs => rforF (fun v ρ H => match rtgtA C t v ρ H with
          | some (ρ, H) => rexs C body ρ H
          | none => none) vs ρ H
      | none => none
    | none => none := rfl
theorem l_rexs_0 (C : RCx) (ρ : Env) (H : Hp) : rexs C (.nil) ρ H = some (.next, ρ, H) := rfl
theorem l_rexs_1 (C : RCx) (s) (ss) (ρ : Env) (H : Hp) : rexs C (.cons s ss) ρ H = match rex C s ρ H with
    | some (.next, ρ, H) => rexs C ss ρ H
    | some (.ret v, ρ, H) => some (.ret v, ρ, H)
    | none => none := rfl
theorem rt0 (C : RCx) (ρ : Env) (H : Hp) : rtgts C [] [] ρ H = some (ρ, H) := rfl
theorem rt1 (C : RCx) (t : RT1) (ts : List RT1) (v : V) (vs : List V) (ρ : Env) (H : Hp) : rtgts C (t :: ts) (v :: vs) ρ H = match rtgt C t v ρ H with
    | some (ρ, H) => rtgts C ts vs ρ H
    | none => none := rfl
theorem rF_s (P : RPg) (k : Nat) (m : Bool) (f : Nat) (args : List V) (H : Hp) : rF P (k + 1) m f args H = match !m && (f == P.cls) with
    | true => match P.defs true P.ini with
      | some d => match rrun ⟨P.glb, P.nm, rF P k⟩ d (.obj H.length :: args) (H ++ [.inst []]) with
        | some (.none, H') => some (.obj H.length, H')
        | _ => none
      | none => none
    | false => match P.defs m f with
      | some d => match vpures args with
        | true => match rrun ⟨P.glb, P.nm, rF P k⟩ d args [] with
          | some (v, H') => match frz H' 100 v with
            | some v => some (v, H)
            | none => none
          | none => none
        | false => rrun ⟨P.glb, P.nm, rF P k⟩ d args H
      | none => none := rfl
theorem rF_fn {k f : Nat} {args : List V} {H H' : Hp} {d : RFD} {v w : V} (hd : RP.defs false f = some d) (hf : (!false && (f == RP.cls)) = false) (hp : vpures args = true) (q : rrun (cx k) d args [] = some (v, H')) (hz : frz H' 100 v = some w) :
    rF RP (k + 1) false f args H = some (w, H) := by
  rw [rF_s, hf, hd]
  dsimp only
  rw [hp]
  dsimp only
  rw [show rrun ⟨RP.glb, RP.nm, rF RP k⟩ d args [] = some (v, H') from q]
  dsimp only
  rw [hz]
theorem rF_fnH {k f : Nat} {args : List V} {H : Hp} {d : RFD} {r : V × Hp} (hd : RP.defs false f = some d) (hf : (!false && (f == RP.cls)) = false) (hp : vpures args = false) (q : rrun (cx k) d args H = some r) :
    rF RP (k + 1) false f args H = some r := by
  rw [rF_s, hf, hd]
  dsimp only
  rw [hp]
  exact q
theorem rF_m {k f i : Nat} {args : List V} {H : Hp} {d : RFD} {r : V × Hp} (hd : RP.defs true f = some d) (q : rrun (cx k) d (.obj i :: args) H = some r) :
    rF RP (k + 1) true f (.obj i :: args) H = some r := by
  rw [rF_s, hd]
  exact q
theorem rF_new {k : Nat} {args : List V} {H H' : Hp} (q : rrun (cx k) d_m___init__ (.obj H.length :: args) (H ++ [.inst []]) = some (.none, H')) :
    rF RP (k + 1) false 71 args H = some (.obj H.length, H') := by
  rw [rF_s, show (!false && (71 == RP.cls)) = true from rfl]
  dsimp only
  rw [show RP.defs true RP.ini = some d_m___init__ from rfl]
  dsimp only
  rw [show rrun ⟨RP.glb, RP.nm, rF RP k⟩ d_m___init__ (.obj H.length :: args) (H ++ [.inst []]) = some (.none, H') from q]

theorem ar0 (a b : Int) : arith .Add a b = some (a + b) := rfl
theorem ar1 (a b : Int) : arith .Sub a b = some (a - b) := rfl
theorem ar2 (a b : Int) : arith .Mult a b = match small a || small b with | true => some (a * b) | false => none := rfl
theorem ar3 (a b : Int) : arith .FloorDiv a b = match decide (b = 0), Nat.blt b.natAbs.log2 9000 with | false, true => some (a.fdiv b) | _, _ => none := rfl
theorem ar4 (a b : Int) : arith .Mod a b = match decide (b = 0) with | true => none | false => some (a.fmod b) := rfl
theorem cmp_eq (H : Hp) (a b : V) : cmpop .Eq H a b = eqV H a b := rfl
theorem cmp_ne (H : Hp) (a b : V) : cmpop .NotEq H a b = (eqV H a b).map fun x => !x := rfl
theorem cmp_lt (H : Hp) (a b : Int) : cmpop .Lt H (.int a) (.int b) = some (decide (a < b)) := rfl
theorem cmp_le (H : Hp) (a b : Int) : cmpop .LtE H (.int a) (.int b) = some (decide (a ≤ b)) := rfl
theorem cmp_gt (H : Hp) (a b : Int) : cmpop .Gt H (.int a) (.int b) = some (decide (b < a)) := rfl
theorem cmp_ge (H : Hp) (a b : Int) : cmpop .GtE H (.int a) (.int b) = some (decide (b ≤ a)) := rfl
theorem cmp_in (H : Hp) (a b : V) : cmpop .In H a b = inV H a b := rfl
theorem cmp_nin (H : Hp) (a b : V) : cmpop .NotIn H a b = (inV H a b).map fun x => !x := rfl
theorem cmp_isN (H : Hp) : cmpop .Is H .none .none = some true := rfl
theorem cmp_isT (H : Hp) (a : List V) : cmpop .Is H (.tup a) .none = some false := rfl
theorem cmp_isS (H : Hp) (a : List Nat) : cmpop .Is H (.str a) .none = some false := rfl
theorem cmp_isnN (H : Hp) : cmpop .IsNot H .none .none = some false := rfl
theorem cmp_isnT (H : Hp) (a : List V) : cmpop .IsNot H (.tup a) .none = some true := rfl
theorem cmp_isnS (H : Hp) (a : List Nat) : cmpop .IsNot H (.str a) .none = some true := rfl
theorem eqV_int (H : Hp) (a b : Int) : eqV H (.int a) (.int b) = some (decide (a = b)) := rfl
theorem eqV_str (H : Hp) (a b : List Nat) : eqV H (.str a) (.str b) = some (leq a b) := rfl
theorem eqV_bool (H : Hp) (a b : Bool) : eqV H (.bool a) (.bool b) = some (a == b) := rfl
theorem inV_ss (H : Hp) (a b : List Nat) : inV H (.str a) (.str b) = (one a).map fun c => memN c b := rfl
theorem inV_sd (H : Hp) (a : List Nat) (b : List (List Nat × V)) : inV H (.str a) (.dct b) = some (dlk a b).isSome := rfl
theorem binop_int (op : Operator) (H : Hp) (a b : Int) : binop op H (.int a) (.int b) = (arith op a b).map .int := rfl
theorem binop_ss (H : Hp) (a b : List Nat) : binop .Add H (.str a) (.str b) = match szOk (a.length + b.length) with | true => some (.str (a ++ b)) | false => none := rfl
theorem binop_add (H : Hp) (a b : List Nat) (h : a.length + b.length ≤ 1000000) : binop .Add H (.str a) (.str b) = some (.str (a ++ b)) := by
  rw [binop_ss, show szOk (a.length + b.length) = true from Nat.ble_eq_true_of_le h]
theorem rstrM_join (H : Hp) (l : List Nat) (a : V) : rstrM 0 H l [a] = sJoin H l a := rfl
theorem rlistM_app (H : Hp) (i : Nat) (vs : List V) (a : V) (h : vs.length ≤ 1000000) : rlistM 4 H i vs [a] = some (.none, H.set i (.list (vs ++ [a]))) := by
  unfold rlistM
  rw [show szOk vs.length = true from Nat.ble_eq_true_of_le h]
  rfl
theorem rblt_len (H : Hp) (a : V) : rblt 0 H [a] = bLen H a := rfl
theorem rblt_abs (H : Hp) (a : V) : rblt 2 H [a] = bAbs a := rfl
theorem rblt_int (H : Hp) (a : V) : rblt 3 H [a] = bInt a := rfl
theorem rblt_ord (H : Hp) (a : V) : rblt 5 H [a] = bOrd a := rfl
theorem sub_tup (H : Hp) (vs : List V) (i : Int) : sub H (.tup vs) (.int i) = nth vs i := rfl
theorem sub_lst (H : Hp) (vs : List V) (i : Int) : sub H (.lst vs) (.int i) = nth vs i := rfl
theorem sub_refL {H : Hp} {j : Nat} {vs : List V} (h : H[j]? = some (.list vs)) : sub H (.ref j) (.int (-1)) = vs.getLast? := by
  unfold sub
  simp only [h]
  rfl
theorem sub_r00 (H : Hp) (vs : List V) : sub (.list vs :: H) (.ref 0) (.int 0) = nth vs 0 := rfl
theorem sub_r01 (H : Hp) (vs : List V) : sub (.list vs :: H) (.ref 0) (.int 1) = nth vs 1 := rfl
theorem nth_0 (a : V) (l : List V) : nth (a :: l) 0 = some a := rfl
theorem nth_1 (a b : V) (l : List V) : nth (a :: b :: l) 1 = some b := rfl
theorem nth_i {vs : List V} {i : Int} {v : V} (h0 : 0 ≤ i) (h1 : i < 1000000) (h : vs[i.toNat]? = some v) : nth vs i = some v := by
  unfold nth
  rw [decide_eq_true h0, decide_eq_true h1]
  exact h
theorem nth_n {vs : List V} {i : Nat} {v : V} (h : vs[i]? = some v) (hi : i < 1000000) : nth vs (i : Int) = some v := nth_i (by (first | lia | omega)) (by (first | lia | omega)) h
theorem szOk_le {n : Nat} (h : n ≤ 1000000) : szOk n = true := by
  unfold szOk
  exact Nat.ble_eq_true_of_le h
noncomputable def vi (n : Nat) : V := .int n
noncomputable def tubeI (j : Int) (vs : List V) : AO := .list [.int j, .lst vs]
noncomputable def tubeO (j : Nat) (vs : List Nat) : AO := tubeI j (vs.map vi)
noncomputable def takeV (j : Nat) (vs : List Nat) (m : Nat) : Nat := (if j + 1 ≤ vs.length then vs.getD j 0 else 5 * (j + 1) + (j + 1) / 2 + 3) % m
theorem take_a (k : Nat) (j m x : Int) (vs : List V) (R : Hp) (h2 : szOk vs.length = true) (h3 : decide (m = 0) = false) (h6 : decide (j + 1 ≤ (vs.length : Int)) = true) (h7 : nth vs (j + 1 - 1) = some (.int x)) :
    rF RP (k + 1) false 64 [.ref 0, .int m] (tubeI j vs :: R) = some (.int (x.fmod m), tubeI (j + 1) vs :: R) := by
  refine rF_fnH (d := d__law_take) rfl rfl rfl ?_
  have h1' : decide ((0:Int) < (((0 + 1 + 1 : Nat)) : Int)) = true := by simp
  simp only [d__law_take, b__law_take, tubeI, h1', h2, h3, h6, h7, rrun, cmp_le, binop_int, rbindP_0, rbindP_1, l_rev_0, l_rev_2, l_rev_3, l_rev_7, l_rev_8, l_rev_15, l_rev_16, l_revs_0, l_revs_1, l_revC_0, l_rex_1, l_rex_2, l_rexs_1, idxT, intV, refV_0, lists, chk, Option.bind_some, rtgtA, rtgt, rlk_1, Nat.reduceBEq, eq_self, sub_lst, sub_r00, sub_r01, nth_0, nth_1, ar0, ar1, ar4, rblt_len, bLen_2, guard, rtruth_1, Int.reduceLE, decide_true, Int.toNat_zero, Option.map_some, List.length_cons, List.length_nil, List.getElem?_cons_zero, List.set_cons_zero, Nat.reduceAdd, Bool.true_and]
theorem take_b (k : Nat) (j m : Int) (vs : List V) (R : Hp) (h2 : szOk vs.length = true) (h3 : decide (m = 0) = false) (h6 : decide (j + 1 ≤ (vs.length : Int)) = false) :
    rF RP (k + 1) false 64 [.ref 0, .int m] (tubeI j vs :: R) = some (.int ((5 * (j + 1) + (j + 1).fdiv 2 + 3).fmod m), tubeI (j + 1) vs :: R) := by
  refine rF_fnH (d := d__law_take) rfl rfl rfl ?_
  have h1' : decide ((0:Int) < (((0 + 1 + 1 : Nat)) : Int)) = true := by simp
  have h7 : (small 5 || small (j + 1)) = true := rfl
  have h8 : decide ((2 : Int) = 0) = false := rfl
  have h9 : Nat.blt (Int.natAbs 2).log2 9000 = true := by decide
  simp only [d__law_take, b__law_take, tubeI, h1', h2, h3, h6, h7, h9, rrun, cmp_le, binop_int, rbindP_0, rbindP_1, l_rev_0, l_rev_2, l_rev_3, l_rev_7, l_rev_8, l_rev_15, l_rev_16, l_revs_0, l_revs_1, l_revC_0, l_rex_1, l_rex_2, l_rexs_1, idxT, intV, refV_0, lists, chk, Option.bind_some, rtgtA, rtgt, rlk_1, Nat.reduceBEq, eq_self, sub_r00, sub_r01, nth_0, nth_1, ar0, ar2, ar3, ar4, rblt_len, bLen_2, guard, rtruth_1, Int.reduceEq, Int.reduceLE, decide_false, decide_true, Int.toNat_zero, Option.map_some, List.length_cons, List.length_nil, List.getElem?_cons_zero, List.set_cons_zero, Nat.reduceAdd, Bool.true_and]
theorem take_ok (k j : Nat) (vs : List Nat) (m : Nat) (hm : 0 < m) (hv : vs.length ≤ 40) (R : Hp) :
    rF RP (k + 1) false 64 [.ref 0, .int m] (tubeO j vs :: R) = some (.int (takeV j vs m), tubeO (j + 1) vs :: R) := by
  have h2 : szOk (vs.map vi).length = true := by
    rw [List.length_map]; exact szOk_le (by (first | lia | omega))
  have h3 : decide ((m : Int) = 0) = false := decide_eq_false (by (first | lia | omega))
  have hl : (vs.map vi).length = vs.length := List.length_map _
  by_cases hj : j + 1 ≤ vs.length
  · have h6 : decide ((j : Int) + 1 ≤ ((vs.map vi).length : Int)) = true := decide_eq_true (by (first | lia | omega))
    have h7 : nth (vs.map vi) ((j : Int) + 1 - 1) = some (.int (vs.getD j 0 : Nat)) := by
      rw [show ((j : Int) + 1 - 1) = (j : Int) by (first | lia | omega)]
      refine nth_n ?_ (by (first | lia | omega))
      rw [List.getElem?_map, List.getElem?_eq_getElem (by (first | lia | omega)), List.getD_eq_getElem?_getD, List.getElem?_eq_getElem (by (first | lia | omega))]; rfl
    have e : Int.fmod ((vs.getD j 0 : Nat) : Int) (m : Int) = ((vs.getD j 0 % m : Nat) : Int) := by
      rw [Int.fmod_eq_emod_of_nonneg _ (by (first | lia | omega))]; rfl
    rw [tubeO, take_a k j m _ _ R h2 h3 h6 h7, e, takeV, if_pos hj]
    rfl
  · have h6 : decide ((j : Int) + 1 ≤ ((vs.map vi).length : Int)) = false := decide_eq_false (by (first | lia | omega))
    have e : Int.fmod (5 * ((j : Int) + 1) + Int.fdiv ((j : Int) + 1) 2 + 3) (m : Int) = (((5 * (j + 1) + (j + 1) / 2 + 3) % m : Nat) : Int) := by
      rw [Int.fmod_eq_emod_of_nonneg _ (by (first | lia | omega)), Int.fdiv_eq_ediv_of_nonneg _ (by (first | lia | omega))]; simp
    rw [tubeO, take_b k j m _ R h2 h3 h6, e, takeV, if_neg hj]
    rfl
open PySem
/-- closed runs, told by the kernel -/
noncomputable def okV (o : Option (V × Hp)) (v : V) : Bool := match o with
  | some (w, []) => veq w v
  | _ => false
theorem okV_ok {o : Option (V × Hp)} {v : V} (h : okV o v = true) : o = some (v, []) := by
  unfold okV at h
  split at h
  · rw [veq_ok _ _ h]
  · first | exact Mine.nos h | exact Mine.ff0 h | exact Mine.tf0 h | exact Mine.sn0 h | cases h
theorem rF_pureH {n f : Nat} {args : List V} {v : V} (hf : (!false && (f == RP.cls)) = false) (hp : vpures args = true) (q : rF RP n false f args [] = some (v, [])) (H : Hp) : rF RP n false f args H = some (v, H) := by
  cases n with
  | zero => first | exact Mine.nos q | exact Mine.ff0 q | exact Mine.tf0 q | exact Mine.sn0 q | cases q
  | succ n =>
    rw [rF_s, hf] at q ⊢
    try dsimp only at q
    try dsimp only
    split at q
    · try dsimp only
      rw [hp] at q ⊢
      try dsimp only at q
      try dsimp only
      split at q
      · split at q
        · cases q; rfl
        · first | exact Mine.nos q | exact Mine.ff0 q | exact Mine.tf0 q | exact Mine.sn0 q | cases q
      · first | exact Mine.nos q | exact Mine.ff0 q | exact Mine.tf0 q | exact Mine.sn0 q | cases q
    · first | exact Mine.nos q | exact Mine.ff0 q | exact Mine.tf0 q | exact Mine.sn0 q | cases q
theorem rF_closed {n f : Nat} {args : List V} {v : V} (hf : (!false && (f == RP.cls)) = false) (hp : vpures args = true) (q : okV (rF RP n false f args []) v = true) (H : Hp) : rF RP n false f args H = some (v, H) :=
  rF_pureH hf hp (okV_ok q) H

mutual
inductive T where
  | skip
  | num (n : Fin 6)
  | str (n : Fin 3)
  | tt
  | nul
  | arr (ts : Ts)
  | obj (es : Es)
inductive Ts where
  | nil
  | cons (t : T) (ts : Ts)
inductive Es where
  | nil
  | cons (k : Fin 3) (t : T) (es : Es)
end
noncomputable def sS (s : String) : List Nat := cps (N s)
noncomputable def bitsOf : Fin 6 → Int
  | 0 => 9221120237041090560
  | 1 => 9218868437227405312
  | 2 => 18442240474082181120
  | 3 => 4619567317775286272
  | 4 => 13837309855095848960
  | 5 => 0
noncomputable def strOfF : Fin 3 → List Nat
  | 0 => []
  | 1 => [115]
  | 2 => [10]
noncomputable def keyOf : Fin 3 → Nat
  | 0 => 107
  | 1 => 97
  | 2 => 108
/-- the kinds' names -/
noncomputable def kSkip : List Nat := [115, 107, 105, 112]
noncomputable def kNum : List Nat := [110, 117, 109, 98, 101, 114]
noncomputable def kStr : List Nat := [115, 116, 114, 105, 110, 103]
noncomputable def kBool : List Nat := [98, 111, 111, 108]
noncomputable def kNull : List Nat := [110, 117, 108, 108]
noncomputable def kArr : List Nat := [97, 114, 114, 97, 121]
noncomputable def kObj : List Nat := [111, 98, 106, 101, 99, 116]
mutual
noncomputable def vT : T → V
  | .skip => .tup [.str kSkip, .none]
  | .num n => .tup [.str kNum, .int (bitsOf n)]
  | .str n => .tup [.str kStr, .str (strOfF n)]
  | .tt => .tup [.str kBool, .bool true]
  | .nul => .tup [.str kNull, .none]
  | .arr ts => .tup [.str kArr, .lst (vTs ts)]
  | .obj es => .tup [.str kObj, .lst (vEs es)]
noncomputable def vTs : Ts → List V
  | .nil => []
  | .cons t ts => vT t :: vTs ts
noncomputable def vEs : Es → List V
  | .nil => []
  | .cons k t es => .tup [.str [keyOf k], vT t] :: vEs es
end
theorem vEs_1 (k : _root_.Fin 3) (t : T) (es : Es) : vEs (Es.cons k t es) = V.tup [V.str [keyOf k], vT t] :: vEs es := rfl
theorem vTs_1 (t : T) (ts : Ts) : vTs (Ts.cons t ts) = vT t :: vTs ts := rfl
theorem vT_0 : vT T.skip = V.tup [V.str kSkip, V.none] := rfl
theorem vT_1 (n : _root_.Fin 6) : vT (T.num n) = V.tup [V.str kNum, V.int (bitsOf n)] := rfl
theorem vT_2 (n : _root_.Fin 3) : vT (T.str n) = V.tup [V.str kStr, V.str (strOfF n)] := rfl
theorem vT_3 : vT T.tt = V.tup [V.str kBool, V.bool true] := rfl
theorem vT_4 : vT T.nul = V.tup [V.str kNull, V.none] := rfl
theorem vT_5 (ts : Ts) : vT (T.arr ts) = V.tup [V.str kArr, V.lst (vTs ts)] := rfl
theorem vT_6 (es : Es) : vT (T.obj es) = V.tup [V.str kObj, V.lst (vEs es)] := rfl
mutual
/-- no deeper than d, no wider than 3 -/
noncomputable def htT : T → Nat → Prop
  | .arr _, 0 => False
  | .arr ts, d + 1 => htTs ts d ∧ lenTs ts ≤ 3
  | .obj _, 0 => False
  | .obj es, d + 1 => htEs es d ∧ lenEs es ≤ 3
  | _, _ => True
noncomputable def htTs : Ts → Nat → Prop
  | .nil, _ => True
  | .cons t ts, d => htT t d ∧ htTs ts d
noncomputable def htEs : Es → Nat → Prop
  | .nil, _ => True
  | .cons _ t es, d => htT t d ∧ htEs es d
noncomputable def lenTs : Ts → Nat
  | .nil => 0
  | .cons _ ts => lenTs ts + 1
noncomputable def lenEs : Es → Nat
  | .nil => 0
  | .cons _ _ es => lenEs es + 1
end
theorem lenEs_1 (k : _root_.Fin 3) (t : T) (es : Es) : lenEs (Es.cons k t es) = lenEs es + 1 := rfl
theorem lenTs_1 (t : T) (ts : Ts) : lenTs (Ts.cons t ts) = lenTs ts + 1 := rfl

theorem take_i (k j : Nat) (vs : List Nat) (m : Int) (M : Nat) (hM : m = M) (h0 : 0 < M) (hv : vs.length ≤ 40) (R : Hp) :
    ∃ x : Int, (0 ≤ x ∧ x < m) ∧ rF RP (k + 1) false 64 [.ref 0, .int m] (tubeO j vs :: R) = some (.int x, tubeO (j + 1) vs :: R) := by
  subst hM
  exact ⟨takeV j vs M, ⟨by (first | lia | omega), by have : takeV j vs M < M := Nat.mod_lt _ h0; (first | lia | omega)⟩, take_ok k j vs M h0 hv R⟩
theorem fi7 (k : Nat) (H : Hp) : rF RP (k + 4) false 22 [.int 7] H = some (.int (bitsOf 3), H) := rF_closed rfl rfl (by kernel_rfl) H
theorem fi3 (k : Nat) (H : Hp) : rF RP (k + 4) false 22 [.int (-3)] H = some (.int (bitsOf 4), H) := rF_closed rfl rfl (by kernel_rfl) H
theorem fi0 (k : Nat) (H : Hp) : rF RP (k + 4) false 22 [.int 0] H = some (.int (bitsOf 5), H) := rF_closed rfl rfl (by kernel_rfl) H

theorem cF_tree {f : V → Hp → Option (Option V × Hp)} {d : Nat} {vs : List Nat} {R : Hp} (hf : ∀ v j, ∃ t j', htT t d ∧ f v (tubeO j vs :: R) = some (some (vT t), tubeO j' vs :: R)) :
    ∀ (l : List V) (j : Nat), ∃ ts j', htTs ts d ∧ lenTs ts = l.length ∧ compF f l (tubeO j vs :: R) = some (vTs ts, tubeO j' vs :: R)
  | [], j => ⟨.nil, j, trivial, rfl, rfl⟩
  | v :: l, j => by
    obtain ⟨t, j1, a1, a2⟩ := hf v j
    obtain ⟨ts, j2, b1, b2, b3⟩ := cF_tree hf l j1
    refine ⟨.cons t ts, j2, ⟨a1, b1⟩, by rw [lenTs_1, b2]; rfl, ?_⟩
    rw [compF_1, a2]
    dsimp only
    rw [b3]
    rfl
theorem cF_tree2 {f : V → Hp → Option (Option V × Hp)} {d : Nat} {vs : List Nat} {R : Hp} (hf : ∀ v j, ∃ (k : Fin 3) (t : T) (j' : Nat), htT t d ∧ f v (tubeO j vs :: R) = some (some (.tup [.str [keyOf k], vT t]), tubeO j' vs :: R)) :
    ∀ (l : List V) (j : Nat), ∃ ts j', htEs ts d ∧ lenEs ts = l.length ∧ compF f l (tubeO j vs :: R) = some (vEs ts, tubeO j' vs :: R)
  | [], j => ⟨.nil, j, trivial, rfl, rfl⟩
  | v :: l, j => by
    obtain ⟨k, t, j1, a1, a2⟩ := hf v j
    obtain ⟨ts, j2, b1, b2, b3⟩ := cF_tree2 hf l j1
    refine ⟨.cons k t ts, j2, ⟨a1, b1⟩, by rw [lenEs_1, b2]; rfl, ?_⟩
    rw [compF_1, a2]
    dsimp only
    rw [b3]
    rfl
theorem sub_kal (H : Hp) (x : Int) (h : 0 ≤ x ∧ x < 3) : ∃ k : Fin 3, sub H (.str [107, 97, 108]) (.int x) = some (.str [keyOf k]) := by
  have : x = 0 ∨ x = 1 ∨ x = 2 := by (first | lia | omega)
  rcases this with rfl | rfl | rfl
  · exact ⟨0, rfl⟩
  · exact ⟨1, rfl⟩
  · exact ⟨2, rfl⟩
theorem iter_rng {s : Int} (h : 0 ≤ s ∧ s < 4) : ∃ l, iter (.rng 0 s) = some l ∧ l.length ≤ 3 := by
  have : s = 0 ∨ s = 1 ∨ s = 2 ∨ s = 3 := by (first | lia | omega)
  rcases this with rfl | rfl | rfl | rfl
  all_goals exact ⟨_, rfl, by decide⟩
theorem tree_leaf (K j d : Nat) (f : Int) (vs : List Nat) (hv : vs.length ≤ 40) (R : Hp) (b : Bool) (di : Int) (hb : decide (0 < di) = b)
    (h1 : rF RP (K + 4) false 64 [.ref 0, .int (bif b then 7 else 5)] (tubeO j vs :: R) = some (.int f, tubeO (j + 1) vs :: R)) (hf : 0 ≤ f ∧ f < 5) :
    ∃ t j', htT t d ∧ rF RP (K + 5) false 65 [.ref 0, .int di] (tubeO j vs :: R) = some (vT t, tubeO j' vs :: R) := by
  have : f = 0 ∨ f = 1 ∨ f = 2 ∨ f = 3 ∨ f = 4 := by (first | lia | omega)
  rcases this with rfl | rfl | rfl | rfl | rfl
  · have h1 : rF RP (K + 4) false 64 [.ref 0, .int (bif b then 7 else 5)] (tubeO j vs :: R) = some (.int 0, tubeO (j + 1) vs :: R) := h1
    refine ⟨.skip, j + 1, by cases d <;> trivial, rF_fnH (d := d__law_tree) rfl rfl rfl ?_⟩
    cases b <;> simp only [cond_true, cond_false] at h1 <;> simp only [d__law_tree, b__law_tree, hb, h1, vT_0, kSkip, rrun, cmp_eq, cmp_gt, eqV_int, rbindP_0, rbindP_1, l_rev_0, l_rev_2, l_rev_7, l_rev_8, l_rev_9, l_rev_17, l_revs_0, l_revs_1, l_revC_0, l_rex_1, l_rex_2, l_rex_5, l_rexs_1, rtgtA, rtgt, rlk_1, rup_0, rup_1, Nat.reduceBEq, eq_self, cx_call, rtruth_1, decide_true]
  · have h1 : rF RP (K + 4) false 64 [.ref 0, .int (bif b then 7 else 5)] (tubeO j vs :: R) = some (.int 1, tubeO (j + 1) vs :: R) := h1
    obtain ⟨x, hx, h2⟩ := take_i (K + 3) (j + 1) vs 6 6 rfl (by (first | lia | omega)) hv R
    have : ∃ n : Fin 6, nth [.int 9221120237041090560, .int 9218868437227405312, .int 18442240474082181120, .int (bitsOf 3), .int (bitsOf 4), .int (bitsOf 5)] x = some (.int (bitsOf n)) := by
      have : x = 0 ∨ x = 1 ∨ x = 2 ∨ x = 3 ∨ x = 4 ∨ x = 5 := by (first | lia | omega)
      rcases this with rfl | rfl | rfl | rfl | rfl | rfl
      · exact ⟨0, rfl⟩
      · exact ⟨1, rfl⟩
      · exact ⟨2, rfl⟩
      · exact ⟨3, rfl⟩
      · exact ⟨4, rfl⟩
      · exact ⟨5, rfl⟩
    obtain ⟨n, hn⟩ := this
    refine ⟨.num n, j + 2, by cases d <;> trivial, rF_fnH (d := d__law_tree) rfl rfl rfl ?_⟩
    cases b <;> simp only [cond_true, cond_false] at h1 <;> simp only [d__law_tree, b__law_tree, hb, h1, h2, hn, fi7, fi3, fi0, show (cx (K + 4)).glb 90 = .int 9221120237041090560 from rfl, show (cx (K + 4)).glb 88 = .int 9218868437227405312 from rfl, show (cx (K + 4)).glb 89 = .int 18442240474082181120 from rfl, show GL 90 = g_NAN from rfl, show GL 88 = g_INF from rfl, show GL 89 = g_NEG_INF from rfl, show RP.glb = GL from rfl, vT_1, kNum, rrun, cmp_eq, cmp_gt, eqV_int, binop_int, rbindP_0, rbindP_1, l_rev_0, l_rev_1, l_rev_2, l_rev_3, l_rev_7, l_rev_8, l_rev_9, l_rev_11, l_rev_15, l_rev_17, l_revs_0, l_revs_1, l_revC_0, l_rex_1, l_rex_2, l_rex_5, l_rexs_0, l_rexs_1, rtgtA, rtgt, rlk_1, rup_0, rup_1, Nat.reduceBEq, eq_self, sub_lst, ar1, cx_call, rtruth_1, Int.reduceNeg, Int.reduceEq, Int.reduceSub, decide_false, decide_true, Option.map_some]
  · have h1 : rF RP (K + 4) false 64 [.ref 0, .int (bif b then 7 else 5)] (tubeO j vs :: R) = some (.int 2, tubeO (j + 1) vs :: R) := h1
    obtain ⟨x, hx, h2⟩ := take_i (K + 3) (j + 1) vs 3 3 rfl (by (first | lia | omega)) hv R
    have : ∃ n : Fin 3, nth [.str [], .str [115], .str [10]] x = some (.str (strOfF n)) := by
      have : x = 0 ∨ x = 1 ∨ x = 2 := by (first | lia | omega)
      rcases this with rfl | rfl | rfl
      · exact ⟨0, rfl⟩
      · exact ⟨1, rfl⟩
      · exact ⟨2, rfl⟩
    obtain ⟨n, hn⟩ := this
    refine ⟨.str n, j + 2, by cases d <;> trivial, rF_fnH (d := d__law_tree) rfl rfl rfl ?_⟩
    cases b <;> simp only [cond_true, cond_false] at h1 <;> simp only [d__law_tree, b__law_tree, hb, h1, h2, hn, vT_2, kStr, rrun, cmp_eq, cmp_gt, eqV_int, rbindP_0, rbindP_1, l_rev_0, l_rev_2, l_rev_7, l_rev_8, l_rev_9, l_rev_11, l_rev_15, l_rev_17, l_revs_0, l_revs_1, l_revC_0, l_rex_1, l_rex_2, l_rex_5, l_rexs_0, l_rexs_1, rtgtA, rtgt, rlk_1, rup_0, rup_1, Nat.reduceBEq, eq_self, sub_lst, cx_call, rtruth_1, Int.reduceEq, decide_false, decide_true]
  · have h1 : rF RP (K + 4) false 64 [.ref 0, .int (bif b then 7 else 5)] (tubeO j vs :: R) = some (.int 3, tubeO (j + 1) vs :: R) := h1
    refine ⟨.tt, j + 1, by cases d <;> trivial, rF_fnH (d := d__law_tree) rfl rfl rfl ?_⟩
    cases b <;> simp only [cond_true, cond_false] at h1 <;> simp only [d__law_tree, b__law_tree, hb, h1, vT_3, kBool, rrun, cmp_eq, cmp_lt, cmp_gt, eqV_int, binop_int, rbindP_0, rbindP_1, l_rev_0, l_rev_2, l_rev_3, l_rev_7, l_rev_8, l_rev_9, l_rev_11, l_rev_15, l_rev_17, l_revs_0, l_revs_1, l_revC_0, l_rex_1, l_rex_2, l_rex_5, l_rexs_0, l_rexs_1, rtgtA, rtgt, rlk_1, rup_0, rup_1, Nat.reduceBEq, eq_self, sub_lst, nth_0, ar1, cx_call, rtruth_1, Int.reduceEq, Int.reduceLT, Int.reduceSub, decide_false, decide_true, Option.map_some]
  · have h1 : rF RP (K + 4) false 64 [.ref 0, .int (bif b then 7 else 5)] (tubeO j vs :: R) = some (.int 4, tubeO (j + 1) vs :: R) := h1
    refine ⟨.nul, j + 1, by cases d <;> trivial, rF_fnH (d := d__law_tree) rfl rfl rfl ?_⟩
    cases b <;> simp only [cond_true, cond_false] at h1 <;> simp only [d__law_tree, b__law_tree, hb, h1, vT_4, kNull, rrun, cmp_eq, cmp_lt, cmp_gt, eqV_int, binop_int, rbindP_0, rbindP_1, l_rev_0, l_rev_2, l_rev_3, l_rev_7, l_rev_8, l_rev_9, l_rev_11, l_rev_15, l_rev_17, l_revs_0, l_revs_1, l_revC_0, l_rex_1, l_rex_2, l_rex_5, l_rexs_0, l_rexs_1, rtgtA, rtgt, rlk_1, rup_0, rup_1, Nat.reduceBEq, eq_self, sub_lst, nth_1, ar1, cx_call, rtruth_1, Int.reduceEq, Int.reduceLT, Int.reduceSub, decide_false, decide_true, Option.map_some]
noncomputable def compB (C : RCx) (elt : RE) (xs : List Nat) (cond : RE) (ρ : Env) (v : V) (H : Hp) : Option (Option V × Hp) := match rbind xs v with
  | some own => match rev C cond (own ++ ρ) H with
    | some (x, H) => match rtruth x with
      | some true => match rev C elt (own ++ ρ) H with
        | some (r, H) => some (some r, H)
        | none => none
      | some false => some (none, H)
      | none => none
    | none => none
  | none => none
theorem rev_comp {C : RCx} {elt it cond : RE} {xs : List Nat} {ρ : Env} {H H1 H2 : Hp} {src : V} {vs rs : List V} (h1 : rev C it ρ H = some (src, H1)) (h2 : iter src = some vs) (h3 : compF (compB C elt xs cond ρ) vs H1 = some (rs, H2)) :
    rev C (.comp elt xs it cond) ρ H = some (.lst rs, H2) := by
  rw [l_rev_12, h1]
  dsimp only
  rw [h2]
  have : ∀ o : Option (List V × Hp), o = some (rs, H2) → (match o with | some (rs, H) => some (V.lst rs, H) | none => none) = some (.lst rs, H2) := fun o h => by rw [h]
  exact this _ h3
noncomputable def forB (C : RCx) (t : RT) (body : RSs) (v : V) (ρ : Env) (H : Hp) : Option (Fl × Env × Hp) := match rtgtA C t v ρ H with
  | some (ρ, H) => rexs C body ρ H
  | none => none
theorem rex_for {C : RCx} {t : RT} {it : RE} {body : RSs} {ρ : Env} {H H1 : Hp} {src : V} {vs : List V} {r : Fl × Env × Hp} (h1 : rev C it ρ H = some (src, H1)) (h2 : iter src = some vs) (h3 : rforF (forB C t body) vs ρ H1 = some r) :
    rex C (.for_ t it body) ρ H = some r := by
  rw [l_rex_7, h1]
  dsimp only
  rw [h2]
  exact h3
noncomputable def tstB (C : RCx) (t : RE) (ρ : Env) (H : Hp) : Option (Bool × Hp) := match rev C t ρ H with
  | some (x, H) => match rtruth x with
    | some b => some (b, H)
    | none => none
  | none => none
theorem rex_whl {C : RCx} {t : RE} {body : RSs} {ρ : Env} {H : Hp} {r : Fl × Env × Hp} (h3 : rwhileF (tstB C t) (fun ρ H => rexs C body ρ H) W ρ H = some r) :
    rex C (.whl t body) ρ H = some r := by
  rw [l_rex_6]
  exact h3
theorem rng_small {s : Int} (h : 0 ≤ s ∧ s < 4) (H : Hp) : rblt 7 H [.int s] = some (.rng 0 s) := by
  have : s = 0 ∨ s = 1 ∨ s = 2 ∨ s = 3 := by (first | lia | omega)
  rcases this with rfl | rfl | rfl | rfl <;> rfl
theorem tree_ok (vs : List Nat) (hv : vs.length ≤ 40) (R : Hp) (k : Nat) : ∀ (d : Nat) (di : Int) (hd : di = d) (j : Nat), ∃ t j', htT t d ∧
    rF RP (k + d + 5) false 65 [.ref 0, .int di] (tubeO j vs :: R) = some (vT t, tubeO j' vs :: R) := by
  intro d
  induction d with
  | zero =>
    intro di hd j
    obtain ⟨f, hf, h1⟩ := take_i (k + 3) j vs 5 5 rfl (by (first | lia | omega)) hv R
    exact tree_leaf k j 0 f vs hv R false di (decide_eq_false (by (first | lia | omega))) h1 hf
  | succ d ih =>
    intro di hd j
    obtain ⟨f, hf, h1⟩ := take_i (k + d + 4) j vs 7 7 rfl (by (first | lia | omega)) hv R
    by_cases h5 : f < 5
    · have := tree_leaf (k + d + 1) j (d + 1) f vs hv R true di (decide_eq_true (by (first | lia | omega))) h1 ⟨hf.1, h5⟩
      rwa [show k + d + 1 + 5 = k + (d + 1) + 5 by (first | lia | omega)] at this
    · obtain ⟨s, hs, h2⟩ := take_i (k + d + 4) (j + 1) vs 4 4 rfl (by (first | lia | omega)) hv R
      obtain ⟨l, hl, hl2⟩ := iter_rng hs
      have hb : decide (0 < di) = true := decide_eq_true (by (first | lia | omega))
      have ih' := fun j => ih (di - 1) (by (first | lia | omega)) j
      have : f = 5 ∨ f = 6 := by (first | lia | omega)
      rcases this with rfl | rfl
      · have he : ∀ v j, ∃ (kk : Fin 3) (t : T) (j' : Nat), htT t d ∧ compB (cx (k + d + 5)) (.tup (.cons (.idx (.val (.str [107, 97, 108])) (.fn 64 (.cons (.loc 170) (.cons (.val (.int 3)) .nil)))) (.cons (.fn 65 (.cons (.loc 170) (.cons (.bin .Sub (.loc 171) (.val (.int 1))) .nil))) .nil))) [173] (.val (.bool true)) [(170, .ref 0), (171, .int di), (172, .int 5), (140, .int s)] v (tubeO j vs :: R) = some (some (.tup [.str [keyOf kk], vT t]), tubeO j' vs :: R) := by
          intro v j
          obtain ⟨x, hx, h3⟩ := take_i (k + d + 4) j vs 3 3 rfl (by (first | lia | omega)) hv R
          obtain ⟨kk, hk⟩ := sub_kal (tubeO (j + 1) vs :: R) x hx
          obtain ⟨t, j', a, b⟩ := ih' (j + 1)
          refine ⟨kk, t, j', a, ?_⟩
          simp only [compB, h3, hk, b, binop_int, l_rev_0, l_rev_2, l_rev_3, l_rev_9, l_rev_15, l_rev_17, l_revs_0, l_revs_1, rlk_1, Nat.reduceBEq, eq_self, ar1, cx_call, rtruth_1, rbind_0, List.cons_append, List.nil_append, Option.map_some]
        obtain ⟨es, j', a1, a2, a3⟩ := cF_tree2 he l (j + 2)
        have hc : rev (cx (k + d + 5)) c__law_tree_1 [(170, .ref 0), (171, .int di), (172, .int 5), (140, .int s)] (tubeO (j + 1 + 1) vs :: R) = some (.lst (vEs es), tubeO j' vs :: R) := by
          refine rev_comp (vs := l) ?_ hl a3
          simp only [rng_small hs, l_rev_2, l_rev_16, l_revs_0, l_revs_1, rlk_1, Nat.reduceBEq, eq_self]
        refine ⟨.obj es, j', ⟨a1, by (first | lia | omega)⟩, ?_⟩
        rw [show k + (d + 1) + 5 = k + d + 5 + 1 by (first | lia | omega)]
        refine rF_fnH (d := d__law_tree) rfl rfl rfl ?_
        simp only [d__law_tree, b__law_tree, hb, h1, h2, hc, vT_6, kObj, rrun, cmp_eq, cmp_lt, cmp_gt, eqV_int, rbindP_0, rbindP_1, l_rev_0, l_rev_2, l_rev_7, l_rev_8, l_rev_9, l_rev_17, l_revs_0, l_revs_1, l_revC_0, l_rex_1, l_rex_2, l_rex_5, l_rexs_0, l_rexs_1, rtgtA, rtgt, rlk_1, rup_0, rup_1, Nat.reduceBEq, eq_self, cx_call, rtruth_1, Int.reduceEq, Int.reduceLT, decide_false]
      · have he : ∀ v j, ∃ (t : T) (j' : Nat), htT t d ∧ compB (cx (k + d + 5)) (.fn 65 (.cons (.loc 170) (.cons (.bin .Sub (.loc 171) (.val (.int 1))) .nil))) [173] (.val (.bool true)) [(170, .ref 0), (171, .int di), (172, .int 6), (140, .int s)] v (tubeO j vs :: R) = some (some (vT t), tubeO j' vs :: R) := by
          intro v j
          obtain ⟨t, j', a, b⟩ := ih' j
          refine ⟨t, j', a, ?_⟩
          simp only [compB, b, binop_int, l_rev_0, l_rev_2, l_rev_3, l_rev_17, l_revs_0, l_revs_1, rlk_1, Nat.reduceBEq, eq_self, ar1, cx_call, rtruth_1, rbind_0, List.cons_append, List.nil_append, Option.map_some]
        obtain ⟨es, j', a1, a2, a3⟩ := cF_tree he l (j + 2)
        have hc : rev (cx (k + d + 5)) c__law_tree_0 [(170, .ref 0), (171, .int di), (172, .int 6), (140, .int s)] (tubeO (j + 1 + 1) vs :: R) = some (.lst (vTs es), tubeO j' vs :: R) := by
          refine rev_comp (vs := l) ?_ hl a3
          simp only [rng_small hs, l_rev_2, l_rev_16, l_revs_0, l_revs_1, rlk_1, Nat.reduceBEq, eq_self]
        refine ⟨.arr es, j', ⟨a1, by (first | lia | omega)⟩, ?_⟩
        rw [show k + (d + 1) + 5 = k + d + 5 + 1 by (first | lia | omega)]
        refine rF_fnH (d := d__law_tree) rfl rfl rfl ?_
        simp only [d__law_tree, b__law_tree, hb, h1, h2, hc, vT_5, kArr, rrun, cmp_eq, cmp_lt, cmp_gt, eqV_int, rbindP_0, rbindP_1, l_rev_0, l_rev_2, l_rev_7, l_rev_8, l_rev_9, l_rev_17, l_revs_0, l_revs_1, l_revC_0, l_rex_1, l_rex_2, l_rex_5, l_rexs_0, l_rexs_1, rtgtA, rtgt, rlk_1, rup_0, rup_1, Nat.reduceBEq, eq_self, cx_call, rtruth_1, Int.reduceEq, Int.reduceLT, decide_false, decide_true]
open PySem
theorem iter_lst {vs : List V} (h : vs.length ≤ 1000000) : iter (.lst vs) = some vs := by
  show (match szOk vs.length with | true => some vs | false => none) = some vs
  rw [szOk_le h]
mutual
theorem vT_pure : ∀ t : T, vpure (vT t) = true
  | .skip => rfl
  | .num n => rfl
  | .str n => rfl
  | .tt => rfl
  | .nul => rfl
  | .arr ts => by simp only [vT_5, vpure_3, vpure_4, vpure_5, vpures_0, vpures_1, vTs_pure ts]
  | .obj es => by simp only [vT_6, vpure_3, vpure_4, vpure_5, vpures_0, vpures_1, vEs_pure es]
theorem vTs_pure : ∀ t : Ts, vpures (vTs t) = true
  | .nil => rfl
  | .cons t ts => by simp only [vTs_1, vpures_1, vT_pure t, vTs_pure ts]
theorem vEs_pure : ∀ t : Es, vpures (vEs t) = true
  | .nil => rfl
  | .cons k t ts => by simp only [vEs_1, vpures_0, vpures_1, vpure_3, vpure_4, vT_pure t, vEs_pure ts]
end
mutual
theorem vTs_len : ∀ t : Ts, (vTs t).length = lenTs t
  | .nil => rfl
  | .cons t ts => by simp only [vTs_1, lenTs_1, List.length_cons, vTs_len ts]
theorem vEs_len : ∀ t : Es, (vEs t).length = lenEs t
  | .nil => rfl
  | .cons k t ts => by simp only [vEs_1, lenEs_1, List.length_cons, vEs_len ts]
end
theorem frz_lst {H : Hp} {n : Nat} {a a' : List V} (ha : frzs H n a = some a') : frz H (n + 1) (.lst a) = some (.lst a') := by
  show (frzs H n a).map V.lst = _
  rw [ha]; rfl
theorem frz_tup {H : Hp} {n : Nat} {a a' : List V} (ha : frzs H n a = some a') : frz H (n + 1) (.tup a) = some (.tup a') := by
  show (frzs H n a).map V.tup = _
  rw [ha]; rfl
theorem frzs_cons {H : Hp} {n : Nat} {a a' : V} {b b' : List V} (ha : frz H n a = some a') (hb : frzs H n b = some b') : frzs H (n + 1) (a :: b) = some (a' :: b') := by
  show (match frz H n a with | some d => (frzs H n b).map (d :: ·) | none => none) = _
  rw [ha, hb]; rfl
theorem frzs_nil {H : Hp} {n : Nat} : frzs H n [] = some [] := by cases n <;> rfl
theorem frz_tup2 {H : Hp} {n : Nat} {a b a' b' : V} (ha : frz H (n + 1) a = some a') (hb : frz H n b = some b') : frz H (n + 3) (.tup [a, b]) = some (.tup [a', b']) :=
  frz_tup (frzs_cons ha (frzs_cons hb frzs_nil))
theorem frz_leaf {H : Hp} {n : Nat} {v : V} (h : (match v with | .none | .bool _ | .int _ | .str _ => true | _ => false) = true) : frz H n v = some v := by
  cases v <;> first | (cases n <;> rfl) | cases h
mutual
theorem frzT (H : Hp) : ∀ (t : T) (d : Nat) (m : Nat), htT t d → frz H (m + 12 * d + 4) (vT t) = some (vT t)
  | .skip, d, m, _ => frz_tup2 (n := m + 12 * d + 1) (frz_leaf rfl) (frz_leaf rfl)
  | .num n, d, m, _ => frz_tup2 (n := m + 12 * d + 1) (frz_leaf rfl) (frz_leaf rfl)
  | .str n, d, m, _ => frz_tup2 (n := m + 12 * d + 1) (frz_leaf rfl) (frz_leaf rfl)
  | .tt, d, m, _ => frz_tup2 (n := m + 12 * d + 1) (frz_leaf rfl) (frz_leaf rfl)
  | .nul, d, m, _ => frz_tup2 (n := m + 12 * d + 1) (frz_leaf rfl) (frz_leaf rfl)
  | .arr ts, 0, m, h => h.elim
  | .obj es, 0, m, h => h.elim
  | .arr ts, d + 1, m, h => by
    have := frzTs H ts d (m + 12 * d + 12) h.1 (by have := h.2; (first | lia | omega))
    exact frz_tup2 (n := m + 12 * d + 13) (frz_leaf rfl) (frz_lst this)
  | .obj es, d + 1, m, h => by
    have := frzEs H es d (m + 12 * d + 12) h.1 (by have := h.2; (first | lia | omega))
    exact frz_tup2 (n := m + 12 * d + 13) (frz_leaf rfl) (frz_lst this)
theorem frzTs (H : Hp) : ∀ (t : Ts) (d : Nat) (n : Nat), htTs t d → 12 * d + 4 + lenTs t ≤ n → frzs H n (vTs t) = some (vTs t)
  | .nil, _, _, _, _ => frzs_nil
  | .cons t ts, d, n, h, hn => by
    rw [lenTs_1] at hn
    obtain ⟨m, rfl⟩ : ∃ m, n = (m + 12 * d + 4) + 1 := ⟨n - (12 * d + 5), by (first | lia | omega)⟩
    exact frzs_cons (frzT H t d m h.1) (frzTs H ts d _ h.2 (by (first | lia | omega)))
theorem frzEs (H : Hp) : ∀ (t : Es) (d : Nat) (n : Nat), htEs t d → 12 * d + 7 + lenEs t ≤ n → frzs H n (vEs t) = some (vEs t)
  | .nil, _, _, _, _ => frzs_nil
  | .cons k t ts, d, n, h, hn => by
    rw [lenEs_1] at hn
    obtain ⟨m, rfl⟩ : ∃ m, n = (m + 12 * d + 4) + 3 + 1 := ⟨n - (12 * d + 8), by (first | lia | omega)⟩
    exact frzs_cons (frz_tup2 (frz_leaf rfl) (frzT H t d m h.1)) (frzEs H ts d _ h.2 (by (first | lia | omega)))
end

noncomputable def kindT : T → List Nat
  | .skip => kSkip
  | .num _ => kNum
  | .str _ => kStr
  | .tt => kBool
  | .nul => kNull
  | .arr _ => kArr
  | .obj _ => kObj
noncomputable def itemT : T → V
  | .skip => .none
  | .num n => .int (bitsOf n)
  | .str n => .str (strOfF n)
  | .tt => .bool true
  | .nul => .none
  | .arr ts => .lst (vTs ts)
  | .obj es => .lst (vEs es)
theorem vT_eq (t : T) : vT t = .tup [.str (kindT t), itemT t] := by cases t <;> rfl
noncomputable def isSkip : T → Bool
  | .skip => true
  | _ => false
theorem leq_skip (t : T) : leq (kindT t) [115, 107, 105, 112] = isSkip t := by cases t <;> rfl
/-- what is told of a tree -/
noncomputable def numT (n : Fin 6) : T := match n with
  | 0 => .nul
  | 1 => .nul
  | 2 => .nul
  | n => .num n
mutual
noncomputable def prT : T → T
  | .skip => .nul
  | .num n => numT n
  | .str n => .str n
  | .tt => .tt
  | .nul => .nul
  | .arr ts => .arr (prTs ts)
  | .obj es => .obj (prEs es)
noncomputable def prTs : Ts → Ts
  | .nil => .nil
  | .cons t ts => .cons (prT t) (prTs ts)
noncomputable def prEs : Es → Es
  | .nil => .nil
  | .cons k t ts => match isSkip t with
    | true => prEs ts
    | false => .cons k (prT t) (prEs ts)
end
mutual
theorem prT_ht : ∀ (t : T) (d : Nat), htT t d → htT (prT t) d
  | .skip, d, h => by cases d <;> trivial
  | .num n, d, h => by
    unfold prT numT
    split <;> (cases d <;> trivial)
  | .str n, d, h => h
  | .tt, d, h => h
  | .nul, d, h => h
  | .arr ts, 0, h => h.elim
  | .obj ts, 0, h => h.elim
  | .arr ts, d + 1, h => ⟨(prTs_ht ts d h.1).1, by rw [(prTs_ht ts d h.1).2]; exact h.2⟩
  | .obj ts, d + 1, h => ⟨(prEs_ht ts d h.1).1, Nat.le_trans (prEs_ht ts d h.1).2 h.2⟩
theorem prTs_ht : ∀ (t : Ts) (d : Nat), htTs t d → htTs (prTs t) d ∧ lenTs (prTs t) = lenTs t
  | .nil, d, h => ⟨trivial, rfl⟩
  | .cons t ts, d, h => ⟨⟨prT_ht t d h.1, (prTs_ht ts d h.2).1⟩, by rw [prTs, lenTs_1, lenTs_1, (prTs_ht ts d h.2).2]⟩
theorem prEs_ht : ∀ (t : Es) (d : Nat), htEs t d → htEs (prEs t) d ∧ lenEs (prEs t) ≤ lenEs t
  | .nil, d, h => ⟨trivial, Nat.le_refl _⟩
  | .cons k t ts, d, h => by
    have a := prEs_ht ts d h.2
    rw [prEs]
    cases isSkip t
    · exact ⟨⟨prT_ht t d h.1, a.1⟩, Nat.succ_le_succ a.2⟩
    · exact ⟨a.1, Nat.le_trans a.2 (Nat.le_succ _)⟩
end

/-- leaves, told by the kernel -/
noncomputable def leaves : List T := .skip :: .tt :: .nul :: ((List.finRange 3).map .str ++ (List.finRange 6).map .num)
noncomputable def isLeaf : T → Bool
  | .arr _ => false
  | .obj _ => false
  | _ => true
theorem mem_leaves (t : T) (h : isLeaf t = true) : t ∈ leaves := by
  cases t with
  | skip => exact .head _
  | tt => exact .tail _ (.head _)
  | nul => exact .tail _ (.tail _ (.head _))
  | str n => exact .tail _ (.tail _ (.tail _ (List.mem_append_left _ (List.mem_map_of_mem (List.mem_finRange n)))))
  | num n => exact .tail _ (.tail _ (.tail _ (List.mem_append_right _ (List.mem_map_of_mem (List.mem_finRange n)))))
  | arr => exact ff0 h
  | obj => exact ff0 h
theorem leaf_all {f : T → Bool} (h : leaves.all f = true) {t : T} (ht : isLeaf t = true) : f t = true := List.all_eq_true.mp h t (mem_leaves t ht)
theorem prune_leaves (k : Nat) : leaves.all (fun t => okV (rF RP (k + 2) false 40 [vT t] []) (vT (prT t))) = true := by kernel_rfl
theorem pruned_leaves (k : Nat) : leaves.all (fun t => okV (rF RP (k + 2) false 66 [vT t] []) (vT (prT t))) = true := by kernel_rfl

theorem pT_pures (t : T) : vpures [vT t] = true := by simp only [vpures_0, vpures_1, vT_pure]
theorem prune_leaf {t : T} (ht : isLeaf t = true) (k d : Nat) (H : Hp) : rF RP (k + d + 2) false 40 [vT t] H = some (vT (prT t), H) :=
  rF_closed rfl (pT_pures t) (leaf_all (prune_leaves _) ht) H
theorem pruned_leaf {t : T} (ht : isLeaf t = true) (k d : Nat) (H : Hp) : rF RP (k + d + 2) false 66 [vT t] H = some (vT (prT t), H) :=
  rF_closed rfl (pT_pures t) (leaf_all (pruned_leaves _) ht) H
mutual
theorem prune_ok : ∀ (t : T) (d k : Nat) (H : Hp), d ≤ 7 → htT t d → rF RP (k + d + 2) false 40 [vT t] H = some (vT (prT t), H)
  | .skip, d, k, H, _, _ => prune_leaf rfl k d H
  | .num n, d, k, H, _, _ => prune_leaf rfl k d H
  | .str n, d, k, H, _, _ => prune_leaf rfl k d H
  | .tt, d, k, H, _, _ => prune_leaf rfl k d H
  | .nul, d, k, H, _, _ => prune_leaf rfl k d H
  | .arr ts, 0, k, H, _, h => h.elim
  | .obj ts, 0, k, H, _, h => h.elim
  | .arr ts, d + 1, k, H, hd, h => by
    have hp := prT_ht (.arr ts) (d + 1) h
    have e := prune_oks ts d k [] [(142, vT (.arr ts)), (143, .str kArr), (151, .lst (vTs ts))] (by (first | lia | omega)) h.1
    have hc : rev (cx (k + d + 2)) c_json_without_skips_0 [(142, vT (.arr ts)), (143, .str kArr), (151, .lst (vTs ts))] [] = some (.lst (vTs (prTs ts)), []) := by
      refine rev_comp (vs := vTs ts) ?_ (iter_lst (by rw [vTs_len]; have := h.2; (first | lia | omega))) e
      simp only [l_rev_2, rlk_1, Nat.reduceBEq, eq_self]
    simp only [vT_5, kArr] at hc
    rw [show k + (d + 1) + 2 = k + d + 2 + 1 by (first | lia | omega)]
    refine rF_fn (d := d_json_without_skips) rfl rfl (pT_pures _) (v := vT (.arr (prTs ts))) (H' := []) ?_ (frzT [] _ (d + 1) (96 - 12 * (d + 1)) hp |> fun z => by rwa [show 96 - 12 * (d + 1) + 12 * (d + 1) + 4 = 100 by (first | lia | omega)] at z)
    simp only [d_json_without_skips, b_json_without_skips, vT_5, kArr, hc, rrun, leq_0, leq_1, cmp_eq, eqV_str, rbindP_0, rbindP_1, l_rev_0, l_rev_2, l_rev_7, l_rev_9, l_revs_0, l_revs_1, l_revC_0, l_rex_1, l_rex_2, l_rex_5, l_rexs_1, rtgtA, rtgt, rt0, rt1, rlk_1, rup_0, rup_1, Nat.reduceBEq, eq_self, rtruth_1]
  | .obj ts, d + 1, k, H, hd, h => by
    have hp := prT_ht (.obj ts) (d + 1) h
    have e := prune_okes ts d k [] [(142, vT (.obj ts)), (143, .str kObj), (151, .lst (vEs ts))] (by (first | lia | omega)) h.1
    have hc : rev (cx (k + d + 2)) c_json_without_skips_1 [(142, vT (.obj ts)), (143, .str kObj), (151, .lst (vEs ts))] [] = some (.lst (vEs (prEs ts)), []) := by
      refine rev_comp (vs := vEs ts) ?_ (iter_lst (by rw [vEs_len]; have := h.2; (first | lia | omega))) e
      simp only [l_rev_2, rlk_1, Nat.reduceBEq, eq_self]
    simp only [vT_6, kObj] at hc
    rw [show k + (d + 1) + 2 = k + d + 2 + 1 by (first | lia | omega)]
    refine rF_fn (d := d_json_without_skips) rfl rfl (pT_pures _) (v := vT (.obj (prEs ts))) (H' := []) ?_ (frzT [] _ (d + 1) (96 - 12 * (d + 1)) hp |> fun z => by rwa [show 96 - 12 * (d + 1) + 12 * (d + 1) + 4 = 100 by (first | lia | omega)] at z)
    simp only [d_json_without_skips, b_json_without_skips, vT_6, kObj, hc, rrun, leq_0, leq_1, cmp_eq, eqV_str, rbindP_0, rbindP_1, l_rev_0, l_rev_2, l_rev_7, l_rev_9, l_revs_0, l_revs_1, l_revC_0, l_rex_1, l_rex_2, l_rex_5, l_rexs_0, l_rexs_1, rtgtA, rtgt, rt0, rt1, rlk_1, rup_0, rup_1, Nat.reduceBEq, eq_self, rtruth_1]
theorem prune_oks : ∀ (t : Ts) (d k : Nat) (H : Hp) (ρ : Env), d ≤ 7 → htTs t d → compF (compB (cx (k + d + 2)) (.fn 40 (.cons (.loc 152) .nil)) [152] (.val (.bool true)) ρ) (vTs t) H = some (vTs (prTs t), H)
  | .nil, _, _, _, _, _, _ => by rfl
  | .cons t ts, d, k, H, ρ, hd, h => by
    have a := prune_ok t d k H hd h.1
    have e : compB (cx (k + d + 2)) (.fn 40 (.cons (.loc 152) .nil)) [152] (.val (.bool true)) ρ (vT t) H = some (some (vT (prT t)), H) := by
      simp only [compB, a, l_rev_0, l_rev_2, l_rev_17, l_revs_0, l_revs_1, rlk_1, Nat.reduceBEq, eq_self, cx_call, rtruth_1, rbind_0, List.cons_append, List.nil_append]
    rw [vTs_1, compF_1, e]
    dsimp only
    rw [prune_oks ts d k H ρ hd h.2]
    rfl
theorem prune_okes : ∀ (t : Es) (d k : Nat) (H : Hp) (ρ : Env), d ≤ 7 → htEs t d → compF (compB (cx (k + d + 2)) (.tup (.cons (.loc 154) (.cons (.fn 40 (.cons (.loc 152) .nil)) .nil))) [154, 152] (.cmp (.idx (.loc 152) (.val (.int 0))) (.one .NotEq (.val (.str [115, 107, 105, 112])))) ρ) (vEs t) H = some (vEs (prEs t), H)
  | .nil, _, _, _, _, _, _ => by rfl
  | .cons kk t ts, d, k, H, ρ, hd, h => by
    have a := prune_ok t d k H hd h.1
    have b := prune_okes ts d k H ρ hd h.2
    rw [vEs_1, compF_1, prEs]
    cases hs : isSkip t
    · have e : compB (cx (k + d + 2)) (.tup (.cons (.loc 154) (.cons (.fn 40 (.cons (.loc 152) .nil)) .nil))) [154, 152] (.cmp (.idx (.loc 152) (.val (.int 0))) (.one .NotEq (.val (.str [115, 107, 105, 112])))) ρ (.tup [.str [keyOf kk], vT t]) H = some (some (.tup [.str [keyOf kk], vT (prT t)]), H) := by
        have ls := leq_skip t
        rw [hs] at ls
        rw [vT_eq t] at a ⊢
        simp only [compB, a, ls, cmp_ne, eqV_str, l_rev_0, l_rev_2, l_rev_7, l_rev_9, l_rev_15, l_rev_17, l_revs_0, l_revs_1, l_revC_0, Option.bind_some, rlk_1, Nat.reduceBEq, eq_self, sub_tup, nth_0, cx_call, rtruth_1, rbind_1, tupV_0, two_0, List.cons_append, List.nil_append, Option.map_some, Bool.not_false]
      rw [e]
      dsimp only
      rw [b]
      rfl
    · have e : compB (cx (k + d + 2)) (.tup (.cons (.loc 154) (.cons (.fn 40 (.cons (.loc 152) .nil)) .nil))) [154, 152] (.cmp (.idx (.loc 152) (.val (.int 0))) (.one .NotEq (.val (.str [115, 107, 105, 112])))) ρ (.tup [.str [keyOf kk], vT t]) H = some (none, H) := by
        have ls := leq_skip t
        rw [hs] at ls
        rw [vT_eq t] at a ⊢
        simp only [compB, ls, cmp_ne, eqV_str, l_rev_0, l_rev_2, l_rev_7, l_rev_15, l_revC_0, Option.bind_some, rlk_1, Nat.reduceBEq, eq_self, sub_tup, nth_0, rtruth_1, rbind_1, tupV_0, two_0, List.cons_append, List.nil_append, Option.map_some, Bool.not_true]
      rw [e]
      exact b
end
open PySem
noncomputable def dS (l : List Nat) : PyData := .str ⟨l.toArray⟩
mutual
noncomputable def dT : T → PyData
  | .skip => .tuple [dS kSkip, .none]
  | .num n => .tuple [dS kNum, .int (bitsOf n)]
  | .str n => .tuple [dS kStr, dS (strOfF n)]
  | .tt => .tuple [dS kBool, .bool true]
  | .nul => .tuple [dS kNull, .none]
  | .arr ts => .tuple [dS kArr, .list (dTs ts)]
  | .obj es => .tuple [dS kObj, .list (dEs es)]
noncomputable def dTs : Ts → List PyData
  | .nil => []
  | .cons t ts => dT t :: dTs ts
noncomputable def dEs : Es → List PyData
  | .nil => []
  | .cons k t es => .tuple [dS [keyOf k], dT t] :: dEs es
end
theorem dEs_0 : dEs Es.nil = [] := rfl
theorem dEs_1 (k : _root_.Fin 3) (t : T) (es : Es) : dEs (Es.cons k t es) = PyData.tuple [dS [keyOf k], dT t] :: dEs es := rfl
theorem dTs_0 : dTs Ts.nil = [] := rfl
theorem dTs_1 (t : T) (ts : Ts) : dTs (Ts.cons t ts) = dT t :: dTs ts := rfl
theorem dT_0 : dT T.skip = PyData.tuple [dS kSkip, PyData.none] := rfl
theorem dT_1 (n : _root_.Fin 6) : dT (T.num n) = PyData.tuple [dS kNum, PyData.int (bitsOf n)] := rfl
theorem dT_2 (n : _root_.Fin 3) : dT (T.str n) = PyData.tuple [dS kStr, dS (strOfF n)] := rfl
theorem dT_3 : dT T.tt = PyData.tuple [dS kBool, PyData.bool true] := rfl
theorem dT_4 : dT T.nul = PyData.tuple [dS kNull, PyData.none] := rfl
theorem dT_5 (ts : Ts) : dT (T.arr ts) = PyData.tuple [dS kArr, PyData.list (dTs ts)] := rfl
theorem dT_6 (es : Es) : dT (T.obj es) = PyData.tuple [dS kObj, PyData.list (dEs es)] := rfl
mutual
theorem vdataT : ∀ t : T, vdata (vT t) = some (dT t)
  | .skip => rfl
  | .num n => rfl
  | .str n => rfl
  | .tt => rfl
  | .nul => rfl
  | .arr ts => by simp only [vT_5, vdata_3, vdata_4, vdata_5, vdatas_0, vdatas_1, vdataTs ts, Option.map_some, dT_5, dS]
  | .obj es => by simp only [vT_6, vdata_3, vdata_4, vdata_5, vdatas_0, vdatas_1, vdataEs es, Option.map_some, dT_6, dS]
theorem vdataTs : ∀ t : Ts, vdatas (vTs t) = some (dTs t)
  | .nil => rfl
  | .cons t ts => by simp only [vTs_1, vdatas_1, vdataT t, vdataTs ts, Option.map_some, dTs_1]
theorem vdataEs : ∀ t : Es, vdatas (vEs t) = some (dEs t)
  | .nil => rfl
  | .cons k t ts => by simp only [vEs_1, vdatas_0, vdatas_1, vdata_3, vdata_4, vdataT t, vdataEs ts, Option.map_some, dEs_1, dS]
end
theorem cNum : (dS kNum).canLay0 = true := by decide +kernel
theorem cStr : (dS kStr).canLay0 = true := by decide +kernel
theorem cArr : (dS kArr).canLay0 = true := by decide +kernel
theorem cObj : (dS kObj).canLay0 = true := by decide +kernel
theorem cF (n : Fin 3) : (dS (strOfF n)).canLay0 = true := by
  have : n = 0 ∨ n = 1 ∨ n = 2 := by (first | lia | omega)
  rcases this with rfl | rfl | rfl <;> decide +kernel
theorem cK (n : Fin 3) : (dS [keyOf n]).canLay0 = true := by
  have : n = 0 ∨ n = 1 ∨ n = 2 := by (first | lia | omega)
  rcases this with rfl | rfl | rfl <;> decide +kernel
mutual
theorem canT : ∀ t : T, (dT t).canLay0 = true
  | .skip => by decide +kernel
  | .num n => by
    rw [dT_1, PyData.canLay0, PyData.canLayAll0, PyData.canLayAll0, PyData.canLayAll0, PyData.canLay0, cNum]; rfl
  | .str n => by
    rw [dT_2, PyData.canLay0, PyData.canLayAll0, PyData.canLayAll0, PyData.canLayAll0, cF, cStr]; rfl
  | .tt => by decide +kernel
  | .nul => by decide +kernel
  | .arr ts => by
    rw [dT_5, PyData.canLay0, PyData.canLayAll0, PyData.canLayAll0, PyData.canLayAll0, PyData.canLay0, canTs ts, cArr]; rfl
  | .obj es => by
    rw [dT_6, PyData.canLay0, PyData.canLayAll0, PyData.canLayAll0, PyData.canLayAll0, PyData.canLay0, canEs es, cObj]; rfl
theorem canTs : ∀ t : Ts, PyData.canLayAll0 (dTs t) = true
  | .nil => rfl
  | .cons t ts => by rw [dTs_1, PyData.canLayAll0, canT t, canTs ts]; rfl
theorem canEs : ∀ t : Es, PyData.canLayAll0 (dEs t) = true
  | .nil => rfl
  | .cons k t ts => by
    rw [dEs_1, PyData.canLayAll0, PyData.canLay0, PyData.canLayAll0, PyData.canLayAll0, PyData.canLayAll0, cK, canT t, canEs ts]; rfl
end
theorem dS_depth (l : List Nat) : (dS l).depth = 0 := by rw [dS, PyData.depth]
mutual
theorem depT : ∀ (t : T) (d : Nat), htT t d → (dT t).depth ≤ 3 * d + 1
  | .skip, d, _ => by rw [dT_0, PyData.depth, PyData.depthAll, PyData.depthAll, PyData.depthAll, PyData.depth, dS_depth]; (first | lia | omega)
  | .num n, d, _ => by rw [dT_1, PyData.depth, PyData.depthAll, PyData.depthAll, PyData.depthAll, PyData.depth, dS_depth]; (first | lia | omega)
  | .str n, d, _ => by rw [dT_2, PyData.depth, PyData.depthAll, PyData.depthAll, PyData.depthAll, dS_depth, dS_depth]; (first | lia | omega)
  | .tt, d, _ => by rw [dT_3, PyData.depth, PyData.depthAll, PyData.depthAll, PyData.depthAll, PyData.depth, dS_depth]; (first | lia | omega)
  | .nul, d, _ => by rw [dT_4, PyData.depth, PyData.depthAll, PyData.depthAll, PyData.depthAll, PyData.depth, dS_depth]; (first | lia | omega)
  | .arr ts, 0, h => h.elim
  | .obj ts, 0, h => h.elim
  | .arr ts, d + 1, h => by
    have := depTs ts d h.1
    rw [dT_5, PyData.depth, PyData.depthAll, PyData.depthAll, PyData.depthAll, PyData.depth, dS_depth]; (first | lia | omega)
  | .obj ts, d + 1, h => by
    have := depEs ts d h.1
    rw [dT_6, PyData.depth, PyData.depthAll, PyData.depthAll, PyData.depthAll, PyData.depth, dS_depth]; (first | lia | omega)
theorem depTs : ∀ (t : Ts) (d : Nat), htTs t d → PyData.depthAll (dTs t) ≤ 3 * d + 1
  | .nil, d, _ => by rw [dTs_0, PyData.depthAll]; (first | lia | omega)
  | .cons t ts, d, h => by
    have := depT t d h.1
    have := depTs ts d h.2
    rw [dTs_1, PyData.depthAll]; (first | lia | omega)
theorem depEs : ∀ (t : Es) (d : Nat), htEs t d → PyData.depthAll (dEs t) ≤ 3 * d + 2
  | .nil, d, _ => by rw [dEs_0, PyData.depthAll]; (first | lia | omega)
  | .cons k t ts, d, h => by
    have := depT t d h.1
    have := depEs ts d h.2
    rw [dEs_1, PyData.depthAll, PyData.depth, PyData.depthAll, PyData.depthAll, PyData.depthAll, dS_depth]; (first | lia | omega)
end
theorem shapedT {t : T} {d : Nat} (hd : d ≤ 5) (h : htT t d) : shapedOk (dT t) = true := by
  unfold shapedOk SeqAt.shaped
  rw [canT, decide_eq_true (Nat.le_trans (depT t d h) (by (first | lia | omega)))]; rfl
theorem eqV_data {H : Hp} {a : List V} {b : V} {x y : PyData} (ha : (frz H 64 (.tup a)).bind vdata = some x) (hb : (frz H 64 b).bind vdata = some y) (hx : shapedOk x = true) (hy : shapedOk y = true) : eqV H (.tup a) b = some (PyData.eqv x y) := by
  show (match (frz H 64 (.tup a)).bind vdata, (frz H 64 b).bind vdata with
    | some x, some y => match shapedOk x && shapedOk y with
      | true => some (PyData.eqv x y)
      | false => none
    | _, _ => none) = _
  rw [ha, hb]
  dsimp only
  rw [hx, hy]
  rfl
theorem frzData {H : Hp} {t : T} {d : Nat} (hd : d ≤ 5) (h : htT t d) : (frz H 64 (vT t)).bind vdata = some (dT t) := by
  have := frzT H t d (60 - 12 * d) h
  rw [show 60 - 12 * d + 12 * d + 4 = 64 by (first | lia | omega)] at this
  rw [this]
  exact vdataT t
theorem eqV_T {H : Hp} {t u : T} {d : Nat} (hd : d ≤ 5) (h : htT t d) (h' : htT u d) : eqV H (vT t) (vT u) = some (PyData.eqv (dT t) (dT u)) := by
  have a := frzData (H := H) hd h
  rw [vT_eq t] at a ⊢
  exact eqV_data a (frzData hd h') (shapedT hd h) (shapedT hd h')
theorem eqV_same {H : Hp} {t : T} {d : Nat} (hd : d ≤ 5) (h : htT t d) : eqV H (vT t) (vT t) = some true := by
  rw [eqV_T hd h h, SeqAt.eqv_refl _ (canT t)]
theorem eqv_skip (t : T) : PyData.eqv (dT t) (dT .skip) = isSkip t := by
  cases t <;> rfl
theorem eqV_skip {H : Hp} {t : T} {d : Nat} (hd : d ≤ 5) (h : htT t d) : eqV H (vT t) (.tup [.str [115, 107, 105, 112], .none]) = some (isSkip t) := by
  have := eqV_T (H := H) (u := .skip) hd h (by cases d <;> trivial)
  rw [eqv_skip] at this
  exact this

mutual
theorem pruned_ok : ∀ (t : T) (d k : Nat) (H : Hp), d ≤ 5 → htT t d → rF RP (k + d + 2) false 66 [vT t] H = some (vT (prT t), H)
  | .skip, d, k, H, _, _ => pruned_leaf rfl k d H
  | .num n, d, k, H, _, _ => pruned_leaf rfl k d H
  | .str n, d, k, H, _, _ => pruned_leaf rfl k d H
  | .tt, d, k, H, _, _ => pruned_leaf rfl k d H
  | .nul, d, k, H, _, _ => pruned_leaf rfl k d H
  | .arr ts, 0, k, H, _, h => h.elim
  | .obj ts, 0, k, H, _, h => h.elim
  | .arr ts, d + 1, k, H, hd, h => by
    have hp := prT_ht (.arr ts) (d + 1) h
    have e := pruned_oks ts d k [] [(142, vT (.arr ts)), (143, .str kArr), (151, .lst (vTs ts))] (by (first | lia | omega)) h.1
    have hc : rev (cx (k + d + 2)) c__law_pruned_0 [(142, vT (.arr ts)), (143, .str kArr), (151, .lst (vTs ts))] [] = some (.lst (vTs (prTs ts)), []) := by
      refine rev_comp (vs := vTs ts) ?_ (iter_lst (by rw [vTs_len]; have := h.2; (first | lia | omega))) e
      simp only [l_rev_2, rlk_1, Nat.reduceBEq, eq_self]
    simp only [vT_5, kArr] at hc
    rw [show k + (d + 1) + 2 = k + d + 2 + 1 by (first | lia | omega)]
    refine rF_fn (d := d__law_pruned) rfl rfl (pT_pures _) (v := vT (.arr (prTs ts))) (H' := []) ?_ (frzT [] _ (d + 1) (96 - 12 * (d + 1)) hp |> fun z => by rwa [show 96 - 12 * (d + 1) + 12 * (d + 1) + 4 = 100 by (first | lia | omega)] at z)
    simp only [d__law_pruned, b__law_pruned, vT_5, kArr, hc, rrun, leq_0, leq_1, cmp_eq, eqV_str, rbindP_0, rbindP_1, l_rev_0, l_rev_2, l_rev_7, l_rev_9, l_revs_0, l_revs_1, l_revC_0, l_rex_1, l_rex_2, l_rex_5, l_rexs_1, rtgtA, rtgt, rt0, rt1, rlk_1, rup_0, rup_1, Nat.reduceBEq, eq_self, rtruth_1]
  | .obj ts, d + 1, k, H, hd, h => by
    have hp := prT_ht (.obj ts) (d + 1) h
    have e := pruned_okes ts d k [] [(142, vT (.obj ts)), (143, .str kObj), (151, .lst (vEs ts))] (by (first | lia | omega)) h.1
    have hc : rev (cx (k + d + 2)) c__law_pruned_1 [(142, vT (.obj ts)), (143, .str kObj), (151, .lst (vEs ts))] [] = some (.lst (vEs (prEs ts)), []) := by
      refine rev_comp (vs := vEs ts) ?_ (iter_lst (by rw [vEs_len]; have := h.2; (first | lia | omega))) e
      simp only [l_rev_2, rlk_1, Nat.reduceBEq, eq_self]
    simp only [vT_6, kObj] at hc
    rw [show k + (d + 1) + 2 = k + d + 2 + 1 by (first | lia | omega)]
    refine rF_fn (d := d__law_pruned) rfl rfl (pT_pures _) (v := vT (.obj (prEs ts))) (H' := []) ?_ (frzT [] _ (d + 1) (96 - 12 * (d + 1)) hp |> fun z => by rwa [show 96 - 12 * (d + 1) + 12 * (d + 1) + 4 = 100 by (first | lia | omega)] at z)
    simp only [d__law_pruned, b__law_pruned, vT_6, kObj, hc, rrun, leq_0, leq_1, cmp_eq, eqV_str, rbindP_0, rbindP_1, l_rev_0, l_rev_2, l_rev_7, l_rev_9, l_revs_0, l_revs_1, l_revC_0, l_rex_1, l_rex_2, l_rex_5, l_rexs_0, l_rexs_1, rtgtA, rtgt, rt0, rt1, rlk_1, rup_0, rup_1, Nat.reduceBEq, eq_self, rtruth_1]
theorem pruned_oks : ∀ (t : Ts) (d k : Nat) (H : Hp) (ρ : Env), d ≤ 5 → htTs t d → compF (compB (cx (k + d + 2)) (.fn 66 (.cons (.loc 174) .nil)) [174] (.val (.bool true)) ρ) (vTs t) H = some (vTs (prTs t), H)
  | .nil, _, _, _, _, _, _ => by rfl
  | .cons t ts, d, k, H, ρ, hd, h => by
    have a := pruned_ok t d k H hd h.1
    have e : compB (cx (k + d + 2)) (.fn 66 (.cons (.loc 174) .nil)) [174] (.val (.bool true)) ρ (vT t) H = some (some (vT (prT t)), H) := by
      simp only [compB, a, l_rev_0, l_rev_2, l_rev_17, l_revs_0, l_revs_1, rlk_1, Nat.reduceBEq, eq_self, cx_call, rtruth_1, rbind_0, List.cons_append, List.nil_append]
    rw [vTs_1, compF_1, e]
    dsimp only
    rw [pruned_oks ts d k H ρ hd h.2]
    rfl
theorem pruned_okes : ∀ (t : Es) (d k : Nat) (H : Hp) (ρ : Env), d ≤ 5 → htEs t d → compF (compB (cx (k + d + 2)) (.tup (.cons (.loc 154) (.cons (.fn 66 (.cons (.loc 174) .nil)) .nil))) [154, 174] (.cmp (.loc 174) (.one .NotEq (.tup (.cons (.val (.str [115, 107, 105, 112])) (.cons (.val .none) .nil))))) ρ) (vEs t) H = some (vEs (prEs t), H)
  | .nil, _, _, _, _, _, _ => by rfl
  | .cons kk t ts, d, k, H, ρ, hd, h => by
    have a := pruned_ok t d k H hd h.1
    have b := pruned_okes ts d k H ρ hd h.2
    have ls := eqV_skip (H := H) hd h.1
    rw [vEs_1, compF_1, prEs]
    cases hs : isSkip t
    · have e : compB (cx (k + d + 2)) (.tup (.cons (.loc 154) (.cons (.fn 66 (.cons (.loc 174) .nil)) .nil))) [154, 174] (.cmp (.loc 174) (.one .NotEq (.tup (.cons (.val (.str [115, 107, 105, 112])) (.cons (.val .none) .nil))))) ρ (.tup [.str [keyOf kk], vT t]) H = some (some (.tup [.str [keyOf kk], vT (prT t)]), H) := by
        rw [hs] at ls
        simp only [compB, a, ls, cmp_ne, l_rev_0, l_rev_2, l_rev_7, l_rev_9, l_rev_17, l_revs_0, l_revs_1, l_revC_0, Option.bind_some, rlk_1, Nat.reduceBEq, eq_self, cx_call, rtruth_1, rbind_1, tupV_0, two_0, List.cons_append, List.nil_append, Option.map_some, Bool.not_false]
      rw [e]
      dsimp only
      rw [b]
      rfl
    · have e : compB (cx (k + d + 2)) (.tup (.cons (.loc 154) (.cons (.fn 66 (.cons (.loc 174) .nil)) .nil))) [154, 174] (.cmp (.loc 174) (.one .NotEq (.tup (.cons (.val (.str [115, 107, 105, 112])) (.cons (.val .none) .nil))))) ρ (.tup [.str [keyOf kk], vT t]) H = some (none, H) := by
        rw [hs] at ls
        simp only [compB, ls, cmp_ne, l_rev_0, l_rev_2, l_rev_7, l_rev_9, l_revs_0, l_revs_1, l_revC_0, Option.bind_some, rlk_1, Nat.reduceBEq, eq_self, rtruth_1, rbind_1, tupV_0, two_0, List.cons_append, List.nil_append, Option.map_some, Bool.not_true]
      rw [e]
      exact b
end
mutual
/-- told twice is told -/
theorem prT_idem : ∀ t : T, prT (prT t) = prT t
  | .skip => rfl
  | .num n => by
    have : n = 0 ∨ n = 1 ∨ n = 2 ∨ n = 3 ∨ n = 4 ∨ n = 5 := by (first | lia | omega)
    rcases this with rfl | rfl | rfl | rfl | rfl | rfl <;> rfl
  | .str n => rfl
  | .tt => rfl
  | .nul => rfl
  | .arr ts => by rw [prT, prT, prTs_idem ts]
  | .obj ts => by rw [prT, prT, prEs_idem ts]
theorem prTs_idem : ∀ t : Ts, prTs (prTs t) = prTs t
  | .nil => rfl
  | .cons t ts => by rw [prTs, prTs, prT_idem t, prTs_idem ts]
theorem prEs_idem : ∀ t : Es, prEs (prEs t) = prEs t
  | .nil => rfl
  | .cons k t ts => by
    rw [prEs]
    cases hs : isSkip t
    · dsimp only
      rw [prEs]
      have : isSkip (prT t) = false := by
        cases t with
        | skip => first | exact Mine.nos hs | exact Mine.ff0 hs | exact Mine.tf0 hs | exact Mine.sn0 hs | cases hs
        | num n =>
          unfold prT numT
          split <;> rfl
        | _ => rfl
      rw [this]
      dsimp only
      rw [prT_idem t, prEs_idem ts]
    · exact prEs_idem ts
end
open PySem
noncomputable def sV (l : List Nat) : V := .str l
theorem strsOf_map : ∀ xs : List (List Nat), strsOf (xs.map sV) = some xs
  | [] => rfl
  | x :: xs => by rw [List.map_cons, sV, strsOf, strsOf_map xs]; rfl
theorem sJoin_ok {H : Hp} {a : V} {xs : List (List Nat)} {l : List Nat} (h : listOfV H a = some (xs.map sV)) (hl : (joinS l xs).length ≤ 1000000) : sJoin H l a = some (.str (joinS l xs)) := by
  unfold sJoin
  rw [h, Option.bind_some, strsOf_map]
  dsimp only
  rw [szOk_le hl]
  rfl
noncomputable def rowsL (op cl : Nat) (xs : List (List Nat)) (gap ind : List Nat) : List Nat := match xs with
  | [] => [op] ++ [cl]
  | _ :: _ => match leq gap [] with
    | true => [op] ++ joinS [44] xs ++ [cl]
    | false => [op] ++ ([10] ++ ind ++ gap) ++ joinS ([44] ++ ([10] ++ ind ++ gap)) xs ++ [10] ++ ind ++ [cl]
theorem rows_run (K op cl : Nat) (xs : List (List Nat)) (gap ind : List Nat) (a : V) (H : Hp) (ha : listOfV H a = some (xs.map sV)) (hl : bLen H a = some (.int (xs.length : Int)))
    (hg : gap.length ≤ 2) (hi : ind.length ≤ 20) (hB : ∀ sep : List Nat, sep.length ≤ 50 → (joinS sep xs).length ≤ 10000) :
    rrun (cx K) d_json_rows [.str [op], .str [cl], a, .str gap, .str ind] H = some (.str (rowsL op cl xs gap ind), H) := by
  cases xs with
  | nil =>
    have hl : bLen H a = some (.int 0) := hl
    rw [← rblt_len] at hl
    simp (disch := ((try simp only [List.length_append, List.length_cons, List.length_nil, List.length_map]); (first | lia | omega))) only [d_json_rows, b_json_rows, hl, rrun, cmp_eq, eqV_int, binop_add, rbindP_0, rbindP_1, l_rev_0, l_rev_2, l_rev_3, l_rev_7, l_rev_16, l_revs_0, l_revs_1, l_revC_0, l_rex_1, l_rex_5, l_rexs_1, rlk_1, Nat.reduceBEq, eq_self, rtruth_1, List.cons_append, List.nil_append, decide_true]
    rfl
  | cons x xs =>
    have h0 : decide ((((x :: xs).length : Nat) : Int) = 0) = false := decide_eq_false (by simp only [List.length_cons]; (first | lia | omega))
    generalize hn : ((((x :: xs).length : Nat) : Int)) = n at hl h0
    rw [← rblt_len] at hl
    cases hgap : leq gap [] with
    | true =>
      have hb := hB [44] (by decide)
      have hj := sJoin_ok (l := [44]) ha (by (first | lia | omega))
      simp (disch := ((try simp only [List.length_append, List.length_cons, List.length_nil, List.length_map]); (first | lia | omega))) only [d_json_rows, b_json_rows, hl, h0, hj, rowsL, hgap, rrun, cmp_eq, eqV_int, eqV_str, binop_add, rstrM_join, rbindP_0, rbindP_1, l_rev_0, l_rev_2, l_rev_3, l_rev_7, l_rev_16, l_rev_18, l_revs_0, l_revs_1, l_revC_0, l_rex_1, l_rex_5, l_rexs_0, l_rexs_1, rlk_1, Nat.reduceBEq, eq_self, rtruth_1, List.cons_append, List.nil_append]
    | false =>
      have hb := hB ([44] ++ ([10] ++ ind ++ gap)) (by simp only [List.length_append, List.length_cons, List.length_nil]; (first | lia | omega))
      have hj := sJoin_ok (l := [44] ++ ([10] ++ ind ++ gap)) ha (by (first | lia | omega))
      simp only [List.cons_append, List.nil_append] at hb hj
      simp (disch := ((try simp only [List.length_append, List.length_cons, List.length_nil, List.length_map]); (first | lia | omega))) only [d_json_rows, b_json_rows, hl, h0, hj, rowsL, hgap, rrun, cmp_eq, eqV_int, eqV_str, binop_add, rstrM_join, rbindP_0, rbindP_1, l_rev_0, l_rev_2, l_rev_3, l_rev_7, l_rev_16, l_rev_18, l_revs_0, l_revs_1, l_revC_0, l_rex_1, l_rex_2, l_rex_5, l_rexs_0, l_rexs_1, rtgtA, rtgt, rlk_1, rup_0, rup_1, Nat.reduceBEq, eq_self, rtruth_1, List.cons_append, List.nil_append]
theorem rows_lst (K op cl : Nat) (xs : List (List Nat)) (gap ind : List Nat) (H : Hp) (hx : xs.length ≤ 100) (hp : vpures (xs.map sV) = true)
    (hg : gap.length ≤ 2) (hi : ind.length ≤ 20) (hB : ∀ sep : List Nat, sep.length ≤ 50 → (joinS sep xs).length ≤ 10000) :
    rF RP (K + 1) false 37 [.str [op], .str [cl], .lst (xs.map sV), .str gap, .str ind] H = some (.str (rowsL op cl xs gap ind), H) := by
  refine rF_fn (d := d_json_rows) rfl rfl (by simp only [vpures_0, vpures_1, vpure_3, vpure_5, hp]) (rows_run K op cl xs gap ind _ [] rfl ?_ hg hi hB) rfl
  simp only [bLen_2, List.length_map, szOk_le (show xs.length ≤ 1000000 by (first | lia | omega)), guard]
theorem rows_ref (K op cl : Nat) (xs : List (List Nat)) (gap ind : List Nat)
    (hg : gap.length ≤ 2) (hi : ind.length ≤ 20) (hB : ∀ sep : List Nat, sep.length ≤ 50 → (joinS sep xs).length ≤ 10000) :
    rF RP (K + 1) false 37 [.str [op], .str [cl], .ref 0, .str gap, .str ind] [.list (xs.map sV)] = some (.str (rowsL op cl xs gap ind), [.list (xs.map sV)]) := by
  refine rF_fnH (d := d_json_rows) rfl rfl rfl (rows_run K op cl xs gap ind _ _ rfl ?_ hg hi hB)
  simp only [bLen_3, List.length_map, List.getElem?_cons_zero]
theorem sV_pures : ∀ xs : List (List Nat), vpures (xs.map sV) = true
  | [] => rfl
  | x :: xs => by rw [List.map_cons, sV, vpures_1, vpure_3, sV_pures xs]

/-- the texts -/
noncomputable def numText : Fin 6 → List Nat
  | 3 => [55]
  | 4 => [45, 51]
  | 5 => [48]
  | _ => [110, 117, 108, 108]
noncomputable def strText : Fin 3 → List Nat
  | 0 => [34, 34]
  | 1 => [34, 115, 34]
  | 2 => [34, 92, 110, 34]
noncomputable def keyText (n : Fin 3) : List Nat := [34, keyOf n, 34]
noncomputable def colonL (gap : List Nat) : List Nat := match leq gap [] with
  | true => [58]
  | false => [58, 32]
mutual
noncomputable def laidT (gap ind : List Nat) : T → List Nat
  | .skip => [110, 117, 108, 108]
  | .num n => numText n
  | .str n => strText n
  | .tt => [116, 114, 117, 101]
  | .nul => [110, 117, 108, 108]
  | .arr ts => rowsL 91 93 (laidTs gap (ind ++ gap) ts) gap ind
  | .obj es => rowsL 123 125 (laidEs gap (ind ++ gap) es) gap ind
noncomputable def laidTs (gap ind : List Nat) : Ts → List (List Nat)
  | .nil => []
  | .cons t ts => laidT gap ind t :: laidTs gap ind ts
noncomputable def laidEs (gap ind : List Nat) : Es → List (List Nat)
  | .nil => []
  | .cons k t ts => match isSkip t with
    | true => laidEs gap ind ts
    | false => (keyText k ++ colonL gap ++ laidT gap ind t) :: laidEs gap ind ts
end
theorem laidEs_0 (gap ind : List Nat) : laidEs gap ind Es.nil = [] := rfl
theorem laidEs_1 (gap ind : List Nat) (k : _root_.Fin 3) (t : T) (ts : Es) : laidEs gap ind (Es.cons k t ts) = match isSkip t with
    | true => laidEs gap ind ts
    | false => (keyText k ++ colonL gap ++ laidT gap ind t) :: laidEs gap ind ts := rfl
theorem laidTs_1 (gap ind : List Nat) (t : T) (ts : Ts) : laidTs gap ind (Ts.cons t ts) = laidT gap ind t :: laidTs gap ind ts := rfl
theorem laidT_0 (gap ind : List Nat) : laidT gap ind T.skip = [110, 117, 108, 108] := rfl
theorem laidT_1 (gap ind : List Nat) (n : _root_.Fin 6) : laidT gap ind (T.num n) = numText n := rfl
theorem laidT_2 (gap ind : List Nat) (n : _root_.Fin 3) : laidT gap ind (T.str n) = strText n := rfl
theorem laidT_3 (gap ind : List Nat) : laidT gap ind T.tt = [116, 114, 117, 101] := rfl
theorem laidT_4 (gap ind : List Nat) : laidT gap ind T.nul = [110, 117, 108, 108] := rfl
theorem laidT_5 (gap ind : List Nat) (ts : Ts) : laidT gap ind (T.arr ts) = rowsL 91 93 (laidTs gap (ind ++ gap) ts) gap ind := rfl
theorem laidT_6 (gap ind : List Nat) (es : Es) : laidT gap ind (T.obj es) = rowsL 123 125 (laidEs gap (ind ++ gap) es) gap ind := rfl
mutual
theorem laidTs_len (gap ind : List Nat) : ∀ t : Ts, (laidTs gap ind t).length = lenTs t
  | .nil => rfl
  | .cons t ts => by simp only [laidTs_1, lenTs_1, List.length_cons, laidTs_len gap ind ts]
theorem laidEs_len (gap ind : List Nat) : ∀ t : Es, (laidEs gap ind t).length ≤ lenEs t
  | .nil => Nat.le_refl _
  | .cons k t ts => by
    have := laidEs_len gap ind ts
    rw [laidEs_1, lenEs_1]
    cases isSkip t
    · simp only [List.length_cons]; (first | lia | omega)
    · exact Nat.le_succ_of_le this
end
noncomputable def totL : List (List Nat) → Nat
  | [] => 0
  | x :: xs => x.length + totL xs
theorem joinS_len (sep : List Nat) : ∀ xs : List (List Nat), (joinS sep xs).length ≤ totL xs + xs.length * sep.length
  | [] => Nat.zero_le _
  | [x] => by simp only [joinS, totL]; (first | lia | omega)
  | x :: y :: xs => by
    have := joinS_len sep (y :: xs)
    simp only [joinS, totL, List.length_append, List.length_cons] at this ⊢
    rw [Nat.add_mul, Nat.one_mul]
    (first | lia | omega)
theorem rowsL_len {op cl : Nat} {xs : List (List Nat)} {gap ind : List Nat} (hg : gap.length ≤ 2) (hi : ind.length ≤ 20) (h3 : xs.length ≤ 3) : (rowsL op cl xs gap ind).length ≤ totL xs + 150 := by
  unfold rowsL
  split
  · simp
  · rename_i x xs
    split
    · have := joinS_len [44] (x :: xs)
      simp only [List.length_append, List.length_cons, List.length_nil] at this h3 ⊢
      (first | lia | omega)
    · have := joinS_len ([44] ++ ([10] ++ ind ++ gap)) (x :: xs)
      have h4 : (x :: xs).length * ([44] ++ ([10] ++ ind ++ gap)).length ≤ 3 * 24 := Nat.mul_le_mul h3 (by simp only [List.length_append, List.length_cons, List.length_nil]; (first | lia | omega))
      simp only [List.length_append, List.length_cons, List.length_nil] at this h3 h4 ⊢
      (first | lia | omega)
theorem numText_len (n : Fin 6) : (numText n).length ≤ 10 := by
  unfold numText
  split <;> decide
theorem strText_len (n : Fin 3) : (strText n).length ≤ 10 := by
  unfold strText
  split <;> decide
theorem colonL_len (gap : List Nat) : (colonL gap).length ≤ 2 := by
  unfold colonL
  split <;> decide
noncomputable def LB : Nat → Nat
  | 0 => 200
  | d + 1 => 4 * LB d
theorem LB_ge : ∀ d, 200 ≤ LB d
  | 0 => Nat.le_refl _
  | d + 1 => by have := LB_ge d; rw [LB]; (first | lia | omega)
mutual
theorem laidT_len (gap : List Nat) (hg : gap.length ≤ 2) : ∀ (t : T) (d : Nat) (ind : List Nat), ind.length + 2 * d ≤ 20 → htT t d → (laidT gap ind t).length ≤ LB d
  | .skip, d, ind, _, _ => by have := LB_ge d; rw [laidT_0]; simp only [List.length_cons, List.length_nil]; (first | lia | omega)
  | .num n, d, ind, _, _ => by have := LB_ge d; have := numText_len n; rw [laidT_1]; (first | lia | omega)
  | .str n, d, ind, _, _ => by have := LB_ge d; have := strText_len n; rw [laidT_2]; (first | lia | omega)
  | .tt, d, ind, _, _ => by have := LB_ge d; rw [laidT_3]; simp only [List.length_cons, List.length_nil]; (first | lia | omega)
  | .nul, d, ind, _, _ => by have := LB_ge d; rw [laidT_4]; simp only [List.length_cons, List.length_nil]; (first | lia | omega)
  | .arr ts, 0, ind, _, h => h.elim
  | .obj ts, 0, ind, _, h => h.elim
  | .arr ts, d + 1, ind, hi, h => by
    have hi' : (ind ++ gap).length + 2 * d ≤ 20 := by rw [List.length_append]; (first | lia | omega)
    have a := laidTs_tot gap hg ts d (ind ++ gap) hi' h.1
    have hm : lenTs ts * LB d ≤ 3 * LB d := Nat.mul_le_mul_right _ h.2
    have b := rowsL_len (op := 91) (cl := 93) (xs := laidTs gap (ind ++ gap) ts) (gap := gap) (ind := ind) hg (by (first | lia | omega)) (by rw [laidTs_len]; exact h.2)
    have := LB_ge d
    rw [laidT_5, LB]
    (first | lia | omega)
  | .obj ts, d + 1, ind, hi, h => by
    have hi' : (ind ++ gap).length + 2 * d ≤ 20 := by rw [List.length_append]; (first | lia | omega)
    have a := laidEs_tot gap hg ts d (ind ++ gap) hi' h.1
    have hm : lenEs ts * (LB d + 5) ≤ 3 * (LB d + 5) := Nat.mul_le_mul_right _ h.2
    have b := rowsL_len (op := 123) (cl := 125) (xs := laidEs gap (ind ++ gap) ts) (gap := gap) (ind := ind) hg (by (first | lia | omega)) (Nat.le_trans (laidEs_len _ _ _) h.2)
    have := LB_ge d
    rw [laidT_6, LB]
    (first | lia | omega)
theorem laidTs_tot (gap : List Nat) (hg : gap.length ≤ 2) : ∀ (t : Ts) (d : Nat) (ind : List Nat), ind.length + 2 * d ≤ 20 → htTs t d → totL (laidTs gap ind t) ≤ lenTs t * LB d
  | .nil, d, ind, _, _ => Nat.zero_le _
  | .cons t ts, d, ind, hi, h => by
    have := laidT_len gap hg t d ind hi h.1
    have := laidTs_tot gap hg ts d ind hi h.2
    rw [laidTs_1, totL, lenTs_1, Nat.add_mul, Nat.one_mul]
    (first | lia | omega)
theorem laidEs_tot (gap : List Nat) (hg : gap.length ≤ 2) : ∀ (t : Es) (d : Nat) (ind : List Nat), ind.length + 2 * d ≤ 20 → htEs t d → totL (laidEs gap ind t) ≤ lenEs t * (LB d + 5)
  | .nil, d, ind, _, _ => Nat.zero_le _
  | .cons k t ts, d, ind, hi, h => by
    have := laidT_len gap hg t d ind hi h.1
    have := laidEs_tot gap hg ts d ind hi h.2
    have := colonL_len gap
    rw [laidEs_1, lenEs_1, Nat.add_mul, Nat.one_mul]
    cases isSkip t
    · simp only [totL, keyText, List.length_append, List.length_cons, List.length_nil]
      (first | lia | omega)
    · dsimp only
      (first | lia | omega)
end
open PySem
theorem key_ok (n : Fin 3) (k : Nat) (H : Hp) : rF RP (k + 2) false 34 [.str [keyOf n]] H = some (.str (keyText n), H) := by
  have : n = 0 ∨ n = 1 ∨ n = 2 := by (first | lia | omega)
  rcases this with rfl | rfl | rfl
  all_goals exact rF_closed rfl rfl (by kernel_rfl) H
theorem plain_leaves (k : Nat) : leaves.all (fun t => okV (rF RP (k + 6) false 36 [vT t] []) (.str (laidT [] [] t))) = true := by kernel_rfl
theorem laid_leaf (gap ind : List Nat) : ∀ t : T, isLeaf t = true → laidT gap ind t = laidT [] [] t
  | .skip, _ => rfl
  | .num _, _ => rfl
  | .str _, _ => rfl
  | .tt, _ => rfl
  | .nul, _ => rfl
theorem plain_ok {t : T} (ht : isLeaf t = true) (gap ind : List Nat) (k : Nat) (H : Hp) : rF RP (k + 6) false 36 [vT t] H = some (.str (laidT gap ind t), H) := by
  rw [laid_leaf gap ind t ht]
  exact rF_closed rfl (pT_pures t) (leaf_all (plain_leaves _) ht) H
theorem leq_arr (t : T) (h : isLeaf t = true) : leq (kindT t) [97, 114, 114, 97, 121] = false := by cases t <;> first | rfl | cases h
theorem leq_obj (t : T) (h : isLeaf t = true) : leq (kindT t) [111, 98, 106, 101, 99, 116] = false := by cases t <;> first | rfl | cases h
theorem laid_pures (t : T) (gap ind : List Nat) : vpures [vT t, .str gap, .str ind] = true := by simp only [vpures_0, vpures_1, vpure_3, vT_pure]
theorem laid_leafs {t : T} (ht : isLeaf t = true) (gap ind : List Nat) (k : Nat) (H : Hp) : rF RP (k + 7) false 38 [vT t, .str gap, .str ind] H = some (.str (laidT gap ind t), H) := by
  refine rF_fn (d := d_json_laid) rfl rfl (laid_pures t gap ind) (v := .str (laidT gap ind t)) (H' := []) ?_ rfl
  have a := leq_arr t ht
  have b := leq_obj t ht
  have p := plain_ok ht gap ind k []
  rw [vT_eq t] at p ⊢
  simp only [d_json_laid, b_json_laid, a, b, p, rrun, cmp_eq, cmp_ne, eqV_str, rbindP_0, rbindP_1, l_rev_0, l_rev_2, l_rev_7, l_rev_17, l_revs_0, l_revs_1, l_revC_0, l_rex_1, l_rex_2, l_rex_5, l_rexs_0, l_rexs_1, rtgtA, rtgt, rt0, rt1, rlk_1, rup_0, rup_1, Nat.reduceBEq, eq_self, cx_call, rtruth_1, Option.map_some, Bool.not_false]
structure LEnv (gap ind : List Nat) (ρ : Env) : Prop where
  gp : rlk 148 ρ = some (.str gap)
  idt : rlk 149 ρ = some (.str ind)
  col : rlk 153 ρ = some (.str (colonL gap))
  som : rlk 147 ρ = some (.ref 0)
theorem LEnv.up2 {gap ind : List Nat} {ρ : Env} (E : LEnv gap ind ρ) (a b : V) : LEnv gap ind (rup 152 b (rup 154 a ρ)) := by
  refine ⟨?_, ?_, ?_, ?_⟩
  · rw [rlk_rup, if_neg (by decide), rlk_rup, if_neg (by decide)]; exact E.gp
  · rw [rlk_rup, if_neg (by decide), rlk_rup, if_neg (by decide)]; exact E.idt
  · rw [rlk_rup, if_neg (by decide), rlk_rup, if_neg (by decide)]; exact E.col
  · rw [rlk_rup, if_neg (by decide), rlk_rup, if_neg (by decide)]; exact E.som
theorem LB_le {d : Nat} (h : d ≤ 2) : LB d ≤ 3200 := by
  have : d = 0 ∨ d = 1 ∨ d = 2 := by (first | lia | omega)
  rcases this with rfl | rfl | rfl <;> decide
theorem key_len (n : Fin 3) : (keyText n).length = 3 := rfl
theorem join_bound {xs : List (List Nat)} {d : Nat} (hd : d ≤ 2) (h3 : xs.length ≤ 3) (ht : totL xs ≤ xs.length * (LB d + 5)) : ∀ sep : List Nat, sep.length ≤ 50 → (joinS sep xs).length ≤ 10000 := fun sep hs => by
  have a := joinS_len sep xs
  have b := LB_le hd
  have c : xs.length * sep.length ≤ 3 * 50 := Nat.mul_le_mul h3 hs
  have e : xs.length * (LB d + 5) ≤ 3 * 3205 := Nat.mul_le_mul h3 (by (first | lia | omega))
  (first | lia | omega)
theorem laidEs_tot' (gap : List Nat) (hg : gap.length ≤ 2) : ∀ (t : Es) (d : Nat) (ind : List Nat), ind.length + 2 * d ≤ 20 → htEs t d → totL (laidEs gap ind t) ≤ (laidEs gap ind t).length * (LB d + 5)
  | .nil, d, ind, _, _ => Nat.zero_le _
  | .cons k t ts, d, ind, hi, h => by
    have := laidT_len gap hg t d ind hi h.1
    have := laidEs_tot' gap hg ts d ind hi h.2
    have := colonL_len gap
    rw [laidEs_1]
    cases isSkip t
    · simp only [totL, keyText, List.length_append, List.length_cons, List.length_nil, Nat.add_mul, Nat.one_mul]
      (first | lia | omega)
    · exact this |> fun _ => by assumption
mutual
theorem laid_ok (gap : List Nat) (hg : gap.length ≤ 2) : ∀ (t : T) (d k : Nat) (ind : List Nat) (H : Hp), d ≤ 2 → ind.length + 2 * d ≤ 18 → htT t d → rF RP (k + d + 7) false 38 [vT t, .str gap, .str ind] H = some (.str (laidT gap ind t), H)
  | .skip, d, k, ind, H, _, _, _ => laid_leafs rfl gap ind (k + d) H
  | .num n, d, k, ind, H, _, _, _ => laid_leafs rfl gap ind (k + d) H
  | .str n, d, k, ind, H, _, _, _ => laid_leafs rfl gap ind (k + d) H
  | .tt, d, k, ind, H, _, _, _ => laid_leafs rfl gap ind (k + d) H
  | .nul, d, k, ind, H, _, _, _ => laid_leafs rfl gap ind (k + d) H
  | .arr ts, 0, k, ind, H, _, _, h => h.elim
  | .obj ts, 0, k, ind, H, _, _, h => h.elim
  | .arr ts, d + 1, k, ind, H, hd, hi, h => by
    have hi' : (ind ++ gap).length + 2 * d ≤ 18 := by rw [List.length_append]; (first | lia | omega)
    have e := laid_oks gap hg ts d k ind [] [(142, vT (.arr ts)), (148, .str gap), (149, .str ind), (143, .str kArr), (151, .lst (vTs ts))] (by (first | lia | omega)) hi' (by (first | lia | omega)) h.1 rfl rfl
    have hc : rev (cx (k + d + 7)) c_json_laid_0 [(142, vT (.arr ts)), (148, .str gap), (149, .str ind), (143, .str kArr), (151, .lst (vTs ts))] [] = some (.lst ((laidTs gap (ind ++ gap) ts).map sV), []) := by
      refine rev_comp (vs := vTs ts) ?_ (iter_lst (by rw [vTs_len]; have := h.2; (first | lia | omega))) e
      simp only [l_rev_2, rlk_1, Nat.reduceBEq, eq_self]
    have hl : (laidTs gap (ind ++ gap) ts).length ≤ 3 := by rw [laidTs_len]; exact h.2
    have hj : ∀ sep : List Nat, sep.length ≤ 50 → (joinS sep (laidTs gap (ind ++ gap) ts)).length ≤ 10000 := join_bound (d := d) (by (first | lia | omega)) hl (by
      have := laidTs_tot gap hg ts d (ind ++ gap) (by (first | lia | omega)) h.1
      rw [laidTs_len]
      exact Nat.le_trans this (Nat.mul_le_mul_left _ (by (first | lia | omega))))
    have hr := rows_lst (k + d + 6) 91 93 (laidTs gap (ind ++ gap) ts) gap ind [] (by (first | lia | omega)) (sV_pures _) hg (by (first | lia | omega)) hj
    simp only [vT_5, kArr] at hc
    rw [show k + (d + 1) + 7 = k + d + 7 + 1 by (first | lia | omega)]
    refine rF_fn (d := d_json_laid) rfl rfl (laid_pures _ gap ind) (v := .str (laidT gap ind (.arr ts))) (H' := []) ?_ rfl
    simp only [d_json_laid, b_json_laid, vT_5, kArr, hc, hr, laidT_5, rrun, leq_0, leq_1, cmp_eq, eqV_str, rbindP_0, rbindP_1, l_rev_0, l_rev_2, l_rev_7, l_rev_17, l_revs_0, l_revs_1, l_revC_0, l_rex_1, l_rex_2, l_rex_5, l_rexs_1, rtgtA, rtgt, rt0, rt1, rlk_1, rup_0, rup_1, Nat.reduceBEq, eq_self, cx_call, rtruth_1]
  | .obj ts, d + 1, k, ind, H, hd, hi, h => by
    have hi' : (ind ++ gap).length + 2 * d ≤ 18 := by rw [List.length_append]; (first | lia | omega)
    obtain ⟨ρ', E', e⟩ := laid_okes gap hg ts d k ind [] [(142, vT (.obj ts)), (148, .str gap), (149, .str ind), (143, .str kObj), (151, .lst (vEs ts)), (153, .str (colonL gap)), (147, .ref 0)] (by (first | lia | omega)) hi' (by (first | lia | omega)) h.1 (by
      have := laidEs_len gap (ind ++ gap) ts
      have := h.2
      rw [List.length_nil]
      (first | lia | omega)) ⟨rfl, rfl, rfl, rfl⟩
    have hc : rex (cx (k + d + 7)) f_json_laid_2 [(142, vT (.obj ts)), (148, .str gap), (149, .str ind), (143, .str kObj), (151, .lst (vEs ts)), (153, .str (colonL gap)), (147, .ref 0)] [.list []] = some (.next, ρ', [.list ((laidEs gap (ind ++ gap) ts).map sV)]) := by
      refine rex_for (vs := vEs ts) ?_ (iter_lst (by rw [vEs_len]; have := h.2; (first | lia | omega))) e
      simp only [List.map_nil, l_rev_2, rlk_1, Nat.reduceBEq, eq_self]
    have hl : (laidEs gap (ind ++ gap) ts).length ≤ 3 := Nat.le_trans (laidEs_len _ _ _) h.2
    have hj : ∀ sep : List Nat, sep.length ≤ 50 → (joinS sep (laidEs gap (ind ++ gap) ts)).length ≤ 10000 := join_bound (d := d) (by (first | lia | omega)) hl (laidEs_tot' gap hg ts d (ind ++ gap) (by (first | lia | omega)) h.1)
    have hr := rows_ref (k + d + 6) 123 125 (laidEs gap (ind ++ gap) ts) gap ind hg (by (first | lia | omega)) hj
    have e1 := E'.gp
    have e2 := E'.idt
    have e3 := E'.som
    rw [show k + (d + 1) + 7 = k + d + 7 + 1 by (first | lia | omega)]
    refine rF_fn (d := d_json_laid) rfl rfl (laid_pures _ gap ind) (v := .str (laidT gap ind (.obj ts))) (H' := [.list ((laidEs gap (ind ++ gap) ts).map sV)]) ?_ rfl
    have ec : colonL gap = match leq gap [] with | true => [58] | false => [58, 32] := rfl
    cases hq : leq gap []
    · rw [hq] at ec
      dsimp only at ec
      rw [ec] at hc
      simp only [vT_6, kObj] at hc
      simp only [d_json_laid, b_json_laid, vT_6, kObj, hc, hr, hq, e1, e2, e3, laidT_6, rrun, leq_0, leq_1, cmp_eq, cmp_ne, eqV_str, rbindP_0, rbindP_1, l_rev_0, l_rev_2, l_rev_7, l_rev_8, l_rev_10, l_rev_17, l_revs_0, l_revs_1, l_revC_0, l_rex_1, l_rex_2, l_rex_5, l_rexs_0, l_rexs_1, rtgtA, rtgt, rt0, rt1, rlk_1, rup_0, rup_1, Nat.reduceBEq, eq_self, cx_call, rtruth_1, List.nil_append, Option.map_some, List.length_nil, Bool.not_true]
    · rw [hq] at ec
      dsimp only at ec
      rw [ec] at hc
      simp only [vT_6, kObj] at hc
      simp only [d_json_laid, b_json_laid, vT_6, kObj, hc, hr, hq, e1, e2, e3, laidT_6, rrun, leq_0, leq_1, cmp_eq, cmp_ne, eqV_str, rbindP_0, rbindP_1, l_rev_0, l_rev_2, l_rev_7, l_rev_8, l_rev_10, l_rev_17, l_revs_0, l_revs_1, l_revC_0, l_rex_1, l_rex_2, l_rex_5, l_rexs_0, l_rexs_1, rtgtA, rtgt, rt0, rt1, rlk_1, rup_0, rup_1, Nat.reduceBEq, eq_self, cx_call, rtruth_1, List.nil_append, Option.map_some, List.length_nil, Bool.not_true]
theorem laid_oks (gap : List Nat) (hg : gap.length ≤ 2) : ∀ (t : Ts) (d k : Nat) (ind : List Nat) (H : Hp) (ρ : Env), d ≤ 2 → (ind ++ gap).length + 2 * d ≤ 18 → ind.length ≤ 18 → htTs t d → rlk 148 ρ = some (.str gap) → rlk 149 ρ = some (.str ind) →
    compF (compB (cx (k + d + 7)) (.fn 38 (.cons (.loc 152) (.cons (.loc 148) (.cons (.bin .Add (.loc 149) (.loc 148)) .nil)))) [152] (.val (.bool true)) ρ) (vTs t) H = some ((laidTs gap (ind ++ gap) t).map sV, H)
  | .nil, _, _, _, _, _, _, _, _, _, _, _ => by rfl
  | .cons t ts, d, k, ind, H, ρ, hd, hi, hi2, h, g1, g2 => by
    have a := laid_ok gap hg t d k (ind ++ gap) H hd hi h.1
    have hi3 : ind.length + gap.length + 2 * d ≤ 18 := by rw [← List.length_append]; exact hi
    have e : compB (cx (k + d + 7)) (.fn 38 (.cons (.loc 152) (.cons (.loc 148) (.cons (.bin .Add (.loc 149) (.loc 148)) .nil)))) [152] (.val (.bool true)) ρ (vT t) H = some (some (sV (laidT gap (ind ++ gap) t)), H) := by
      simp (disch := ((try simp only [List.length_append, List.length_cons, List.length_nil, List.length_map]); (first | lia | omega))) only [compB, a, g1, g2, sV, binop_add, l_rev_0, l_rev_2, l_rev_3, l_rev_17, l_revs_0, l_revs_1, rlk_1, Nat.reduceBEq, eq_self, cx_call, rtruth_1, rbind_0, List.cons_append, List.nil_append]
    rw [vTs_1, compF_1, e]
    dsimp only
    rw [laid_oks gap hg ts d k ind H ρ hd hi hi2 h.2 g1 g2]
    rfl
theorem laid_okes (gap : List Nat) (hg : gap.length ≤ 2) : ∀ (t : Es) (d k : Nat) (ind : List Nat) (acc : List (List Nat)) (ρ : Env), d ≤ 2 → (ind ++ gap).length + 2 * d ≤ 18 → ind.length ≤ 18 → htEs t d → acc.length + (laidEs gap (ind ++ gap) t).length ≤ 3 → LEnv gap ind ρ →
    ∃ ρ', LEnv gap ind ρ' ∧ rforF (forB (cx (k + d + 7)) (.tup [.name 154, .name 152]) fb_json_laid_1) (vEs t) ρ [.list (acc.map sV)] = some (.next, ρ', [.list ((acc ++ laidEs gap (ind ++ gap) t).map sV)])
  | .nil, _, _, _, acc, ρ, _, _, _, _, _, E => ⟨ρ, E, by rw [laidEs_0, List.append_nil]; rfl⟩
  | .cons kk t ts, d, k, ind, acc, ρ, hd, hi, hi2, h, ha, E => by
    have a := laid_ok gap hg t d k (ind ++ gap) [.list (acc.map sV)] hd hi h.1
    have hi3 : ind.length + gap.length + 2 * d ≤ 18 := by rw [← List.length_append]; exact hi
    have ls := leq_skip t
    have E2 := E.up2 (.str [keyOf kk]) (vT t)
    have g1 := E.gp
    have g2 := E.idt
    have g3 := E.col
    have g4 := E.som
    have l1 := laidT_len gap hg t d (ind ++ gap) (by (first | lia | omega)) h.1
    have l2 := LB_le hd
    have l3 := colonL_len gap
    have l4 := key_len kk
    have hk := key_ok kk (k + d + 5) [.list (acc.map sV)]
    rw [laidEs_1] at ha ⊢
    cases hs : isSkip t
    · rw [hs] at ls ha
      dsimp only at ha ⊢
      have e : forB (cx (k + d + 7)) (.tup [.name 154, .name 152]) fb_json_laid_1 (.tup [.str [keyOf kk], vT t]) ρ [.list (acc.map sV)] = some (.next, rup 152 (vT t) (rup 154 (.str [keyOf kk]) ρ), [.list ((acc ++ [keyText kk ++ colonL gap ++ laidT gap (ind ++ gap) t]).map sV)]) := by
        have hac : acc.length ≤ 3 := by (first | lia | omega)
        rw [vT_eq t] at a ⊢
        simp (disch := ((try simp only [List.length_append, List.length_cons, List.length_nil, List.length_map]); (first | lia | omega))) only [forB, fb_json_laid_1, a, ls, g1, g2, g3, g4, hk, List.map_append, List.map_cons, List.map_nil, sV, cmp_ne, eqV_str, binop_add, rlistM_app, rlk_rup, reduceIte, l_rev_0, l_rev_2, l_rev_3, l_rev_7, l_rev_15, l_rev_17, l_rev_18, l_revs_0, l_revs_1, l_revC_0, l_rex_0, l_rex_5, l_rexs_0, l_rexs_1, rtgtA, rtgt, rt0, rt1, eq_self, sub_tup, nth_0, cx_call, rtruth_1, Option.map_some, List.getElem?_cons_zero, List.set_cons_zero, Nat.reduceEqDiff, Bool.not_false]
      obtain ⟨ρ', e1, e2⟩ := laid_okes gap hg ts d k ind (acc ++ [keyText kk ++ colonL gap ++ laidT gap (ind ++ gap) t]) _ hd hi hi2 h.2 (by simp only [List.length_append, List.length_cons, List.length_nil] at ha ⊢; (first | lia | omega)) E2
      refine ⟨ρ', e1, ?_⟩
      rw [vEs_1, rforF_1, e]
      dsimp only
      rw [e2, List.append_assoc, List.singleton_append]
    · rw [hs] at ls ha
      dsimp only at ha ⊢
      have e : forB (cx (k + d + 7)) (.tup [.name 154, .name 152]) fb_json_laid_1 (.tup [.str [keyOf kk], vT t]) ρ [.list (acc.map sV)] = some (.next, rup 152 (vT t) (rup 154 (.str [keyOf kk]) ρ), [.list (acc.map sV)]) := by
        rw [vT_eq t] at a ⊢
        simp (disch := ((try simp only [List.length_append, List.length_cons, List.length_nil, List.length_map]); (first | lia | omega))) only [forB, fb_json_laid_1, ls, cmp_ne, eqV_str, rlk_rup, reduceIte, l_rev_0, l_rev_2, l_rev_7, l_rev_15, l_revC_0, l_rex_5, l_rexs_0, l_rexs_1, rtgtA, rtgt, rt0, rt1, eq_self, sub_tup, nth_0, rtruth_1, Option.map_some, Nat.reduceEqDiff, Bool.not_true]
      obtain ⟨ρ', e1, e2⟩ := laid_okes gap hg ts d k ind acc _ hd hi hi2 h.2 ha E2
      refine ⟨ρ', e1, ?_⟩
      rw [vEs_1, rforF_1, e]
      exact e2
end
open PySem
/-- at P, R lies ahead -/
structure At (L : List Nat) (P : Int) (R : List Nat) : Prop where
  nn : 0 ≤ P
  big : L.length ≤ 100000
  eq : L.drop P.toNat = R
  le : P ≤ (L.length : Int)
theorem At.pre {L : List Nat} {P : Int} {R : List Nat} (h : At L P R) : ∃ A, L = A ++ R ∧ P = (A.length : Int) := by
  obtain ⟨p, rfl⟩ := Int.eq_ofNat_of_zero_le h.nn
  have e : L.drop p = R := h.eq
  exact ⟨L.take p, by rw [← e, List.take_append_drop], by rw [List.length_take, Nat.min_eq_left (Int.ofNat_le.mp h.le)]⟩
theorem At.of (A R : List Nat) (hb : (A ++ R).length ≤ 100000) : At (A ++ R) (A.length : Int) R := ⟨Int.natCast_nonneg _, hb, by rw [Int.toNat_natCast, List.drop_left], by rw [List.length_append]; exact Int.ofNat_le.mpr (Nat.le_add_right ..)⟩
theorem At.skip {L : List Nat} {P : Int} {A R : List Nat} (h : At L P (A ++ R)) : At L (P + A.length) R := by
  obtain ⟨B, rfl, rfl⟩ := h.pre
  have := At.of (B ++ A) R (by rw [List.append_assoc]; exact h.big)
  rw [List.length_append, Int.natCast_add, List.append_assoc] at this
  exact this
theorem At.next {L : List Nat} {P : Int} {c : Nat} {R : List Nat} (h : At L P (c :: R)) : At L (P + 1) R := At.skip (A := [c]) h
theorem At.len {L : List Nat} {P : Int} {R : List Nat} (h : At L P R) : (L.length : Int) = P + R.length := by
  obtain ⟨B, rfl, rfl⟩ := h.pre
  rw [List.length_append, Int.natCast_add]
theorem At.lt {L : List Nat} {P : Int} {c : Nat} {R : List Nat} (h : At L P (c :: R)) : decide (P < (L.length : Int)) = true := decide_eq_true (by have := h.len; rw [List.length_cons] at this; (first | lia | omega))
theorem At.ge {L : List Nat} {P : Int} (h : At L P []) : decide (P < (L.length : Int)) = false := decide_eq_false (by have := h.len; rw [List.length_nil] at this; (first | lia | omega))
theorem At.lt' {L : List Nat} {P : Int} {c : Nat} {R : List Nat} (h : At L P (c :: R)) : decide ((L.length : Int) ≤ P) = false := decide_eq_false (by have := h.len; rw [List.length_cons] at this; (first | lia | omega))
theorem At.ge' {L : List Nat} {P : Int} (h : At L P []) : decide ((L.length : Int) ≤ P) = true := decide_eq_true (by have := h.len; rw [List.length_nil] at this; (first | lia | omega))
theorem sub_str {H : Hp} {l : List Nat} {i : Int} {c : Nat} (h0 : 0 ≤ i) (h1 : i < 1000000) (h : l[i.toNat]? = some c) : sub H (.str l) (.int i) = some (.str [c]) := by
  show (match decide (0 ≤ i), decide (i < 1000000) with | true, true => (l[i.toNat]?).map fun c => V.str [c] | _, _ => none) = _
  rw [decide_eq_true h0, decide_eq_true h1, h]
  rfl
theorem At.get {L : List Nat} {P : Int} {c : Nat} {R : List Nat} (h : At L P (c :: R)) (H : Hp) : sub H (.str L) (.int P) = some (.str [c]) := by
  have hl := h.len
  have hb := h.big
  rw [List.length_cons] at hl
  refine sub_str h.nn (by (first | lia | omega)) ?_
  have : (L.drop P.toNat)[0]? = some c := by rw [h.eq]; rfl
  rwa [List.getElem?_drop, Nat.add_zero] at this
theorem bnd_ok {n : Nat} {i : Int} {d : Option Nat} (h0 : 0 ≤ i) (h1 : i < 1000000) : bnd n (some i) d = some (min i.toNat n) := by
  show (match decide (0 ≤ i), decide (i < 1000000) with | true, true => some (min i.toNat n) | _, _ => none) = _
  rw [decide_eq_true h0, decide_eq_true h1]
theorem bnd_nat {n i : Nat} {d : Option Nat} (h1 : i < 1000000) : bnd n (some (i : Int)) d = some (min i n) := by
  rw [bnd_ok (Int.natCast_nonneg _) (Int.ofNat_lt.mpr h1), Int.toNat_natCast]
theorem slice_str (l : List Nat) (a b : Option Int) : slice (.str l) a b = match bnd l.length a (some 0), bnd l.length b (some l.length) with
    | some x, some y => some (V.str ((l.take y).drop x))
    | _, _ => none := rfl
theorem At.sli {L : List Nat} {P Q : Int} {R : List Nat} (h : At L P R) (n : Nat) (hq : Q = P + n) (hn : n ≤ 1000) : slice (.str L) (some P) (some Q) = some (.str (R.take n)) := by
  have hb := h.big
  obtain ⟨B, rfl, rfl⟩ := h.pre
  rw [← Int.natCast_add] at hq
  have h1 : B.length ≤ 100000 := Nat.le_trans (List.length_append (as := B) ▸ Nat.le_add_right ..) hb
  have h2 : B.length < 1000000 := Nat.lt_of_le_of_lt h1 (by decide)
  have h3 : B.length + n < 1000000 := Nat.lt_of_le_of_lt (Nat.add_le_add h1 hn) (by decide)
  rw [hq, slice_str, bnd_nat h2, bnd_nat h3]
  dsimp only
  rw [List.length_append, Nat.min_eq_left (Nat.le_add_right ..), List.drop_take, List.drop_left, Nat.add_min_add_left, Nat.add_sub_cancel_left, List.take_eq_take_iff.mpr (show min (min n R.length) R.length = min n R.length by rw [Nat.min_assoc, Nat.min_self])]
theorem sign_ok {L : List Nat} {P : Int} {R : List Nat} (h : At L P R) (k : Nat) (H : Hp) : rF RP (k + 1) false 54 [.str L, .int P] H = some (.str (R.take 1), H) := by
  refine rF_fn (d := d_json_sign) rfl rfl rfl (v := .str (R.take 1)) (H' := []) ?_ rfl
  have := h.sli (Q := P + 1) 1 rfl (by decide)
  simp only [d_json_sign, b_json_sign, this, rrun, binop_int, rbindP_0, rbindP_1, l_rev_0, l_rev_2, l_rev_3, l_rev_14, l_revO_1, l_rex_1, l_rexs_1, rlk_1, Nat.reduceBEq, eq_self, ar0, Option.map_some]

/-- while loops, a turn at a time -/
theorem rwhile_step {t : Env → Hp → Option (Bool × Hp)} {b : Env → Hp → Option (Fl × Env × Hp)} {w : Nat} {ρ ρ2 : Env} {H H1 H2 : Hp} (ht : t ρ H = some (true, H1)) (hb : b ρ H1 = some (.next, ρ2, H2)) :
    rwhileF t b (w + 1) ρ H = rwhileF t b w ρ2 H2 := by
  rw [rwhileF_1, ht]
  dsimp only
  rw [hb]
theorem rwhile_ret {t : Env → Hp → Option (Bool × Hp)} {b : Env → Hp → Option (Fl × Env × Hp)} {w : Nat} {ρ ρ2 : Env} {H H1 H2 : Hp} {v : V} (ht : t ρ H = some (true, H1)) (hb : b ρ H1 = some (.ret v, ρ2, H2)) :
    rwhileF t b (w + 1) ρ H = some (.ret v, ρ2, H2) := by
  rw [rwhileF_1, ht]
  dsimp only
  rw [hb]
theorem rwhile_end {t : Env → Hp → Option (Bool × Hp)} {b : Env → Hp → Option (Fl × Env × Hp)} {w : Nat} {ρ : Env} {H H1 : Hp} (ht : t ρ H = some (false, H1)) :
    rwhileF t b (w + 1) ρ H = some (.next, ρ, H1) := by
  rw [rwhileF_1, ht]

noncomputable def isBl (c : Nat) : Bool := memN c [32, 9, 10, 13]
noncomputable def blanks : List Nat → Bool
  | [] => true
  | c :: r => match isBl c with | true => blanks r | false => false
/-- no blank ahead -/
noncomputable def noBl : List Nat → Bool
  | [] => true
  | c :: _ => match isBl c with | true => false | false => true
abbrev tBl : RE := .bop false (.cmp (.loc 7) (.one .Lt (.blt 0 (.cons (.loc 6) .nil)))) (.cmp (.idx (.loc 6) (.loc 7)) (.one .In (.glb 98)))
theorem gl98 (k : Nat) : (cx k).glb 98 = .str [32, 9, 10, 13] := rfl
theorem tBl_true {L : List Nat} {P : Int} {c : Nat} {R : List Nat} (h : At L P (c :: R)) (hc : isBl c = true) (k : Nat) (H : Hp) : tstB (cx k) tBl [(6, .str L), (7, .int P)] H = some (true, H) := by
  have a := h.lt
  have b := h.get
  have c1 : memN c [32, 9, 10, 13] = true := hc
  simp only [tstB, a, b, c1, gl98, cmp_lt, cmp_in, inV_ss, l_rev_1, l_rev_2, l_rev_6, l_rev_7, l_rev_15, l_rev_16, l_revs_0, l_revs_1, l_revC_0, rlk_1, Nat.reduceBEq, eq_self, rblt_len, bLen_0, rtruth_1, one, Option.map_some]
theorem tBl_false {L : List Nat} {P : Int} {R : List Nat} (h : At L P R) (hc : noBl R = true) (k : Nat) (H : Hp) : tstB (cx k) tBl [(6, .str L), (7, .int P)] H = some (false, H) := by
  cases R with
  | nil =>
    have a := h.ge
    simp only [tstB, a, cmp_lt, l_rev_2, l_rev_6, l_rev_7, l_rev_16, l_revs_0, l_revs_1, l_revC_0, rlk_1, Nat.reduceBEq, eq_self, rblt_len, bLen_0, rtruth_1]
  | cons c R =>
    have a := h.lt
    have b := h.get
    have c1 : memN c [32, 9, 10, 13] = false := by
      cases q : memN c [32, 9, 10, 13] with
      | false => rfl
      | true => simp [noBl, isBl, q] at hc
    simp only [tstB, a, b, c1, gl98, cmp_lt, cmp_in, inV_ss, l_rev_1, l_rev_2, l_rev_6, l_rev_7, l_rev_15, l_rev_16, l_revs_0, l_revs_1, l_revC_0, rlk_1, Nat.reduceBEq, eq_self, rblt_len, bLen_0, rtruth_1, one, Option.map_some]
theorem blank_loop (k : Nat) (H : Hp) {L : List Nat} : ∀ {B : List Nat} {P : Int} {R : List Nat} (w : Nat), blanks B = true → noBl R = true → At L P (B ++ R) →
    rwhileF (tstB (cx k) tBl) (fun ρ H => rexs (cx k) wb_skip_json_blanks_0 ρ H) (w + B.length + 1) [(6, .str L), (7, .int P)] H = some (.next, [(6, .str L), (7, .int (P + B.length))], H)
  | [], P, R, w, _, hr, h => by
    rw [rwhile_end (tBl_false (R := R) (by simpa using h) hr k H)]
    simp
  | c :: B, P, R, w, hb, hr, h => by
    rw [blanks] at hb
    split at hb
    · rename_i hc
      have hbd : rexs (cx k) wb_skip_json_blanks_0 [(6, .str L), (7, .int P)] H = some (.next, [(6, .str L), (7, .int (P + 1))], H) := by
        simp only [wb_skip_json_blanks_0, l_rev_0, l_rex_3, l_rexs_0, l_rexs_1, augK, intV, Option.bind_some, rlk_1, rup_1, Nat.reduceBEq, eq_self, Option.map_some]
      rw [List.length_cons, show w + (B.length + 1) + 1 = (w + B.length + 1) + 1 by (first | lia | omega), rwhile_step (tBl_true h hc k H) hbd, blank_loop k H w hb hr (At.next h)]
      rw [show P + 1 + (B.length : Int) = P + ((B.length + 1 : Nat) : Int) by (first | lia | omega)]
    · first | exact Mine.nos hb | exact Mine.ff0 hb | exact Mine.tf0 hb | exact Mine.sn0 hb | cases hb
theorem blanks_ok {L B R : List Nat} {P : Int} (hb : blanks B = true) (hr : noBl R = true) (h : At L P (B ++ R)) (hB : B.length ≤ 1000) (k : Nat) (H : Hp) :
    rF RP (k + 1) false 55 [.str L, .int P] H = some (.int (P + B.length), H) := by
  have hw : rex (cx k) w_skip_json_blanks_1 [(6, .str L), (7, .int P)] [] = some (.next, [(6, .str L), (7, .int (P + B.length))], []) := by
    refine rex_whl ?_
    have := blank_loop k [] (W - B.length - 1) hb hr h
    rwa [show W - B.length - 1 + B.length + 1 = W by unfold W; (first | lia | omega)] at this
  refine rF_fn (d := d_skip_json_blanks) rfl rfl rfl (v := .int (P + B.length)) (H' := []) ?_ rfl
  simp only [d_skip_json_blanks, b_skip_json_blanks, hw, rrun, rbindP_0, rbindP_1, l_rev_2, l_rex_1, l_rexs_1, rlk_1, Nat.reduceBEq, eq_self]
open PySem
/-- what may stand behind a number -/
noncomputable def Dl : List Nat → Bool
  | [] => true
  | c :: _ => memN c [44, 93, 125, 10]
noncomputable def figV (c : Nat) : Int := match c with
  | 55 => 7
  | 51 => 3
  | 48 => 0
  | _ => 36
theorem fig_all (k : Nat) : [55, 51, 48, 44, 93, 125, 10].all (fun c => okV (rF RP (k + 1) false 46 [.str [c]] []) (.int (figV c))) = true := by kernel_rfl
theorem memN_mem {c : Nat} : ∀ {l : List Nat}, memN c l = true → c ∈ l
  | x :: r, h => by
    rw [memN_1] at h
    split at h
    · rename_i e; rw [eq_of_beq e]; exact List.mem_cons_self
    · exact List.mem_cons_of_mem _ (memN_mem h)
theorem fig_ok {c : Nat} (h : memN c [55, 51, 48, 44, 93, 125, 10] = true) (k : Nat) (H : Hp) : rF RP (k + 1) false 46 [.str [c]] H = some (.int (figV c), H) :=
  rF_closed rfl rfl (List.all_eq_true.mp (fig_all _) c (memN_mem h)) H
theorem Dl_cases {R : List Nat} (h : Dl R = true) : R = [] ∨ ∃ c R', R = c :: R' ∧ (c = 44 ∨ c = 93 ∨ c = 125 ∨ c = 10) := by
  cases R with
  | nil => exact .inl rfl
  | cons c R' =>
    refine .inr ⟨c, R', rfl, ?_⟩
    have := memN_mem (show memN c [44, 93, 125, 10] = true from h)
    simpa using this
abbrev tRun : RE := .bop false (.cmp (.loc 7) (.one .Lt (.blt 0 (.cons (.loc 6) .nil)))) (.cmp (.fn 46 (.cons (.idx (.loc 6) (.loc 7)) .nil)) (.one .Lt (.loc 159)))
theorem run1 {L : List Nat} {P : Int} {d : Nat} {R : List Nat} (hd : d = 55 ∨ d = 51 ∨ d = 48) (hR : Dl R = true) (h : At L P (d :: R)) (k : Nat) (H : Hp) :
    rF RP (k + 2) false 47 [.str L, .int P, .int 10] H = some (.int (P + 1), H) := by
  have t1 : tstB (cx (k + 1)) tRun [(6, .str L), (7, .int P), (159, .int 10)] [] = some (true, []) := by
    have a := h.lt
    have b := h.get
    rcases hd with rfl | rfl | rfl
    all_goals simp only [tstB, a, b, fig_ok (c := 55) rfl, fig_ok (c := 51) rfl, fig_ok (c := 48) rfl, figV, cmp_lt, l_rev_2, l_rev_6, l_rev_7, l_rev_15, l_rev_16, l_rev_17, l_revs_0, l_revs_1, l_revC_0, rlk_1, Nat.reduceBEq, eq_self, rblt_len, bLen_0, cx_call, rtruth_1, Int.reduceLT, decide_true]
  have b1 : rexs (cx (k + 1)) wb_run_end_0 [(6, .str L), (7, .int P), (159, .int 10)] [] = some (.next, [(6, .str L), (7, .int (P + 1)), (159, .int 10)], []) := by
    simp only [wb_run_end_0, l_rev_0, l_rex_3, l_rexs_0, l_rexs_1, augK, intV, Option.bind_some, rlk_1, rup_1, Nat.reduceBEq, eq_self, Option.map_some]
  have t2 : tstB (cx (k + 1)) tRun [(6, .str L), (7, .int (P + 1)), (159, .int 10)] [] = some (false, []) := by
    have h2 := h.next
    rcases Dl_cases hR with rfl | ⟨c, R', rfl, hc⟩
    · have a := h2.ge
      simp only [tstB, a, cmp_lt, l_rev_2, l_rev_6, l_rev_7, l_rev_16, l_revs_0, l_revs_1, l_revC_0, rlk_1, Nat.reduceBEq, eq_self, rblt_len, bLen_0, rtruth_1]
    · have a := h2.lt
      have b := h2.get
      rcases hc with rfl | rfl | rfl | rfl
      all_goals simp only [tstB, a, b, fig_ok (c := 44) rfl, fig_ok (c := 93) rfl, fig_ok (c := 125) rfl, fig_ok (c := 10) rfl, figV, cmp_lt, l_rev_2, l_rev_6, l_rev_7, l_rev_15, l_rev_16, l_rev_17, l_revs_0, l_revs_1, l_revC_0, rlk_1, Nat.reduceBEq, eq_self, rblt_len, bLen_0, cx_call, rtruth_1, Int.reduceLT, decide_false]
  have hw : rex (cx (k + 1)) w_run_end_1 [(6, .str L), (7, .int P), (159, .int 10)] [] = some (.next, [(6, .str L), (7, .int (P + 1)), (159, .int 10)], []) := by
    refine rex_whl ?_
    rw [show W = 99998 + 1 + 1 from rfl, rwhile_step t1 b1, rwhile_end t2]
  refine rF_fn (d := d_run_end) rfl rfl rfl (v := .int (P + 1)) (H' := []) ?_ rfl
  simp only [d_run_end, b_run_end, hw, rrun, rbindP_0, rbindP_1, l_rev_2, l_rex_1, l_rexs_1, rlk_1, Nat.reduceBEq, eq_self]
theorem expo_ok {L : List Nat} {P : Int} {R : List Nat} (hR : Dl R = true) (h : At L P R) (k : Nat) (H : Hp) : rF RP (k + 1) false 52 [.str L, .int P] H = some (.tup [.int 0, .int P], H) := by
  refine rF_fn (d := d_exponent_at) rfl rfl rfl (v := .tup [.int 0, .int P]) (H' := []) ?_ rfl
  rcases Dl_cases hR with rfl | ⟨c, R', rfl, hc⟩
  · have a := h.ge'
    simp only [d_exponent_at, b_exponent_at, a, rrun, cmp_ge, rbindP_0, rbindP_1, l_rev_0, l_rev_2, l_rev_6, l_rev_7, l_rev_9, l_rev_16, l_revs_0, l_revs_1, l_revC_0, l_rex_1, l_rex_5, l_rexs_1, rlk_1, Nat.reduceBEq, eq_self, rblt_len, bLen_0, rtruth_1]
  · have a := h.lt'
    have b := h.get
    rcases hc with rfl | rfl | rfl | rfl
    all_goals simp only [d_exponent_at, b_exponent_at, a, b, memN_0, memN_1, rrun, cmp_ge, cmp_nin, inV_ss, rbindP_0, rbindP_1, l_rev_0, l_rev_2, l_rev_6, l_rev_7, l_rev_9, l_rev_15, l_rev_16, l_revs_0, l_revs_1, l_revC_0, l_rex_1, l_rex_5, l_rexs_1, rlk_1, Nat.reduceBEq, eq_self, rblt_len, bLen_0, rtruth_1, one, Option.map_some, Bool.not_false]
theorem dec7 (k : Nat) (H : Hp) : rF RP (k + 4) false 49 [.str [55], .int 0] H = some (.int (bitsOf 3), H) := rF_closed rfl rfl (by kernel_rfl) H
theorem dec3 (k : Nat) (H : Hp) : rF RP (k + 4) false 49 [.str [51], .int 0] H = some (.int 4613937818241073152, H) := rF_closed rfl rfl (by kernel_rfl) H
theorem dec0 (k : Nat) (H : Hp) : rF RP (k + 4) false 49 [.str [48], .int 0] H = some (.int (bitsOf 5), H) := rF_closed rfl rfl (by kernel_rfl) H
theorem tur7 (k : Nat) (H : Hp) : rF RP (k + 1) false 51 [.int (bitsOf 3), .bool false] H = some (.int (bitsOf 3), H) := rF_closed rfl rfl (by kernel_rfl) H
theorem tur0 (k : Nat) (H : Hp) : rF RP (k + 1) false 51 [.int (bitsOf 5), .bool false] H = some (.int (bitsOf 5), H) := rF_closed rfl rfl (by kernel_rfl) H
theorem tur3 (k : Nat) (H : Hp) : rF RP (k + 1) false 51 [.int 4613937818241073152, .bool true] H = some (.int (bitsOf 4), H) := rF_closed rfl rfl (by kernel_rfl) H
theorem Dl_dot {R : List Nat} (hR : Dl R = true) : leq (R.take 1) [46] = false := by
  rcases Dl_cases hR with rfl | ⟨c, R', rfl, hc⟩
  · rfl
  · rcases hc with rfl | rfl | rfl | rfl <;> rfl
theorem number_ok {L : List Nat} {P : Int} {R : List Nat} (n : Fin 6) (hn : n = 3 ∨ n = 4 ∨ n = 5) (hR : Dl R = true) (h : At L P (numText n ++ R)) (k : Nat) (H : Hp) :
    rF RP (k + 5) false 56 [.str L, .int P] H = some (.tup [.int (bitsOf n), .int (P + (numText n).length)], H) := by
  have d1 := Dl_dot hR
  refine rF_fn (d := d_json_number) rfl rfl rfl (v := .tup [.int (bitsOf n), .int (P + (numText n).length)]) (H' := []) ?_ rfl
  have e1 : decide (P + 1 = P) = false := decide_eq_false (by (first | lia | omega))
  have e2 : decide (P + 1 < P + 1) = false := decide_eq_false (by (first | lia | omega))
  have e3 : decide (P + 1 + 1 = P + 1) = false := decide_eq_false (by (first | lia | omega))
  have e4 : decide (P + 1 + 1 < P + 1 + 1) = false := decide_eq_false (by (first | lia | omega))
  rcases hn with rfl | rfl | rfl
  · have h : At L P (55 :: R) := h
    have s1 := fun H => sign_ok h (k + 3) H
    have s2 := fun H => sign_ok h.next (k + 3) H
    have r1 := fun H => run1 (.inl rfl) hR h (k + 2) H
    have x1 := fun H => expo_ok hR h.next (k + 3) H
    have g := h.get
    have sl := h.sli (Q := P + 1) 1 rfl (by decide)
    simp only [List.take_succ_cons, List.take_zero] at s1 sl
    simp only [d_json_number, b_json_number, s1, s2, r1, x1, g, sl, d1, e1, dec7, tur7, numText, rrun, leq_1, cmp_eq, eqV_int, eqV_str, binop_int, rbindP_0, rbindP_1, l_rev_0, l_rev_2, l_rev_3, l_rev_6, l_rev_7, l_rev_8, l_rev_9, l_rev_14, l_rev_15, l_rev_17, l_revs_0, l_revs_1, l_revC_0, l_revO_1, l_rex_1, l_rex_2, l_rex_5, l_rexs_0, l_rexs_1, rtgtA, rtgt, rt0, rt1, rlk_1, rup_0, rup_1, Nat.reduceBEq, ar1, cx_call, rtruth_1, Int.reduceSub, Option.map_some, List.length_cons, List.length_nil, Nat.reduceAdd]
    rfl
  · have h : At L P (45 :: 51 :: R) := h
    have s1 := fun H => sign_ok h (k + 3) H
    have s2 := fun H => sign_ok h.next.next (k + 3) H
    have r1 := fun H => run1 (.inr (.inl rfl)) hR h.next (k + 2) H
    have x1 := fun H => expo_ok hR h.next.next (k + 3) H
    have g := h.next.get
    have sl := h.next.sli (Q := P + 1 + 1) 1 rfl (by decide)
    simp only [List.take_succ_cons, List.take_zero] at s1 sl
    simp only [d_json_number, b_json_number, s1, s2, r1, x1, g, sl, d1, e3, dec3, tur3, numText, rrun, leq_0, leq_1, cmp_eq, eqV_int, eqV_str, binop_int, rbindP_0, rbindP_1, l_rev_0, l_rev_2, l_rev_3, l_rev_6, l_rev_7, l_rev_8, l_rev_9, l_rev_14, l_rev_15, l_rev_17, l_revs_0, l_revs_1, l_revC_0, l_revO_1, l_rex_1, l_rex_2, l_rex_5, l_rexs_0, l_rexs_1, rtgtA, rtgt, rt0, rt1, rlk_1, rup_0, rup_1, Nat.reduceBEq, ar0, ar1, cx_call, rtruth_1, Int.reduceSub, Option.map_some, List.length_cons, List.length_nil, Nat.reduceAdd]
    rw [Int.add_assoc]; rfl
  · have h : At L P (48 :: R) := h
    have s1 := fun H => sign_ok h (k + 3) H
    have s2 := fun H => sign_ok h.next (k + 3) H
    have r1 := fun H => run1 (.inr (.inr rfl)) hR h (k + 2) H
    have x1 := fun H => expo_ok hR h.next (k + 3) H
    have g := h.get
    have sl := h.sli (Q := P + 1) 1 rfl (by decide)
    simp only [List.take_succ_cons, List.take_zero] at s1 sl
    simp only [d_json_number, b_json_number, s1, s2, r1, x1, g, sl, d1, e1, e2, dec0, tur0, numText, rrun, leq_0, leq_1, cmp_eq, cmp_gt, eqV_int, eqV_str, binop_int, rbindP_0, rbindP_1, l_rev_0, l_rev_2, l_rev_3, l_rev_6, l_rev_7, l_rev_8, l_rev_9, l_rev_14, l_rev_15, l_rev_17, l_revs_0, l_revs_1, l_revC_0, l_revO_1, l_rex_1, l_rex_2, l_rex_5, l_rexs_0, l_rexs_1, rtgtA, rtgt, rt0, rt1, rlk_1, rup_0, rup_1, Nat.reduceBEq, ar0, ar1, cx_call, rtruth_1, Int.reduceSub, Option.map_some, List.length_cons, List.length_nil, Nat.reduceAdd]
    rfl
open PySem
abbrev tStr : RE := .cmp (.fn 54 (.cons (.loc 6) (.cons (.loc 7) .nil))) (.one .NotEq (.val (.str [34])))
theorem tStr_false {L : List Nat} {P : Int} {R : List Nat} (h : At L P (34 :: R)) (k : Nat) (ρ : Env) (H : Hp) (h1 : rlk 6 ρ = some (.str L)) (h2 : rlk 7 ρ = some (.int P)) : tstB (cx (k + 1)) tStr ρ H = some (false, H) := by
  have s := fun H => sign_ok h k H
  simp only [List.take_succ_cons, List.take_zero] at s
  simp only [tstB, s, h1, h2, leq_0, leq_1, cmp_ne, eqV_str, l_rev_0, l_rev_2, l_rev_7, l_rev_17, l_revs_0, l_revs_1, l_revC_0, Nat.reduceBEq, eq_self, cx_call, rtruth_1, Option.map_some, Bool.not_true]
theorem tStr_true {L : List Nat} {P : Int} {c : Nat} {R : List Nat} (h : At L P (c :: R)) (hc : (c == 34) = false) (k : Nat) (ρ : Env) (H : Hp) (h1 : rlk 6 ρ = some (.str L)) (h2 : rlk 7 ρ = some (.int P)) : tstB (cx (k + 1)) tStr ρ H = some (true, H) := by
  have s := fun H => sign_ok h k H
  simp only [List.take_succ_cons, List.take_zero] at s
  simp only [tstB, s, h1, h2, hc, leq_1, cmp_ne, eqV_str, l_rev_0, l_rev_2, l_rev_7, l_rev_17, l_revs_0, l_revs_1, l_revC_0, eq_self, cx_call, rtruth_1, Option.map_some, Bool.not_false]
theorem string_a {L : List Nat} {P : Int} {R : List Nat} (h : At L P (34 :: 34 :: R)) (k : Nat) (H : Hp) :
    rF RP (k + 2) false 58 [.str L, .int P] H = some (.tup [.str [], .int (P + 2)], H) := by
  have hw : rex (cx (k + 1)) w_json_string_1 [(6, .str L), (7, .int (P + 1)), (129, .ref 0)] [.list []] = some (.next, [(6, .str L), (7, .int (P + 1)), (129, .ref 0)], [.list []]) := by
    refine rex_whl ?_
    rw [show W = 99999 + 1 from rfl, rwhile_end (tStr_false h.next k _ _ rfl rfl)]
  have s := fun H => sign_ok h k H
  simp only [List.take_succ_cons, List.take_zero] at s
  have hj : sJoin [.list []] [] (.ref 0) = some (.str []) := rfl
  refine rF_fn (d := d_json_string) rfl rfl rfl (v := .tup [.str [], .int (P + 2)]) (H' := [.list []]) ?_ rfl
  simp only [d_json_string, b_json_string, s, hw, hj, rrun, leq_0, leq_1, cmp_ne, eqV_str, binop_int, rstrM_join, rbindP_0, rbindP_1, l_rev_0, l_rev_2, l_rev_3, l_rev_7, l_rev_9, l_rev_10, l_rev_17, l_rev_18, l_revs_0, l_revs_1, l_revC_0, l_rex_1, l_rex_2, l_rex_5, l_rexs_0, l_rexs_1, rtgtA, rtgt, rt0, rt1, rlk_1, rup_0, rup_1, Nat.reduceBEq, ar0, cx_call, rtruth_1, List.nil_append, Option.map_some, List.length_nil, Bool.not_true]
  rw [Int.add_assoc]; rfl
theorem string_b {L : List Nat} {P : Int} {c : Nat} {R : List Nat} (c1 : (c == 34) = false) (c2 : (c == 92) = false) (c3 : decide (Int.ofNat c < 32) = false) (h : At L P (34 :: c :: 34 :: R)) (k : Nat) (H : Hp) :
    rF RP (k + 2) false 58 [.str L, .int P] H = some (.tup [.str [c], .int (P + 3)], H) := by
  have s := fun H => sign_ok h k H
  have s2 := fun H => sign_ok h.next k H
  simp only [List.take_succ_cons, List.take_zero] at s s2
  have b1 : rexs (cx (k + 1)) wb_json_string_0 [(6, .str L), (7, .int (P + 1)), (129, .ref 0)] [.list []] = some (.next, [(6, .str L), (7, .int (P + 1 + 1)), (129, .ref 0), (116, .str [c])], [.list [.str [c]]]) := by
    simp (disch := ((try simp only [List.length_append, List.length_cons, List.length_nil, List.length_map]); (first | lia | omega))) only [wb_json_string_0, s2, c2, c3, leq_1, leq_3, cmp_eq, cmp_ne, cmp_lt, eqV_str, rlistM_app, l_rev_0, l_rev_2, l_rev_6, l_rev_7, l_rev_16, l_rev_17, l_rev_18, l_revs_0, l_revs_1, l_revC_0, l_rex_0, l_rex_2, l_rex_3, l_rex_5, l_rexs_0, l_rexs_1, augK, intV, Option.bind_some, rtgtA, rtgt, rlk_1, rup_0, rup_1, Nat.reduceBEq, eq_self, rblt_ord, bOrd, cx_call, rtruth_1, one, List.nil_append, Option.map_some, List.getElem?_cons_zero, List.set_cons_zero, Bool.not_false]
  have hw : rex (cx (k + 1)) w_json_string_1 [(6, .str L), (7, .int (P + 1)), (129, .ref 0)] [.list []] = some (.next, [(6, .str L), (7, .int (P + 1 + 1)), (129, .ref 0), (116, .str [c])], [.list [.str [c]]]) := by
    refine rex_whl ?_
    rw [show W = 99998 + 1 + 1 from rfl, rwhile_step (tStr_true h.next c1 k _ _ rfl rfl) b1, rwhile_end (tStr_false h.next.next k _ _ rfl rfl)]
  have hj : sJoin [.list [.str [c]]] [] (.ref 0) = some (.str [c]) := rfl
  refine rF_fn (d := d_json_string) rfl rfl rfl (v := .tup [.str [c], .int (P + 3)]) (H' := [.list [.str [c]]]) ?_ rfl
  simp only [d_json_string, b_json_string, s, hw, hj, rrun, leq_0, leq_1, cmp_ne, eqV_str, binop_int, rstrM_join, rbindP_0, rbindP_1, l_rev_0, l_rev_2, l_rev_3, l_rev_7, l_rev_9, l_rev_10, l_rev_17, l_rev_18, l_revs_0, l_revs_1, l_revC_0, l_rex_1, l_rex_2, l_rex_5, l_rexs_0, l_rexs_1, rtgtA, rtgt, rt0, rt1, rlk_1, rup_0, rup_1, Nat.reduceBEq, ar0, cx_call, rtruth_1, List.nil_append, Option.map_some, List.length_nil, Bool.not_true]
  rw [Int.add_assoc, Int.add_assoc]; rfl
theorem gl101 (k : Nat) : (cx k).glb 101 = .dct [([34], .str [34]), ([92], .str [92]), ([47], .str [47]), ([98], .str [8]), ([102], .str [12]), ([110], .str [10]), ([114], .str [13]), ([116], .str [9])] := rfl
theorem string_c {L : List Nat} {P : Int} {R : List Nat} (h : At L P (34 :: 92 :: 110 :: 34 :: R)) (k : Nat) (H : Hp) :
    rF RP (k + 2) false 58 [.str L, .int P] H = some (.tup [.str [10], .int (P + 4)], H) := by
  have s := fun H => sign_ok h k H
  have s2 := fun H => sign_ok h.next k H
  have s3 := fun H => sign_ok h.next.next k H
  have g := h.next.next.get
  simp only [List.take_succ_cons, List.take_zero] at s s2 s3
  have d1 : dlk [110] [([34], .str [34]), ([92], .str [92]), ([47], .str [47]), ([98], .str [8]), ([102], .str [12]), ([110], .str [10]), ([114], .str [13]), ([116], .str [9])] = some (.str [10]) := rfl
  have d2 : ∀ H, sub H (.dct [([34], .str [34]), ([92], .str [92]), ([47], .str [47]), ([98], .str [8]), ([102], .str [12]), ([110], .str [10]), ([114], .str [13]), ([116], .str [9])]) (.str [110]) = some (.str [10]) := fun _ => rfl
  have c3 : decide (Int.ofNat 92 < 32) = false := rfl
  have b1 : rexs (cx (k + 1)) wb_json_string_0 [(6, .str L), (7, .int (P + 1)), (129, .ref 0)] [.list []] = some (.next, [(6, .str L), (7, .int (P + 1 + 2)), (129, .ref 0), (116, .str [92])], [.list [.str [10]]]) := by
    simp (disch := ((try simp only [List.length_append, List.length_cons, List.length_nil, List.length_map]); (first | lia | omega))) only [wb_json_string_0, s2, s3, g, c3, gl101, d1, d2, Option.isSome_some, leq_0, leq_1, leq_3, cmp_eq, cmp_ne, cmp_lt, cmp_in, eqV_str, inV_sd, binop_int, rlistM_app, l_rev_0, l_rev_1, l_rev_2, l_rev_3, l_rev_6, l_rev_7, l_rev_15, l_rev_16, l_rev_17, l_rev_18, l_revs_0, l_revs_1, l_revC_0, l_rex_0, l_rex_2, l_rex_3, l_rex_5, l_rexs_0, l_rexs_1, augK, intV, Option.bind_some, rtgtA, rtgt, rlk_1, rup_0, rup_1, Nat.reduceBEq, eq_self, ar0, rblt_ord, bOrd, cx_call, rtruth_1, one, List.nil_append, Option.map_some, List.getElem?_cons_zero, List.set_cons_zero, Bool.not_true]
  have h4 : At L (P + 1 + 2) (34 :: R) := by
    have := h.next.next.next
    rwa [show P + 1 + 1 + 1 = P + 1 + 2 by (first | lia | omega)] at this
  have hw : rex (cx (k + 1)) w_json_string_1 [(6, .str L), (7, .int (P + 1)), (129, .ref 0)] [.list []] = some (.next, [(6, .str L), (7, .int (P + 1 + 2)), (129, .ref 0), (116, .str [92])], [.list [.str [10]]]) := by
    refine rex_whl ?_
    rw [show W = 99998 + 1 + 1 from rfl, rwhile_step (tStr_true h.next rfl k _ _ rfl rfl) b1, rwhile_end (tStr_false h4 k _ _ rfl rfl)]
  have hj : sJoin [.list [.str [10]]] [] (.ref 0) = some (.str [10]) := rfl
  refine rF_fn (d := d_json_string) rfl rfl rfl (v := .tup [.str [10], .int (P + 4)]) (H' := [.list [.str [10]]]) ?_ rfl
  simp only [d_json_string, b_json_string, s, hw, hj, rrun, leq_0, leq_1, cmp_ne, eqV_str, binop_int, rstrM_join, rbindP_0, rbindP_1, l_rev_0, l_rev_2, l_rev_3, l_rev_7, l_rev_9, l_rev_10, l_rev_17, l_rev_18, l_revs_0, l_revs_1, l_revC_0, l_rex_1, l_rex_2, l_rex_5, l_rexs_0, l_rexs_1, rtgtA, rtgt, rt0, rt1, rlk_1, rup_0, rup_1, Nat.reduceBEq, ar0, cx_call, rtruth_1, List.nil_append, Option.map_some, List.length_nil, Bool.not_true]
  rw [Int.add_assoc, Int.add_assoc]; rfl
theorem stringF {L : List Nat} {P : Int} {R : List Nat} (n : Fin 3) (h : At L P (strText n ++ R)) (k : Nat) (H : Hp) :
    rF RP (k + 2) false 58 [.str L, .int P] H = some (.tup [.str (strOfF n), .int (P + (strText n).length)], H) := by
  have : n = 0 ∨ n = 1 ∨ n = 2 := by (first | lia | omega)
  rcases this with rfl | rfl | rfl
  · exact string_a h k H
  · exact string_b rfl rfl rfl h k H
  · exact string_c h k H
theorem stringK {L : List Nat} {P : Int} {R : List Nat} (n : Fin 3) (h : At L P (keyText n ++ R)) (k : Nat) (H : Hp) :
    rF RP (k + 2) false 58 [.str L, .int P] H = some (.tup [.str [keyOf n], .int (P + 3)], H) := by
  have : n = 0 ∨ n = 1 ∨ n = 2 := by (first | lia | omega)
  rcases this with rfl | rfl | rfl
  · exact string_b rfl rfl rfl h k H
  · exact string_b rfl rfl rfl h k H
  · exact string_b rfl rfl rfl h k H

/-- told leaves -/
noncomputable def told : T → Bool
  | .skip => false
  | .num n => decide (3 ≤ n.val)
  | _ => true
theorem gl102 (k : Nat) : iter ((cx k).glb 102) = some [.tup [.str [110, 117, 108, 108], .tup [.str [110, 117, 108, 108], .none]], .tup [.str [116, 114, 117, 101], .tup [.str [98, 111, 111, 108], .bool true]], .tup [.str [102, 97, 108, 115, 101], .tup [.str [98, 111, 111, 108], .bool false]]] := rfl
theorem words_no {L : List Nat} {P : Int} {c : Nat} {R : List Nat} (h : At L P (c :: R)) (c1 : (c == 110) = false) (c2 : (c == 116) = false) (c3 : (c == 102) = false) (k : Nat) :
    rex (cx k) f_json_plain_1 [(6, .str L), (7, .int P)] [] = some (.next, [(6, .str L), (7, .int P), (168, .str [102, 97, 108, 115, 101]), (142, .tup [.str [98, 111, 111, 108], .bool false])], []) := by
  have s4 := h.sli (Q := P + ((4 : Nat) : Int)) 4 rfl (by decide)
  have s5 := h.sli (Q := P + ((5 : Nat) : Int)) 5 rfl (by decide)
  refine rex_for rfl (gl102 k) ?_
  simp only [rforF_0, rforF_1, forB, fb_json_plain_0, s4, s5, c1, c2, c3, List.take_succ_cons, leq_1, cmp_eq, eqV_str, binop_int, l_rev_2, l_rev_3, l_rev_7, l_rev_14, l_rev_16, l_revs_0, l_revs_1, l_revC_0, l_revO_1, l_rex_5, l_rexs_0, l_rexs_1, rtgtA, rtgt, rt0, rt1, rlk_1, rup_0, rup_1, Nat.reduceBEq, eq_self, ar0, rblt_len, bLen_0, rtruth_1, Option.map_some, List.length_cons, List.length_nil, Nat.reduceAdd]
theorem plain_text {L : List Nat} {P : Int} {R gap ind : List Nat} (u : T) (hl : isLeaf u = true) (ht : told u = true) (hR : Dl R = true) (h : At L P (laidT gap ind u ++ R)) (k : Nat) (H : Hp) :
    rF RP (k + 6) false 59 [.str L, .int P] H = some (.tup [vT u, .int (P + (laidT gap ind u).length)], H) := by
  cases u with
  | skip => first | exact Mine.nos ht | exact Mine.ff0 ht | exact Mine.tf0 ht | exact Mine.sn0 ht | cases ht
  | arr _ => first | exact Mine.nos hl | exact Mine.ff0 hl | exact Mine.tf0 hl | exact Mine.sn0 hl | cases hl
  | obj _ => first | exact Mine.nos hl | exact Mine.ff0 hl | exact Mine.tf0 hl | exact Mine.sn0 hl | cases hl
  | tt =>
    have h : At L P (116 :: 114 :: 117 :: 101 :: R) := h
    have s4 := h.sli (Q := P + ((4 : Nat) : Int)) 4 rfl (by decide)
    have hw : rex (cx (k + 5)) f_json_plain_1 [(6, .str L), (7, .int P)] [] = some (.ret (.tup [vT .tt, .int (P + 4)]), [(6, .str L), (7, .int P), (168, .str [116, 114, 117, 101]), (142, vT .tt)], []) := by
      refine rex_for rfl (gl102 _) ?_
      simp only [rforF_1, forB, fb_json_plain_0, s4, vT_3, kBool, List.take_succ_cons, List.take_zero, leq_0, leq_1, cmp_eq, eqV_str, binop_int, l_rev_2, l_rev_3, l_rev_7, l_rev_9, l_rev_14, l_rev_16, l_revs_0, l_revs_1, l_revC_0, l_revO_1, l_rex_1, l_rex_5, l_rexs_0, l_rexs_1, rtgtA, rtgt, rt0, rt1, rlk_1, rup_0, rup_1, Nat.reduceBEq, ar0, rblt_len, bLen_0, rtruth_1, Option.map_some, List.length_cons, List.length_nil, Nat.reduceAdd]
      rfl
    refine rF_fn (d := d_json_plain) rfl rfl rfl (v := .tup [vT .tt, .int (P + 4)]) (H' := []) ?_ rfl
    simp only [d_json_plain, b_json_plain, hw, rrun, rbindP_0, rbindP_1, l_rexs_1, eq_self]
  | nul =>
    have h : At L P (110 :: 117 :: 108 :: 108 :: R) := h
    have s4 := h.sli (Q := P + ((4 : Nat) : Int)) 4 rfl (by decide)
    have hw : rex (cx (k + 5)) f_json_plain_1 [(6, .str L), (7, .int P)] [] = some (.ret (.tup [vT .nul, .int (P + 4)]), [(6, .str L), (7, .int P), (168, .str [110, 117, 108, 108]), (142, vT .nul)], []) := by
      refine rex_for rfl (gl102 _) ?_
      simp only [rforF_1, forB, fb_json_plain_0, s4, vT_4, kNull, List.take_succ_cons, List.take_zero, leq_0, leq_1, cmp_eq, eqV_str, binop_int, l_rev_2, l_rev_3, l_rev_7, l_rev_9, l_rev_14, l_rev_16, l_revs_0, l_revs_1, l_revC_0, l_revO_1, l_rex_1, l_rex_5, l_rexs_1, rtgtA, rtgt, rt0, rt1, rlk_1, rup_0, rup_1, Nat.reduceBEq, ar0, rblt_len, bLen_0, rtruth_1, Option.map_some, List.length_cons, List.length_nil, Nat.reduceAdd]
      rfl
    refine rF_fn (d := d_json_plain) rfl rfl rfl (v := .tup [vT .nul, .int (P + 4)]) (H' := []) ?_ rfl
    simp only [d_json_plain, b_json_plain, hw, rrun, rbindP_0, rbindP_1, l_rexs_1, eq_self]
  | str n =>
    have h : At L P (strText n ++ R) := h
    have hn : ∃ r, strText n = 34 :: r := by
      have : n = 0 ∨ n = 1 ∨ n = 2 := by (first | lia | omega)
      rcases this with rfl | rfl | rfl <;> exact ⟨_, rfl⟩
    obtain ⟨r, hr⟩ := hn
    have h' : At L P (34 :: (r ++ R)) := by rw [hr] at h; exact h
    have hw := words_no h' rfl rfl rfl (k + 5)
    have s := fun H => sign_ok h' (k + 4) H
    have q := fun H => stringF n h (k + 3) H
    simp only [List.take_succ_cons, List.take_zero] at s
    refine rF_fn (d := d_json_plain) rfl rfl rfl (v := .tup [vT (.str n), .int (P + (strText n).length)]) (H' := []) ?_ rfl
    simp only [d_json_plain, b_json_plain, hw, s, q, vT_2, kStr, rrun, leq_0, leq_1, cmp_eq, eqV_str, rbindP_0, rbindP_1, l_rev_0, l_rev_2, l_rev_7, l_rev_9, l_rev_17, l_revs_0, l_revs_1, l_revC_0, l_rex_1, l_rex_2, l_rex_5, l_rexs_1, rtgtA, rtgt, rt0, rt1, rlk_1, rup_0, rup_1, Nat.reduceBEq, eq_self, cx_call, rtruth_1]
  | num n =>
    have hn : n = 3 ∨ n = 4 ∨ n = 5 := by
      have := of_decide_eq_true (show decide (3 ≤ n.val) = true from ht)
      (first | lia | omega)
    have h : At L P (numText n ++ R) := h
    have q := fun H => number_ok n hn hR h k H
    refine rF_fn (d := d_json_plain) rfl rfl rfl (v := .tup [vT (.num n), .int (P + (numText n).length)]) (H' := []) ?_ rfl
    rcases hn with rfl | rfl | rfl
    · have h' : At L P (55 :: R) := h
      have hw := words_no h' rfl rfl rfl (k + 5)
      have s := fun H => sign_ok h' (k + 4) H
      have g := h'.get
      simp only [List.take_succ_cons, List.take_zero] at s
      simp only [d_json_plain, b_json_plain, hw, s, g, q, vT_1, kNum, memN_0, memN_1, show (cx (k + 5)).glb 99 = .str [48, 49, 50, 51, 52, 53, 54, 55, 56, 57] from rfl, rrun, leq_1, leq_3, cmp_eq, cmp_ne, cmp_nin, eqV_str, inV_ss, rbindP_0, rbindP_1, l_rev_0, l_rev_1, l_rev_2, l_rev_6, l_rev_7, l_rev_9, l_rev_15, l_rev_17, l_revs_0, l_revs_1, l_revC_0, l_rex_1, l_rex_2, l_rex_5, l_rexs_0, l_rexs_1, rtgtA, rtgt, rt0, rt1, rlk_1, rup_0, rup_1, Nat.reduceBEq, eq_self, cx_call, rtruth_1, one, Option.map_some, Bool.not_true, Bool.not_false]
    · have h' : At L P (45 :: 51 :: R) := h
      have hw := words_no h' rfl rfl rfl (k + 5)
      have s := fun H => sign_ok h' (k + 4) H
      simp only [List.take_succ_cons, List.take_zero] at s
      simp only [d_json_plain, b_json_plain, hw, s, q, vT_1, kNum, rrun, leq_0, leq_1, cmp_eq, cmp_ne, eqV_str, rbindP_0, rbindP_1, l_rev_0, l_rev_2, l_rev_6, l_rev_7, l_rev_9, l_rev_17, l_revs_0, l_revs_1, l_revC_0, l_rex_1, l_rex_2, l_rex_5, l_rexs_0, l_rexs_1, rtgtA, rtgt, rt0, rt1, rlk_1, rup_0, rup_1, Nat.reduceBEq, eq_self, cx_call, rtruth_1, Option.map_some, Bool.not_true]
    · have h' : At L P (48 :: R) := h
      have hw := words_no h' rfl rfl rfl (k + 5)
      have s := fun H => sign_ok h' (k + 4) H
      have g := h'.get
      simp only [List.take_succ_cons, List.take_zero] at s
      simp only [d_json_plain, b_json_plain, hw, s, g, q, vT_1, kNum, memN_0, memN_1, show (cx (k + 5)).glb 99 = .str [48, 49, 50, 51, 52, 53, 54, 55, 56, 57] from rfl, rrun, leq_1, leq_3, cmp_eq, cmp_ne, cmp_nin, eqV_str, inV_ss, rbindP_0, rbindP_1, l_rev_0, l_rev_1, l_rev_2, l_rev_6, l_rev_7, l_rev_9, l_rev_15, l_rev_17, l_revs_0, l_revs_1, l_revC_0, l_rex_1, l_rex_2, l_rex_5, l_rexs_0, l_rexs_1, rtgtA, rtgt, rt0, rt1, rlk_1, rup_0, rup_1, Nat.reduceBEq, eq_self, cx_call, rtruth_1, one, Option.map_some, Bool.not_true, Bool.not_false]
open PySem
theorem attr_ne : [(7, 6), (8, 6), (8, 7), (9, 6), (9, 7), (9, 8)].all (fun p : Nat × Nat => !seq (nmR p.1) (nmR p.2)) = true := by decide +kernel
theorem attr_ne' {a b : Nat} (h : (a, b) ∈ [(7, 6), (8, 6), (8, 7), (9, 6), (9, 7), (9, 8)]) : seq (nmR a) (nmR b) = false := by
  have := List.all_eq_true.mp attr_ne _ h
  simpa using this
theorem lk6 (a b c d : V) : lk (nmR 6) [(nmR 6, a), (nmR 7, b), (nmR 8, c), (nmR 9, d)] = some a := by
  simp only [lk_1, seq_self]
theorem lk7 (a b c d : V) : lk (nmR 7) [(nmR 6, a), (nmR 7, b), (nmR 8, c), (nmR 9, d)] = some b := by
  simp only [lk_1, seq_self, attr_ne' (a := 7) (b := 6) (by simp)]
theorem lk8 (a b c d : V) : lk (nmR 8) [(nmR 6, a), (nmR 7, b), (nmR 8, c), (nmR 9, d)] = some c := by
  simp only [lk_1, seq_self, attr_ne' (a := 8) (b := 6) (by simp), attr_ne' (a := 8) (b := 7) (by simp)]
theorem lk9 (a b c d : V) : lk (nmR 9) [(nmR 6, a), (nmR 7, b), (nmR 8, c), (nmR 9, d)] = some d := by
  simp only [lk_1, seq_self, attr_ne' (a := 9) (b := 6) (by simp), attr_ne' (a := 9) (b := 7) (by simp), attr_ne' (a := 9) (b := 8) (by simp)]
theorem up7 (a b c d v : V) : up (nmR 7) v [(nmR 6, a), (nmR 7, b), (nmR 8, c), (nmR 9, d)] = [(nmR 6, a), (nmR 7, v), (nmR 8, c), (nmR 9, d)] := by
  simp only [up, seq_self, attr_ne' (a := 7) (b := 6) (by simp)]
theorem met_ne : [73, 74, 75, 76, 77, 78].all (fun m => [6, 7, 8, 9].all (fun a => !seq (nmR m) (nmR a))) = true := by decide +kernel
theorem lkM {m : Nat} (h : m ∈ [73, 74, 75, 76, 77, 78]) (a b c d : V) : lk (nmR m) [(nmR 6, a), (nmR 7, b), (nmR 8, c), (nmR 9, d)] = none := by
  have h1 := List.all_eq_true.mp met_ne _ h
  have h2 : ∀ x ∈ [6, 7, 8, 9], seq (nmR m) (nmR x) = false := fun x hx => by simpa using List.all_eq_true.mp h1 x hx
  simp only [lk_0, lk_1, h2 6 (by simp), h2 7 (by simp), h2 8 (by simp), h2 9 (by simp)]
theorem lk73 (a b c d : V) : lk (nmR 73) [(nmR 6, a), (nmR 7, b), (nmR 8, c), (nmR 9, d)] = none := lkM (by simp) a b c d
theorem lk74 (a b c d : V) : lk (nmR 74) [(nmR 6, a), (nmR 7, b), (nmR 8, c), (nmR 9, d)] = none := lkM (by simp) a b c d
theorem lk75 (a b c d : V) : lk (nmR 75) [(nmR 6, a), (nmR 7, b), (nmR 8, c), (nmR 9, d)] = none := lkM (by simp) a b c d
theorem lk76 (a b c d : V) : lk (nmR 76) [(nmR 6, a), (nmR 7, b), (nmR 8, c), (nmR 9, d)] = none := lkM (by simp) a b c d
theorem lk77 (a b c d : V) : lk (nmR 77) [(nmR 6, a), (nmR 7, b), (nmR 8, c), (nmR 9, d)] = none := lkM (by simp) a b c d
theorem lk78 (a b c d : V) : lk (nmR 78) [(nmR 6, a), (nmR 7, b), (nmR 8, c), (nmR 9, d)] = none := lkM (by simp) a b c d
theorem ble4 : Nat.ble 100 4 = false := rfl

noncomputable def rd (L : List Nat) (P : Int) : AO := .inst [(nmR 6, .str L), (nmR 7, .int P), (nmR 8, .ref 1), (nmR 9, .ref 2)]
noncomputable def rH (L : List Nat) (P : Int) (Wt Kk : List V) (R : Hp) : Hp := rd L P :: .list Wt :: .list Kk :: R

theorem m_skip {L B R : List Nat} {P : Int} (hb : blanks B = true) (hr : noBl R = true) (h : At L P (B ++ R)) (hB : B.length ≤ 1000) (k : Nat) (Wt Kk : List V) (RR : Hp) :
    rF RP (k + 2) true 73 [.obj 0] (rH L P Wt Kk RR) = some (.str (R.take 1), rH L (P + B.length) Wt Kk RR) := by
  have a := fun H => blanks_ok hb hr h hB k H
  have s := fun H => sign_ok h.skip k H
  refine rF_m (d := d_m_skip) rfl ?_
  simp only [d_m_skip, b_m_skip, rH, rd, lk6, lk7, up7, ble4, cond_false, a, s, rrun, rbindP_0, rbindP_1, l_rev_2, l_rev_13, l_rev_17, l_revs_0, l_revs_1, l_rex_1, l_rex_2, l_rexs_1, attT, objV_0, insts, Option.bind_some, rtgtA, rtgt, rlk_1, Nat.reduceBEq, eq_self, cx_call, cx_nm, List.length_cons, List.length_nil, List.getElem?_cons_zero, List.set_cons_zero, Nat.reduceAdd]
theorem m_skip0 {L R : List Nat} {P : Int} (hr : noBl R = true) (h : At L P R) (k : Nat) (Wt Kk : List V) (RR : Hp) :
    rF RP (k + 2) true 73 [.obj 0] (rH L P Wt Kk RR) = some (.str (R.take 1), rH L P Wt Kk RR) := by
  have := m_skip (B := []) rfl hr h (by decide) k Wt Kk RR
  simpa using this
theorem m_key {L B R : List Nat} {P : Int} (n : Fin 3) (hb : blanks B = true) (h : At L P (B ++ (keyText n ++ 58 :: R))) (hB : B.length ≤ 1000) (k : Nat) (Wt Kk : List V) (hK : Kk.length ≤ 1000) (RR : Hp) :
    rF RP (k + 3) true 74 [.obj 0] (rH L P Wt Kk RR) = some (.none, rH L (P + B.length + 3 + 1) Wt (Kk ++ [.str [keyOf n]]) RR) := by
  have a := m_skip hb (R := keyText n ++ 58 :: R) rfl h hB k Wt Kk RR
  have h2 : At L (P + B.length) (keyText n ++ 58 :: R) := h.skip
  have s := fun H => stringK n h2 k H
  have h3 : At L (P + B.length + 3) (58 :: R) := by
    have := h2.skip
    rwa [show ((keyText n).length : Int) = 3 from rfl] at this
  have b := m_skip0 rfl h3 k Wt Kk RR
  simp only [List.take_succ_cons, List.take_zero] at b
  refine rF_m (d := d_m_take_key) rfl ?_
  simp only [rH, rd] at a b
  simp (disch := ((try simp only [List.length_append, List.length_cons, List.length_nil, List.length_map]); (first | lia | omega))) only [d_m_take_key, b_m_take_key, rH, rd, lk6, lk7, lk9, lk73, up7, ble4, cond_false, a, s, b, rrun, leq_0, leq_1, cmp_ne, eqV_str, rlistM_app, rbindP_0, rbindP_1, l_rev_0, l_rev_2, l_rev_7, l_rev_13, l_rev_17, l_rev_18, l_revs_0, l_revs_1, l_revC_0, l_rex_0, l_rex_2, l_rex_4, l_rex_5, l_rexs_0, l_rexs_1, augAK, attT, intV, objV_0, insts, Option.bind_some, rtgtA, rtgt, rt0, rt1, rlk_1, rup_0, rup_1, Nat.reduceBEq, eq_self, cx_call, cx_nm, rtruth_1, Option.map_some, List.length_cons, List.length_nil, List.getElem?_cons_succ, List.getElem?_cons_zero, List.set_cons_zero, List.set_cons_succ, Nat.reduceAdd, Bool.not_true]
theorem gl103 (k : Nat) : (cx k).glb 103 = .dct [([97, 114, 114, 97, 121], .str [93]), ([111, 98, 106, 101, 99, 116], .str [125])] := rfl
theorem closA (H : Hp) : sub H (.dct [([97, 114, 114, 97, 121], .str [93]), ([111, 98, 106, 101, 99, 116], .str [125])]) (.str [97, 114, 114, 97, 121]) = some (.str [93]) := rfl
theorem closO (H : Hp) : sub H (.dct [([97, 114, 114, 97, 121], .str [93]), ([111, 98, 106, 101, 99, 116], .str [125])]) (.str [111, 98, 106, 101, 99, 116]) = some (.str [125]) := rfl
theorem openA0 {L B R : List Nat} {P : Int} (hb : blanks B = true) (h : At L P (91 :: (B ++ 93 :: R))) (hB : B.length ≤ 1000) (k : Nat) (Wt Kk : List V) (RR : Hp) :
    rF RP (k + 4) true 75 [.obj 0, .str kArr] (rH L P Wt Kk RR) = some (.tup [.str kArr, .ref (RR.length + 1 + 1 + 1)], rH L (P + 1 + B.length + 1) Wt Kk (RR ++ [.list []])) := by
  have a := m_skip hb (R := 93 :: R) rfl h.next hB (k + 1) Wt Kk RR
  simp only [List.take_succ_cons, List.take_zero] at a
  refine rF_m (d := d_m_opened) rfl ?_
  simp only [rH, rd] at a
  simp (disch := ((try simp only [List.length_append, List.length_cons, List.length_nil, List.length_map]); (first | lia | omega))) only [d_m_opened, b_m_opened, rH, rd, kArr, lk7, lk73, up7, ble4, cond_false, a, gl103, closA, rrun, leq_0, leq_1, cmp_eq, eqV_str, rbindP_0, rbindP_1, l_rev_0, l_rev_1, l_rev_2, l_rev_7, l_rev_9, l_rev_10, l_rev_15, l_rev_18, l_revs_0, l_revs_1, l_revC_0, l_rex_1, l_rex_4, l_rex_5, l_rexs_1, augAK, intV, objV_0, insts, Option.bind_some, rlk_1, Nat.reduceBEq, eq_self, cx_call, cx_nm, rtruth_1, List.cons_append, List.length_cons, List.length_nil, List.getElem?_cons_zero, List.set_cons_zero, Nat.reduceAdd]
theorem openA1 {L B R : List Nat} {P : Int} {c : Nat} (hb : blanks B = true) (hc : noBl (c :: R) = true) (c1 : (c == 93) = false) (h : At L P (91 :: (B ++ c :: R))) (hB : B.length ≤ 1000) (k : Nat) (Wt Kk : List V) (hW : Wt.length ≤ 1000) (RR : Hp) :
    rF RP (k + 4) true 75 [.obj 0, .str kArr] (rH L P Wt Kk RR) = some (.none, rH L (P + 1 + B.length) (Wt ++ [.tup [.str kArr, .ref (RR.length + 1 + 1 + 1)]]) Kk (RR ++ [.list []])) := by
  have a := m_skip hb (R := c :: R) hc h.next hB (k + 1) Wt Kk RR
  simp only [List.take_succ_cons, List.take_zero] at a
  refine rF_m (d := d_m_opened) rfl ?_
  simp only [rH, rd] at a
  simp (disch := ((try simp only [List.length_append, List.length_cons, List.length_nil, List.length_map]); (first | lia | omega))) only [d_m_opened, b_m_opened, rH, rd, kArr, lk7, lk8, lk73, up7, ble4, cond_false, a, c1, gl103, closA, rrun, leq_1, cmp_eq, eqV_str, rlistM_app, rbindP_0, rbindP_1, l_rev_0, l_rev_1, l_rev_2, l_rev_7, l_rev_9, l_rev_10, l_rev_13, l_rev_15, l_rev_18, l_revs_0, l_revs_1, l_revC_0, l_rex_0, l_rex_1, l_rex_4, l_rex_5, l_rexs_0, l_rexs_1, augAK, intV, objV_0, insts, Option.bind_some, rlk_1, Nat.reduceBEq, eq_self, cx_call, cx_nm, rtruth_1, List.cons_append, List.length_cons, List.length_nil, List.getElem?_cons_succ, List.getElem?_cons_zero, List.set_cons_zero, List.set_cons_succ, Nat.reduceAdd]
theorem openO0 {L B R : List Nat} {P : Int} (hb : blanks B = true) (h : At L P (123 :: (B ++ 125 :: R))) (hB : B.length ≤ 1000) (k : Nat) (Wt Kk : List V) (RR : Hp) :
    rF RP (k + 4) true 75 [.obj 0, .str kObj] (rH L P Wt Kk RR) = some (.tup [.str kObj, .ref (RR.length + 1 + 1 + 1)], rH L (P + 1 + B.length + 1) Wt Kk (RR ++ [.list []])) := by
  have a := m_skip hb (R := 125 :: R) rfl h.next hB (k + 1) Wt Kk RR
  simp only [List.take_succ_cons, List.take_zero] at a
  refine rF_m (d := d_m_opened) rfl ?_
  simp only [rH, rd] at a
  simp (disch := ((try simp only [List.length_append, List.length_cons, List.length_nil, List.length_map]); (first | lia | omega))) only [d_m_opened, b_m_opened, rH, rd, kObj, lk7, lk73, up7, ble4, cond_false, a, gl103, closO, rrun, leq_0, leq_1, cmp_eq, eqV_str, rbindP_0, rbindP_1, l_rev_0, l_rev_1, l_rev_2, l_rev_7, l_rev_9, l_rev_10, l_rev_15, l_rev_18, l_revs_0, l_revs_1, l_revC_0, l_rex_1, l_rex_4, l_rex_5, l_rexs_1, augAK, intV, objV_0, insts, Option.bind_some, rlk_1, Nat.reduceBEq, eq_self, cx_call, cx_nm, rtruth_1, List.cons_append, List.length_cons, List.length_nil, List.getElem?_cons_zero, List.set_cons_zero, Nat.reduceAdd]
theorem openO1 {L B R : List Nat} {P : Int} (n : Fin 3) (hb : blanks B = true) (h : At L P (123 :: (B ++ (keyText n ++ 58 :: R)))) (hB : B.length ≤ 1000) (k : Nat) (Wt Kk : List V) (hW : Wt.length ≤ 1000) (hK : Kk.length ≤ 1000) (RR : Hp) :
    rF RP (k + 4) true 75 [.obj 0, .str kObj] (rH L P Wt Kk RR) = some (.none, rH L (P + 1 + B.length + 3 + 1) (Wt ++ [.tup [.str kObj, .ref (RR.length + 1 + 1 + 1)]]) (Kk ++ [.str [keyOf n]]) (RR ++ [.list []])) := by
  have a := m_skip hb (R := keyText n ++ 58 :: R) rfl h.next hB (k + 1) Wt Kk RR
  have b := m_key n (B := []) rfl h.next.skip (by decide) k (Wt ++ [.tup [.str kObj, .ref (RR.length + 1 + 1 + 1)]]) Kk hK (RR ++ [.list []])
  have ht : (keyText n ++ 58 :: R).take 1 = [34] := rfl
  rw [ht] at a
  simp only [List.length_nil, Int.natCast_zero, Int.add_zero] at b
  refine rF_m (d := d_m_opened) rfl ?_
  simp only [rH, rd, kObj] at a b
  simp (disch := ((try simp only [List.length_append, List.length_cons, List.length_nil, List.length_map]); (first | lia | omega))) only [d_m_opened, b_m_opened, rH, rd, kObj, lk7, lk8, lk73, lk74, up7, ble4, cond_false, a, b, gl103, closO, rrun, leq_0, leq_1, cmp_eq, eqV_str, rlistM_app, rbindP_0, rbindP_1, l_rev_0, l_rev_1, l_rev_2, l_rev_7, l_rev_9, l_rev_10, l_rev_13, l_rev_15, l_rev_18, l_revs_0, l_revs_1, l_revC_0, l_rex_0, l_rex_1, l_rex_4, l_rex_5, l_rexs_0, l_rexs_1, augAK, intV, objV_0, insts, Option.bind_some, rlk_1, Nat.reduceBEq, eq_self, cx_call, cx_nm, rtruth_1, List.cons_append, List.length_cons, List.length_nil, List.getElem?_cons_succ, List.getElem?_cons_zero, List.set_cons_zero, List.set_cons_succ, Nat.reduceAdd]
open PySem
theorem sub_last (a : AO) (vs : List V) (x : V) (t : Hp) : sub (a :: .list (vs ++ [x]) :: t) (.ref 1) (.int (-1)) = some x := by
  rw [sub_refL (vs := vs ++ [x]) rfl]
  exact List.getLast?_concat
theorem rlistM_pop (H : Hp) (i : Nat) (vs : List V) (x : V) : rlistM 5 H i (vs ++ [x]) [] = some (x, H.set i (.list vs)) := by
  unfold rlistM
  dsimp only
  rw [List.getLast?_concat]
  dsimp only
  rw [List.dropLast_concat]
  rfl
abbrev tSet : RE := .cmp (.blt 0 (.cons (.att (.loc 183) 8) .nil)) (.one .Gt (.val (.int 0)))
theorem tSet_true {L : List Nat} {P : Int} (k : Nat) (ρ : Env) (Wt : List V) (x : V) (Kk : List V) (RR : Hp) (h1 : rlk 183 ρ = some (.obj 0)) : tstB (cx k) tSet ρ (rH L P (Wt ++ [x]) Kk RR) = some (true, rH L P (Wt ++ [x]) Kk RR) := by
  have a : decide ((0 : Int) < (((Wt ++ [x]).length : Nat) : Int)) = true := decide_eq_true (by simp only [List.length_append, List.length_cons, List.length_nil]; (first | lia | omega))
  simp only [tstB, h1, rH, rd, lk8, a, cmp_gt, l_rev_0, l_rev_2, l_rev_7, l_rev_13, l_rev_16, l_revs_0, l_revs_1, l_revC_0, eq_self, rblt_len, bLen_3, cx_nm, rtruth_1, List.getElem?_cons_succ, List.getElem?_cons_zero]
theorem tSet_false {L : List Nat} {P : Int} (k : Nat) (ρ : Env) (Kk : List V) (RR : Hp) (h1 : rlk 183 ρ = some (.obj 0)) : tstB (cx k) tSet ρ (rH L P [] Kk RR) = some (false, rH L P [] Kk RR) := by
  have a : decide ((0 : Int) < ((0 : Nat) : Int)) = false := rfl
  simp only [tstB, h1, rH, rd, lk8, a, cmp_gt, l_rev_0, l_rev_2, l_rev_7, l_rev_13, l_rev_16, l_revs_0, l_revs_1, l_revC_0, eq_self, rblt_len, bLen_3, cx_nm, rtruth_1, List.length_nil, List.getElem?_cons_succ, List.getElem?_cons_zero]
noncomputable def frA (m : Nat) : V := .tup [.str kArr, .ref (m + 1 + 1 + 1)]
noncomputable def frO (m : Nat) : V := .tup [.str kObj, .ref (m + 1 + 1 + 1)]
theorem set_A1 {L R : List Nat} {P : Int} (h : At L P (44 :: R)) (k m : Nat) (ρ : Env) (v : V) (xs Wt Kk : List V) (RR : Hp) (hm : RR[m]? = some (.list xs)) (hx : xs.length ≤ 1000) (h1 : rlk 183 ρ = some (.obj 0)) (h2 : rlk 142 ρ = some v) :
    rexs (cx (k + 3)) wb_m_settled_0 ρ (rH L P (Wt ++ [frA m]) Kk RR) = some (.ret .none, rup 116 (.str [44]) (rup 151 (.ref (m + 1 + 1 + 1)) (rup 143 (.str kArr) ρ)), rH L (P + 1) (Wt ++ [frA m]) Kk (RR.set m (.list (xs ++ [v])))) := by
  have a := m_skip0 rfl h (k + 1) (Wt ++ [frA m]) Kk (RR.set m (.list (xs ++ [v])))
  simp only [List.take_succ_cons, List.take_zero, rH, rd, frA, kArr] at a
  simp (disch := ((try simp only [List.length_append, List.length_cons, List.length_nil, List.length_map]); (first | lia | omega))) only [wb_m_settled_0, rH, rd, frA, kArr, lk7, lk8, lk73, up7, ble4, cond_false, h1, h2, hm, a, sub_last, leq_0, leq_1, cmp_eq, eqV_str, rlistM_app, rlk_rup, reduceIte, l_rev_0, l_rev_2, l_rev_4, l_rev_7, l_rev_8, l_rev_13, l_rev_15, l_rev_18, l_revs_0, l_revs_1, l_revC_0, l_rex_0, l_rex_1, l_rex_2, l_rex_4, l_rex_5, l_rexs_0, l_rexs_1, augAK, intV, objV_0, insts, Option.bind_some, rtgtA, rtgt, rt0, rt1, Nat.reduceBEq, eq_self, unop, cx_call, cx_nm, rtruth_1, Int.reduceNeg, List.length_cons, List.length_nil, List.getElem?_cons_succ, List.getElem?_cons_zero, List.set_cons_zero, List.set_cons_succ, Nat.reduceEqDiff, Nat.reduceAdd]
theorem set_A2 {L B R : List Nat} {P : Int} (hb : blanks B = true) (hB : B.length ≤ 1000) (h : At L P (B ++ 93 :: R)) (k m : Nat) (ρ : Env) (v : V) (xs Wt Kk : List V) (RR : Hp) (hm : RR[m]? = some (.list xs)) (hx : xs.length ≤ 1000) (h1 : rlk 183 ρ = some (.obj 0)) (h2 : rlk 142 ρ = some v) :
    rexs (cx (k + 3)) wb_m_settled_0 ρ (rH L P (Wt ++ [frA m]) Kk RR) = some (.next, rup 142 (frA m) (rup 116 (.str [93]) (rup 151 (.ref (m + 1 + 1 + 1)) (rup 143 (.str kArr) ρ))), rH L (P + B.length + 1) Wt Kk (RR.set m (.list (xs ++ [v])))) := by
  have a := m_skip hb (R := 93 :: R) rfl h hB (k + 1) (Wt ++ [frA m]) Kk (RR.set m (.list (xs ++ [v])))
  simp only [List.take_succ_cons, List.take_zero, rH, rd, frA, kArr] at a
  simp (disch := ((try simp only [List.length_append, List.length_cons, List.length_nil, List.length_map]); (first | lia | omega))) only [wb_m_settled_0, rH, rd, frA, kArr, lk7, lk8, lk73, up7, ble4, cond_false, h1, h2, hm, a, sub_last, rlistM_pop, gl103, closA, leq_0, leq_1, cmp_eq, cmp_ne, eqV_str, rlistM_app, rlk_rup, reduceIte, l_rev_0, l_rev_1, l_rev_2, l_rev_4, l_rev_7, l_rev_8, l_rev_13, l_rev_15, l_rev_18, l_revs_0, l_revs_1, l_revC_0, l_rex_0, l_rex_2, l_rex_4, l_rex_5, l_rexs_0, l_rexs_1, augAK, intV, objV_0, insts, Option.bind_some, rtgtA, rtgt, rt0, rt1, Nat.reduceBEq, eq_self, unop, cx_call, cx_nm, rtruth_1, Int.reduceNeg, Option.map_some, List.length_cons, List.length_nil, List.getElem?_cons_succ, List.getElem?_cons_zero, List.set_cons_zero, List.set_cons_succ, Nat.reduceEqDiff, Nat.reduceAdd, Bool.not_true]
theorem set_O1 {L B R : List Nat} {P : Int} (n : Fin 3) (hb : blanks B = true) (hB : B.length ≤ 1000) (h : At L P (44 :: (B ++ (keyText n ++ 58 :: R)))) (k m : Nat) (ρ : Env) (v kv : V) (xs Wt Kk : List V) (hK : Kk.length ≤ 1000) (RR : Hp) (hm : RR[m]? = some (.list xs)) (hx : xs.length ≤ 1000) (h1 : rlk 183 ρ = some (.obj 0)) (h2 : rlk 142 ρ = some v) :
    rexs (cx (k + 3)) wb_m_settled_0 ρ (rH L P (Wt ++ [frO m]) (Kk ++ [kv]) RR) = some (.ret .none, rup 116 (.str [44]) (rup 151 (.ref (m + 1 + 1 + 1)) (rup 143 (.str kObj) ρ)), rH L (P + 1 + B.length + 3 + 1) (Wt ++ [frO m]) (Kk ++ [.str [keyOf n]]) (RR.set m (.list (xs ++ [.tup [kv, v]])))) := by
  have a := m_skip0 rfl h (k + 1) (Wt ++ [frO m]) Kk (RR.set m (.list (xs ++ [.tup [kv, v]])))
  have b := m_key n hb h.next hB k (Wt ++ [frO m]) Kk hK (RR.set m (.list (xs ++ [.tup [kv, v]])))
  simp only [List.take_succ_cons, List.take_zero, rH, rd, frO, kObj] at a b
  simp (disch := ((try simp only [List.length_append, List.length_cons, List.length_nil, List.length_map]); (first | lia | omega))) only [wb_m_settled_0, rH, rd, frO, kObj, lk7, lk8, lk9, lk73, lk74, up7, ble4, cond_false, h1, h2, hm, a, b, sub_last, rlistM_pop, leq_0, leq_1, cmp_eq, eqV_str, rlistM_app, rlk_rup, reduceIte, l_rev_0, l_rev_2, l_rev_4, l_rev_7, l_rev_8, l_rev_9, l_rev_13, l_rev_15, l_rev_18, l_revs_0, l_revs_1, l_revC_0, l_rex_0, l_rex_1, l_rex_2, l_rex_4, l_rex_5, l_rexs_0, l_rexs_1, augAK, intV, objV_0, insts, Option.bind_some, rtgtA, rtgt, rt0, rt1, Nat.reduceBEq, eq_self, unop, cx_call, cx_nm, rtruth_1, Int.reduceNeg, List.length_cons, List.length_nil, List.getElem?_cons_succ, List.getElem?_cons_zero, List.set_cons_zero, List.set_cons_succ, Nat.reduceEqDiff, Nat.reduceAdd]
theorem set_O2 {L B R : List Nat} {P : Int} (hb : blanks B = true) (hB : B.length ≤ 1000) (h : At L P (B ++ 125 :: R)) (k m : Nat) (ρ : Env) (v kv : V) (xs Wt Kk : List V) (RR : Hp) (hm : RR[m]? = some (.list xs)) (hx : xs.length ≤ 1000) (h1 : rlk 183 ρ = some (.obj 0)) (h2 : rlk 142 ρ = some v) :
    rexs (cx (k + 3)) wb_m_settled_0 ρ (rH L P (Wt ++ [frO m]) (Kk ++ [kv]) RR) = some (.next, rup 142 (frO m) (rup 116 (.str [125]) (rup 151 (.ref (m + 1 + 1 + 1)) (rup 143 (.str kObj) ρ))), rH L (P + B.length + 1) Wt Kk (RR.set m (.list (xs ++ [.tup [kv, v]])))) := by
  have a := m_skip hb (R := 125 :: R) rfl h hB (k + 1) (Wt ++ [frO m]) Kk (RR.set m (.list (xs ++ [.tup [kv, v]])))
  simp only [List.take_succ_cons, List.take_zero, rH, rd, frO, kObj] at a
  simp (disch := ((try simp only [List.length_append, List.length_cons, List.length_nil, List.length_map]); (first | lia | omega))) only [wb_m_settled_0, rH, rd, frO, kObj, lk7, lk8, lk9, lk73, up7, ble4, cond_false, h1, h2, hm, a, sub_last, rlistM_pop, gl103, closO, leq_0, leq_1, cmp_eq, cmp_ne, eqV_str, rlistM_app, rlk_rup, reduceIte, l_rev_0, l_rev_1, l_rev_2, l_rev_4, l_rev_7, l_rev_8, l_rev_9, l_rev_13, l_rev_15, l_rev_18, l_revs_0, l_revs_1, l_revC_0, l_rex_0, l_rex_2, l_rex_4, l_rex_5, l_rexs_0, l_rexs_1, augAK, intV, objV_0, insts, Option.bind_some, rtgtA, rtgt, rt0, rt1, Nat.reduceBEq, eq_self, unop, cx_call, cx_nm, rtruth_1, Int.reduceNeg, Option.map_some, List.length_cons, List.length_nil, List.getElem?_cons_succ, List.getElem?_cons_zero, List.set_cons_zero, List.set_cons_succ, Nat.reduceEqDiff, Nat.reduceAdd, Bool.not_true]
/-- settled(v) at this heap gives x -/
noncomputable def Setl (K c : Nat) (v : V) (H : Hp) (x : V) (H2 : Hp) : Prop := ∀ (ρ : Env) (w : Nat), rlk 183 ρ = some (.obj 0) → rlk 142 ρ = some v →
  ∃ fl ρ', rwhileF (tstB (cx K) tSet) (fun ρ H => rexs (cx K) wb_m_settled_0 ρ H) (w + c) ρ H = some (fl, ρ', H2) ∧ (fl = .ret x ∨ (fl = .next ∧ rlk 142 ρ' = some x))
theorem Setl.base (K : Nat) (v : V) (L : List Nat) (P : Int) (Kk : List V) (RR : Hp) : Setl K 1 v (rH L P [] Kk RR) v (rH L P [] Kk RR) := by
  intro ρ w h1 h2
  exact ⟨_, _, rwhile_end (tSet_false K ρ Kk RR h1), .inr ⟨rfl, h2⟩⟩
theorem Setl.none {K : Nat} {v x : V} {L : List Nat} {P : Int} {Wt Kk : List V} {RR H2 : Hp}
    (hb : ∀ ρ, rlk 183 ρ = some (.obj 0) → rlk 142 ρ = some v → ∃ ρ', rexs (cx K) wb_m_settled_0 ρ (rH L P (Wt ++ [x]) Kk RR) = some (.ret .none, ρ', H2)) : Setl K 1 v (rH L P (Wt ++ [x]) Kk RR) .none H2 := by
  intro ρ w h1 h2
  obtain ⟨ρ', e⟩ := hb ρ h1 h2
  exact ⟨_, _, rwhile_ret (tSet_true K ρ Wt x Kk RR h1) e, .inl rfl⟩
theorem Setl.up {K c : Nat} {v v2 x y : V} {L : List Nat} {P : Int} {Wt Kk : List V} {RR H1 H2 : Hp}
    (hb : ∀ ρ, rlk 183 ρ = some (.obj 0) → rlk 142 ρ = some v → ∃ ρ', rlk 183 ρ' = some (.obj 0) ∧ rlk 142 ρ' = some v2 ∧ rexs (cx K) wb_m_settled_0 ρ (rH L P (Wt ++ [x]) Kk RR) = some (.next, ρ', H1)) (n : Setl K c v2 H1 y H2) : Setl K (c + 1) v (rH L P (Wt ++ [x]) Kk RR) y H2 := by
  intro ρ w h1 h2
  obtain ⟨ρ', a, b, e⟩ := hb ρ h1 h2
  obtain ⟨fl, ρ2, q1, q2⟩ := n ρ' w a b
  refine ⟨fl, ρ2, ?_, q2⟩
  rw [show w + (c + 1) = (w + c) + 1 by (first | lia | omega), rwhile_step (tSet_true K ρ Wt x Kk RR h1) e]
  exact q1
theorem settled_ok {K c : Nat} {v x : V} {H H2 : Hp} (hc : c ≤ 100) (s : Setl K c v H x H2) : rF RP (K + 1) true 77 [.obj 0, v] H = some (x, H2) := by
  obtain ⟨fl, ρ', e, q⟩ := s [(183, .obj 0), (142, v)] (W - c) rfl rfl
  have hw : rex (cx K) w_m_settled_1 [(183, .obj 0), (142, v)] H = some (fl, ρ', H2) := by
    refine rex_whl ?_
    rwa [show W - c + c = W by unfold W; (first | lia | omega)] at e
  refine rF_m (d := d_m_settled) rfl ?_
  rcases q with rfl | ⟨rfl, q⟩
  · simp only [d_m_settled, b_m_settled, hw, rrun, rbindP_0, rbindP_1, l_rexs_1, eq_self]
  · simp only [d_m_settled, b_m_settled, hw, q, rrun, rbindP_0, rbindP_1, l_rev_2, l_rex_1, l_rexs_1, eq_self]

/-- next_tree -/
theorem next_leaf {L B R gap ind : List Nat} {P : Int} (u : T) (hl : isLeaf u = true) (ht : told u = true) (hR : Dl R = true) (hb : blanks B = true) (hB : B.length ≤ 1000) (h : At L P (B ++ (laidT gap ind u ++ R))) (k : Nat) (Wt Kk : List V) (RR : Hp) :
    rF RP (k + 7) true 76 [.obj 0] (rH L P Wt Kk RR) = some (vT u, rH L (P + B.length + (laidT gap ind u).length) Wt Kk RR) := by
  have hh : ∃ c r, laidT gap ind u = c :: r ∧ noBl (c :: (r ++ R)) = true ∧ (c == 91) = false ∧ (c == 123) = false := by
    cases u with
    | skip => first | exact Mine.nos ht | exact Mine.ff0 ht | exact Mine.tf0 ht | exact Mine.sn0 ht | cases ht
    | arr _ => first | exact Mine.nos hl | exact Mine.ff0 hl | exact Mine.tf0 hl | exact Mine.sn0 hl | cases hl
    | obj _ => first | exact Mine.nos hl | exact Mine.ff0 hl | exact Mine.tf0 hl | exact Mine.sn0 hl | cases hl
    | tt => exact ⟨_, _, rfl, rfl, rfl, rfl⟩
    | nul => exact ⟨_, _, rfl, rfl, rfl, rfl⟩
    | str n =>
      have : n = 0 ∨ n = 1 ∨ n = 2 := by (first | lia | omega)
      rcases this with rfl | rfl | rfl <;> exact ⟨_, _, rfl, rfl, rfl, rfl⟩
    | num n =>
      have hn : n = 3 ∨ n = 4 ∨ n = 5 := by
        have := of_decide_eq_true (show decide (3 ≤ n.val) = true from ht)
        (first | lia | omega)
      rcases hn with rfl | rfl | rfl <;> exact ⟨_, _, rfl, rfl, rfl, rfl⟩
  obtain ⟨c, r, e1, e2, e3, e4⟩ := hh
  have p := fun H => plain_text u hl ht hR h.skip k H
  rw [e1, List.cons_append] at h
  have a := m_skip hb e2 h hB (k + 4) Wt Kk RR
  simp only [List.take_succ_cons, List.take_zero, rH, rd] at a
  refine rF_m (d := d_m_next_tree) rfl ?_
  simp only [d_m_next_tree, b_m_next_tree, rH, rd, lk6, lk7, lk73, up7, ble4, cond_false, a, p, e3, e4, rrun, leq_1, cmp_eq, eqV_str, rbindP_0, rbindP_1, l_rev_0, l_rev_2, l_rev_7, l_rev_13, l_rev_17, l_rev_18, l_revs_0, l_revs_1, l_revC_0, l_rex_1, l_rex_2, l_rex_5, l_rexs_0, l_rexs_1, attT, objV_0, insts, Option.bind_some, rtgtA, rtgt, rt0, rt1, rlk_1, rup_0, rup_1, Nat.reduceBEq, eq_self, cx_call, cx_nm, rtruth_1, List.length_cons, List.length_nil, List.getElem?_cons_zero, List.set_cons_zero, Nat.reduceAdd]
theorem next_arr {L B R : List Nat} {P : Int} (hb : blanks B = true) (hB : B.length ≤ 1000) (h : At L P (B ++ 91 :: R)) (k : Nat) (Wt Kk : List V) (RR : Hp) {r : V × Hp}
    (o : rF RP (k + 4) true 75 [.obj 0, .str kArr] (rH L (P + B.length) Wt Kk RR) = some r) :
    rF RP (k + 5) true 76 [.obj 0] (rH L P Wt Kk RR) = some r := by
  have a := m_skip hb (R := 91 :: R) rfl h hB (k + 2) Wt Kk RR
  simp only [List.take_succ_cons, List.take_zero, rH, rd] at a
  simp only [rH, rd, kArr] at o
  refine rF_m (d := d_m_next_tree) rfl ?_
  simp only [d_m_next_tree, b_m_next_tree, rH, rd, lk73, lk75, a, o, rrun, leq_0, leq_1, cmp_eq, eqV_str, rbindP_0, rbindP_1, l_rev_0, l_rev_2, l_rev_7, l_rev_18, l_revs_0, l_revs_1, l_revC_0, l_rex_1, l_rex_2, l_rex_5, l_rexs_1, rtgtA, rtgt, rlk_1, rup_0, rup_1, Nat.reduceBEq, eq_self, cx_call, cx_nm, rtruth_1, List.getElem?_cons_zero]
theorem next_obj {L B R : List Nat} {P : Int} (hb : blanks B = true) (hB : B.length ≤ 1000) (h : At L P (B ++ 123 :: R)) (k : Nat) (Wt Kk : List V) (RR : Hp) {r : V × Hp}
    (o : rF RP (k + 4) true 75 [.obj 0, .str kObj] (rH L (P + B.length) Wt Kk RR) = some r) :
    rF RP (k + 5) true 76 [.obj 0] (rH L P Wt Kk RR) = some r := by
  have a := m_skip hb (R := 123 :: R) rfl h hB (k + 2) Wt Kk RR
  simp only [List.take_succ_cons, List.take_zero, rH, rd] at a
  simp only [rH, rd, kObj] at o
  refine rF_m (d := d_m_next_tree) rfl ?_
  simp only [d_m_next_tree, b_m_next_tree, rH, rd, lk73, lk75, a, o, rrun, leq_0, leq_1, cmp_eq, eqV_str, rbindP_0, rbindP_1, l_rev_0, l_rev_2, l_rev_7, l_rev_18, l_revs_0, l_revs_1, l_revC_0, l_rex_1, l_rex_2, l_rex_5, l_rexs_0, l_rexs_1, rtgtA, rtgt, rlk_1, rup_0, rup_1, Nat.reduceBEq, eq_self, cx_call, cx_nm, rtruth_1, List.getElem?_cons_zero]
open PySem
abbrev tWh : RE := .cmp (.loc 129) (.one .Is (.val .none))
noncomputable def WL (K c : Nat) (H : Hp) (y : V) (H2 : Hp) : Prop := ∀ (ρ : Env) (w : Nat), rlk 183 ρ = some (.obj 0) → rlk 129 ρ = some .none →
  ∃ ρ', rlk 183 ρ' = some (.obj 0) ∧ rlk 129 ρ' = some y ∧
    rwhileF (tstB (cx K) tWh) (fun ρ H => rexs (cx K) wb_m_whole_0 ρ H) (w + c) ρ H = rwhileF (tstB (cx K) tWh) (fun ρ H => rexs (cx K) wb_m_whole_0 ρ H) w ρ' H2
theorem tWh_true (K : Nat) (ρ : Env) (H : Hp) (h : rlk 129 ρ = some .none) : tstB (cx K) tWh ρ H = some (true, H) := by
  simp only [tstB, h, cmp_isN, l_rev_0, l_rev_2, l_rev_7, l_revC_0, eq_self, rtruth_1]
theorem tWh_false (K : Nat) (ρ : Env) (H : Hp) (l : List V) (h : rlk 129 ρ = some (.tup l)) : tstB (cx K) tWh ρ H = some (false, H) := by
  simp only [tstB, h, cmp_isT, l_rev_0, l_rev_2, l_rev_7, l_revC_0, eq_self, rtruth_1]
theorem self_head (L : List Nat) (P : Int) (Wt Kk : List V) (RR : Hp) : (rH L P Wt Kk RR)[0]? = some (.inst [(nmR 6, .str L), (nmR 7, .int P), (nmR 8, .ref 1), (nmR 9, .ref 2)]) := rfl
theorem WL.one_none {K : Nat} {L : List Nat} {P : Int} {Wt Kk : List V} {RR H1 : Hp} (h : rF RP K true 76 [.obj 0] (rH L P Wt Kk RR) = some (.none, H1)) : WL K 1 (rH L P Wt Kk RR) .none H1 := by
  intro ρ w h1 h2
  have b : rexs (cx K) wb_m_whole_0 ρ (rH L P Wt Kk RR) = some (.next, rup 142 .none ρ, H1) := by
    simp only [wb_m_whole_0, h1, self_head, lk76, h, cmp_isnN, rlk_rup, reduceIte, l_rev_0, l_rev_2, l_rev_7, l_rev_18, l_revs_0, l_revC_0, l_rex_2, l_rex_5, l_rexs_0, l_rexs_1, rtgtA, rtgt, eq_self, cx_call, cx_nm, rtruth_1]
  refine ⟨_, ?_, ?_, rwhile_step (tWh_true K ρ _ h2) b⟩
  · rw [rlk_rup, if_neg (by decide)]; exact h1
  · rw [rlk_rup, if_neg (by decide)]; exact h2
theorem WL.one_some {K : Nat} {L : List Nat} {P P' : Int} {Wt Kk Wt' Kk' : List V} {RR RR' H2 : Hp} {l : List V} {x : V} (h : rF RP K true 76 [.obj 0] (rH L P Wt Kk RR) = some (.tup l, rH L P' Wt' Kk' RR'))
    (s : rF RP K true 77 [.obj 0, .tup l] (rH L P' Wt' Kk' RR') = some (x, H2)) : WL K 1 (rH L P Wt Kk RR) x H2 := by
  intro ρ w h1 h2
  have b : rexs (cx K) wb_m_whole_0 ρ (rH L P Wt Kk RR) = some (.next, rup 129 x (rup 142 (.tup l) ρ), H2) := by
    simp only [wb_m_whole_0, h1, self_head, lk76, lk77, h, s, cmp_isnT, rlk_rup, reduceIte, l_rev_0, l_rev_2, l_rev_7, l_rev_18, l_revs_0, l_revs_1, l_revC_0, l_rex_2, l_rex_5, l_rexs_0, l_rexs_1, rtgtA, rtgt, eq_self, cx_call, cx_nm, rtruth_1, Nat.reduceEqDiff]
  refine ⟨_, ?_, ?_, rwhile_step (tWh_true K ρ _ h2) b⟩
  · rw [rlk_rup, if_neg (by decide), rlk_rup, if_neg (by decide)]; exact h1
  · rw [rlk_rup, if_pos rfl]
theorem WL.trans {K c1 c2 : Nat} {H H1 H2 : Hp} {y : V} (a : WL K c1 H .none H1) (b : WL K c2 H1 y H2) : WL K (c1 + c2) H y H2 := by
  intro ρ w h1 h2
  obtain ⟨ρ1, p1, p2, p3⟩ := a ρ (w + c2) h1 h2
  obtain ⟨ρ2, q1, q2, q3⟩ := b ρ1 w p1 p2
  refine ⟨ρ2, q1, q2, ?_⟩
  rw [show w + (c1 + c2) = w + c2 + c1 by (first | lia | omega), p3, q3]

mutual
noncomputable def cnt : T → Nat
  | .arr ts => cnts ts + 1
  | .obj es => cnte es + 1
  | _ => 0
noncomputable def cnts : Ts → Nat
  | .nil => 0
  | .cons t ts => cnt t + cnts ts
noncomputable def cnte : Es → Nat
  | .nil => 0
  | .cons _ t ts => cnt t + cnte ts
end
theorem cnte_1 (k : _root_.Fin 3) (t : T) (ts : Es) : cnte (Es.cons k t ts) = cnt t + cnte ts := rfl
theorem cnts_1 (t : T) (ts : Ts) : cnts (Ts.cons t ts) = cnt t + cnts ts := rfl
theorem cnt_0 (ts : Ts) : cnt (T.arr ts) = cnts ts + 1 := rfl
theorem cnt_1 (es : Es) : cnt (T.obj es) = cnte es + 1 := rfl
noncomputable def hvV (n : Nat) : T → V
  | .arr _ => frA n
  | .obj _ => frO n
  | t => vT t
noncomputable def hvVs (n : Nat) : Ts → List V
  | .nil => []
  | .cons t ts => hvV n t :: hvVs (n + cnt t) ts
theorem hvVs_0 (n : Nat) : hvVs n Ts.nil = [] := rfl
theorem hvVs_1 (n : Nat) (t : T) (ts : Ts) : hvVs n (Ts.cons t ts) = hvV n t :: hvVs (n + cnt t) ts := rfl
noncomputable def hvEs (n : Nat) : Es → List V
  | .nil => []
  | .cons k t ts => .tup [.str [keyOf k], hvV n t] :: hvEs (n + cnt t) ts
theorem hvEs_0 (n : Nat) : hvEs n Es.nil = [] := rfl
theorem hvEs_1 (n : Nat) (k : _root_.Fin 3) (t : T) (ts : Es) : hvEs n (Es.cons k t ts) = V.tup [V.str [keyOf k], hvV n t] :: hvEs (n + cnt t) ts := rfl
mutual
noncomputable def hvO (n : Nat) : T → Hp
  | .arr ts => .list (hvVs (n + 1) ts) :: hvOs (n + 1) ts
  | .obj es => .list (hvEs (n + 1) es) :: hvOe (n + 1) es
  | _ => []
noncomputable def hvOs (n : Nat) : Ts → Hp
  | .nil => []
  | .cons t ts => hvO n t ++ hvOs (n + cnt t) ts
noncomputable def hvOe (n : Nat) : Es → Hp
  | .nil => []
  | .cons _ t ts => hvO n t ++ hvOe (n + cnt t) ts
end
theorem hvOe_0 (n : Nat) : hvOe n Es.nil = [] := rfl
theorem hvOe_1 (n : Nat) (k : _root_.Fin 3) (t : T) (ts : Es) : hvOe n (Es.cons k t ts) = hvO n t ++ hvOe (n + cnt t) ts := rfl
theorem hvOs_0 (n : Nat) : hvOs n Ts.nil = [] := rfl
theorem hvOs_1 (n : Nat) (t : T) (ts : Ts) : hvOs n (Ts.cons t ts) = hvO n t ++ hvOs (n + cnt t) ts := rfl
theorem hvO_0 (n : Nat) (ts : Ts) : hvO n (T.arr ts) = AO.list (hvVs (n + 1) ts) :: hvOs (n + 1) ts := rfl
theorem hvO_1 (n : Nat) (es : Es) : hvO n (T.obj es) = AO.list (hvEs (n + 1) es) :: hvOe (n + 1) es := rfl
mutual
theorem hvO_len : ∀ (t : T) (n : Nat), (hvO n t).length = cnt t
  | .arr ts, n => by rw [hvO_0, cnt_0, List.length_cons, hvOs_len ts]
  | .obj ts, n => by rw [hvO_1, cnt_1, List.length_cons, hvOe_len ts]
  | .skip, n => rfl
  | .num _, n => rfl
  | .str _, n => rfl
  | .tt, n => rfl
  | .nul, n => rfl
theorem hvOs_len : ∀ (t : Ts) (n : Nat), (hvOs n t).length = cnts t
  | .nil, n => rfl
  | .cons t ts, n => by rw [hvOs_1, cnts_1, List.length_append, hvO_len t, hvOs_len ts]
theorem hvOe_len : ∀ (t : Es) (n : Nat), (hvOe n t).length = cnte t
  | .nil, n => rfl
  | .cons k t ts, n => by rw [hvOe_1, cnte_1, List.length_append, hvO_len t, hvOe_len ts]
end
mutual
noncomputable def nit : T → Nat
  | .arr ts => 1 + nits ts
  | .obj es => 1 + nite es
  | _ => 1
noncomputable def nits : Ts → Nat
  | .nil => 0
  | .cons t ts => nit t + nits ts
noncomputable def nite : Es → Nat
  | .nil => 0
  | .cons _ t ts => nit t + nite ts
end
theorem nite_1 (k : _root_.Fin 3) (t : T) (ts : Es) : nite (Es.cons k t ts) = nit t + nite ts := rfl
theorem nits_1 (t : T) (ts : Ts) : nits (Ts.cons t ts) = nit t + nits ts := rfl
theorem nit_0 (ts : Ts) : nit (T.arr ts) = 1 + nits ts := rfl
theorem nit_1 (es : Es) : nit (T.obj es) = 1 + nite es := rfl
mutual
noncomputable def toldT : T → Bool
  | .skip => false
  | .num n => decide (3 ≤ n.val)
  | .arr ts => toldTs ts
  | .obj es => toldEs es
  | _ => true
noncomputable def toldTs : Ts → Bool
  | .nil => true
  | .cons t ts => toldT t && toldTs ts
noncomputable def toldEs : Es → Bool
  | .nil => true
  | .cons _ t ts => toldT t && toldEs ts
end
theorem toldEs_1 (k : _root_.Fin 3) (t : T) (ts : Es) : toldEs (Es.cons k t ts) = (toldT t && toldEs ts) := rfl
theorem toldTs_1 (t : T) (ts : Ts) : toldTs (Ts.cons t ts) = (toldT t && toldTs ts) := rfl
theorem toldT_2 (ts : Ts) : toldT (T.arr ts) = toldTs ts := rfl
theorem toldT_3 (es : Es) : toldT (T.obj es) = toldEs es := rfl
theorem told_leaf {t : T} (h : isLeaf t = true) (ht : toldT t = true) : told t = true := by cases t <;> first | rfl | exact ht | cases h
noncomputable def preB (gap ind : List Nat) : List Nat := match leq gap [] with
  | true => []
  | false => [10] ++ ind ++ gap
noncomputable def postB (gap ind : List Nat) : List Nat := match leq gap [] with
  | true => []
  | false => 10 :: ind
noncomputable def colR (gap : List Nat) : List Nat := match leq gap [] with
  | true => []
  | false => [32]
theorem blanks_app : ∀ {a b : List Nat}, blanks a = true → blanks b = true → blanks (a ++ b) = true
  | [], b, _, h => h
  | c :: a, b, h, h' => by
    rw [blanks] at h
    rw [List.cons_append, blanks]
    split at h
    · exact blanks_app h h'
    · first | exact Mine.nos h | exact Mine.ff0 h | exact Mine.tf0 h | exact Mine.sn0 h | cases h
theorem preB_bl {gap ind : List Nat} (hg : blanks gap = true) (hi : blanks ind = true) : blanks (preB gap ind) = true := by
  unfold preB
  split
  · rfl
  · exact blanks_app (blanks_app rfl hi) hg
theorem postB_bl {gap ind : List Nat} (hi : blanks ind = true) : blanks (postB gap ind) = true := by
  unfold postB
  split
  · rfl
  · exact hi
theorem colR_bl (gap : List Nat) : blanks (colR gap) = true := by
  unfold colR
  split <;> rfl
theorem preB_len {gap ind : List Nat} (hg : gap.length ≤ 2) (hi : ind.length ≤ 20) : (preB gap ind).length ≤ 1000 := by
  unfold preB
  split
  · exact Nat.zero_le _
  · simp only [List.length_append, List.length_cons, List.length_nil]; (first | lia | omega)
theorem postB_len {gap ind : List Nat} (hi : ind.length ≤ 20) : (postB gap ind).length ≤ 1000 := by
  unfold postB
  split
  · exact Nat.zero_le _
  · simp only [List.length_cons]; (first | lia | omega)
theorem colR_len (gap : List Nat) : (colR gap).length ≤ 1000 := by
  unfold colR
  split <;> decide
theorem colonL_eq (gap : List Nat) : colonL gap = 58 :: colR gap := by
  unfold colonL colR
  cases leq gap [] <;> rfl
/-- the text behind an item -/
noncomputable def atail (gap ind R : List Nat) : Ts → List Nat
  | .nil => postB gap ind ++ 93 :: R
  | .cons t ts => 44 :: (preB gap ind ++ (laidT gap (ind ++ gap) t ++ atail gap ind R ts))
noncomputable def etail (gap ind R : List Nat) : Es → List Nat
  | .nil => postB gap ind ++ 125 :: R
  | .cons k t ts => 44 :: (preB gap ind ++ (keyText k ++ 58 :: (colR gap ++ (laidT gap (ind ++ gap) t ++ etail gap ind R ts))))
theorem atail_Dl (gap ind R : List Nat) (ts : Ts) : Dl (atail gap ind R ts) = true := by
  cases ts with
  | nil => unfold atail postB; split <;> rfl
  | cons t ts => rfl
theorem etail_Dl (gap ind R : List Nat) (ts : Es) : Dl (etail gap ind R ts) = true := by
  cases ts with
  | nil => unfold etail postB; split <;> rfl
  | cons k t ts => rfl
theorem rowsL_cons (op cl : Nat) (x : List Nat) (xs : List (List Nat)) (gap ind : List Nat) : rowsL op cl (x :: xs) gap ind = op :: (preB gap ind ++ (joinS (44 :: preB gap ind) (x :: xs) ++ (postB gap ind ++ [cl]))) := by
  unfold rowsL preB postB
  dsimp only
  cases leq gap [] <;> simp
theorem join_Ts (gap ind R : List Nat) : ∀ (t : T) (ts : Ts), joinS (44 :: preB gap ind) (laidTs gap (ind ++ gap) (.cons t ts)) ++ (postB gap ind ++ 93 :: R) = laidT gap (ind ++ gap) t ++ atail gap ind R ts
  | t, .nil => rfl
  | t, .cons t2 ts => by
    have := join_Ts gap ind R t2 ts
    simp only [laidTs_1] at this
    simp only [laidTs_1, joinS, atail, List.append_assoc, this, List.cons_append]
theorem join_Es (gap ind R : List Nat) : ∀ (k : Fin 3) (t : T) (ts : Es), toldT t = true → toldEs ts = true → joinS (44 :: preB gap ind) (laidEs gap (ind ++ gap) (.cons k t ts)) ++ (postB gap ind ++ 125 :: R) = keyText k ++ 58 :: (colR gap ++ (laidT gap (ind ++ gap) t ++ etail gap ind R ts))
  | k, t, .nil, ht, _ => by
    have hs : isSkip t = false := by cases t <;> first | rfl | cases ht
    simp only [laidEs_0, laidEs_1, hs, joinS, etail, colonL_eq, List.append_assoc, List.cons_append]
  | k, t, .cons k2 t2 ts, ht, hts => by
    rw [toldEs_1, Bool.and_eq_true] at hts
    have hs : isSkip t = false := by cases t <;> first | rfl | cases ht
    have hs2 : isSkip t2 = false := by
      cases t2 <;> first | rfl | cases hts.1
    have := join_Es gap ind R k2 t2 ts hts.1 hts.2
    simp only [laidEs_1, hs2] at this
    simp only [laidEs_1, hs, hs2, joinS, etail, colonL_eq, List.append_assoc, List.cons_append] at this ⊢
    rw [this]
theorem laid_head (gap ind : List Nat) (u : T) (hu : toldT u = true) : ∃ c r, laidT gap ind u = c :: r ∧ isBl c = false ∧ (c == 93) = false := by
  cases u with
  | skip => first | exact Mine.nos hu | exact Mine.ff0 hu | exact Mine.tf0 hu | exact Mine.sn0 hu | cases hu
  | tt => exact ⟨_, _, rfl, rfl, rfl⟩
  | nul => exact ⟨_, _, rfl, rfl, rfl⟩
  | str n =>
    have : n = 0 ∨ n = 1 ∨ n = 2 := by (first | lia | omega)
    rcases this with rfl | rfl | rfl <;> exact ⟨_, _, rfl, rfl, rfl⟩
  | num n =>
    have hn : n = 3 ∨ n = 4 ∨ n = 5 := by
      have := of_decide_eq_true (show decide (3 ≤ n.val) = true from hu)
      (first | lia | omega)
    rcases hn with rfl | rfl | rfl <;> exact ⟨_, _, rfl, rfl, rfl⟩
  | arr ts =>
    cases ts with
    | nil => exact ⟨_, _, rfl, rfl, rfl⟩
    | cons t ts => exact ⟨_, _, by rw [laidT_5, laidTs_1, rowsL_cons], rfl, rfl⟩
  | obj es =>
    rw [laidT_6]
    cases laidEs gap (ind ++ gap) es with
    | nil => exact ⟨_, _, rfl, rfl, rfl⟩
    | cons x xs => exact ⟨_, _, by rw [rowsL_cons], rfl, rfl⟩
theorem At.same {L : List Nat} {P P' : Int} {R : List Nat} (h : At L P R) (h' : At L P' R) : P = P' := by
  have := h.len
  have := h'.len
  (first | lia | omega)
open PySem
theorem At.to {L R R' : List Nat} {P : Int} (h : At L P R) (e : R = R') : At L P R' := e ▸ h
theorem noBl_of {c : Nat} {r : List Nat} (h : isBl c = false) : noBl (c :: r) = true := by rw [noBl, h]
theorem set_app {RR : Hp} {m : Nat} {o : AO} {X : Hp} (h : m < RR.length) : (RR ++ X).set m o = RR.set m o ++ X := List.set_append_left _ _ h
theorem get_app {RR : Hp} {m : Nat} {o : AO} {X : Hp} (h : RR[m]? = some o) : (RR ++ X)[m]? = some o := by
  rw [List.getElem?_append_left (List.getElem?_eq_some_iff.mp h).1]; exact h
theorem get_set {RR : Hp} {m : Nat} {o o' : AO} (h : RR[m]? = some o) : (RR.set m o')[m]? = some o' := by
  rw [List.getElem?_set_self]; exact (List.getElem?_eq_some_iff.mp h).1
theorem get_end {RR : Hp} {o : AO} : (RR ++ [o])[RR.length]? = some o := by
  rw [List.getElem?_append_right (Nat.le_refl _), Nat.sub_self]; rfl
theorem set_end {o o' : AO} : ∀ {RR : Hp}, (RR ++ [o]).set RR.length o' = RR ++ [o']
  | [] => rfl
  | a :: r => by rw [List.cons_append, List.length_cons, List.set_cons_succ, set_end]; rfl
theorem envS {ρ : Env} {a b c : V} (h1 : rlk 183 ρ = some (.obj 0)) : rlk 183 (rup 116 a (rup 151 b (rup 143 c ρ))) = some (.obj 0) := by
  rw [rlk_rup, if_neg (by decide), rlk_rup, if_neg (by decide), rlk_rup, if_neg (by decide)]; exact h1
theorem read_leaf {L B R gap ind : List Nat} {P P' : Int} (u : T) (hl : isLeaf u = true) (hu : toldT u = true) (hR : Dl R = true) (hb : blanks B = true) (hB : B.length ≤ 1000) (h : At L P (B ++ (laidT gap ind u ++ R))) (h' : At L P' R)
    (k c : Nat) (Wt Kk : List V) (RR : Hp) (x : V) (H2 : Hp) (hc : c ≤ 100) (s : Setl (k + 6) c (vT u) (rH L P' Wt Kk RR) x H2) :
    WL (k + 7) 1 (rH L P Wt Kk RR) x H2 := by
  have n := next_leaf u hl (told_leaf hl hu) hR hb hB h k Wt Kk RR
  have e : P + B.length + (laidT gap ind u).length = P' := h.skip.skip.same h'
  rw [e] at n
  have st := settled_ok hc s
  rw [vT_eq u] at n st
  exact WL.one_some n st
theorem read_s0 {k c x v L P Wt Kk RR H2} (s : Setl (k + 6) c v (rH L P Wt Kk (RR ++ [])) x H2) : Setl (k + 6) c v (rH L P Wt Kk RR) x H2 := by rw [List.append_nil] at s; exact s
mutual
theorem read_T (L gap : List Nat) (hg : blanks gap = true) (hg2 : gap.length ≤ 2) (k : Nat) : ∀ (u : T) (d : Nat) (ind B R : List Nat) (P P' : Int) (Wt Kk : List V) (RR : Hp) (c : Nat) (x : V) (H2 : Hp),
    htT u d → toldT u = true → blanks ind = true → ind.length + 2 * d ≤ 20 → Dl R = true → blanks B = true → B.length ≤ 1000 → At L P (B ++ (laidT gap ind u ++ R)) → At L P' R →
    Wt.length + d ≤ 100 → Kk.length + d ≤ 100 → c + d ≤ 100 → Setl (k + 6) c (hvV RR.length u) (rH L P' Wt Kk (RR ++ hvO RR.length u)) x H2 → WL (k + 7) (nit u) (rH L P Wt Kk RR) x H2
  | .skip, _, _, _, _, _, _, _, _, _, _, _, _, _, hu, _, _, _, _, _, _, _, _, _, _, _ => by cases hu
  | .num n, d, ind, B, R, P, P', Wt, Kk, RR, c, x, H2, ht, hu, hi, hi2, hR, hb, hB, h, h', hW, hK, hc, s => by
    refine read_leaf (.num n) rfl hu hR hb hB h h' k c Wt Kk RR x H2 (by (first | lia | omega)) ?_
    exact read_s0 s
  | .str n, d, ind, B, R, P, P', Wt, Kk, RR, c, x, H2, ht, hu, hi, hi2, hR, hb, hB, h, h', hW, hK, hc, s => by
    refine read_leaf (.str n) rfl hu hR hb hB h h' k c Wt Kk RR x H2 (by (first | lia | omega)) ?_
    exact read_s0 s
  | .tt, d, ind, B, R, P, P', Wt, Kk, RR, c, x, H2, ht, hu, hi, hi2, hR, hb, hB, h, h', hW, hK, hc, s => by
    refine read_leaf .tt rfl hu hR hb hB h h' k c Wt Kk RR x H2 (by (first | lia | omega)) ?_
    exact read_s0 s
  | .nul, d, ind, B, R, P, P', Wt, Kk, RR, c, x, H2, ht, hu, hi, hi2, hR, hb, hB, h, h', hW, hK, hc, s => by
    refine read_leaf .nul rfl hu hR hb hB h h' k c Wt Kk RR x H2 (by (first | lia | omega)) ?_
    exact read_s0 s
  | .arr ts, 0, _, _, _, _, _, _, _, _, _, _, _, ht, _, _, _, _, _, _, _, _, _, _, _, _ => ht.elim
  | .obj ts, 0, _, _, _, _, _, _, _, _, _, _, _, ht, _, _, _, _, _, _, _, _, _, _, _, _ => ht.elim
  | .arr .nil, d + 1, ind, B, R, P, P', Wt, Kk, RR, c, x, H2, ht, hu, hi, hi2, hR, hb, hB, h, h', hW, hK, hc, s => by
    have h : At L P (B ++ 91 :: ([] ++ 93 :: R)) := h
    have o := openA0 (B := []) rfl h.skip (by decide) (k + 2) Wt Kk RR
    have n := next_arr hb hB h (k + 2) Wt Kk RR o
    have e : P + B.length + 1 + (([] : List Nat).length : Int) + 1 = P' := by
      have := h.skip.next.next.same h'
      rw [List.length_nil]
      (first | lia | omega)
    rw [e] at n
    have hs : Setl (k + 6) c (.tup [.str kArr, .ref (RR.length + 1 + 1 + 1)]) (rH L P' Wt Kk (RR ++ [.list []])) x H2 := s
    exact WL.one_some n (settled_ok (by (first | lia | omega)) hs)
  | .arr (.cons t ts), d + 1, ind, B, R, P, P', Wt, Kk, RR, c, x, H2, ht, hu, hi, hi2, hR, hb, hB, h, h', hW, hK, hc, s => by
    have hu' : toldTs (.cons t ts) = true := hu
    have hut := hu'
    rw [toldTs_1, Bool.and_eq_true] at hut
    have h : At L P (B ++ 91 :: (preB gap ind ++ (laidT gap (ind ++ gap) t ++ atail gap ind R ts))) := h.to (by
      rw [laidT_5, laidTs_1, rowsL_cons, ← laidTs_1, ← join_Ts]
      simp)
    obtain ⟨cc, r, e1, e2, e3⟩ := laid_head gap (ind ++ gap) t hut.1
    have h2 : At L (P + B.length) (91 :: (preB gap ind ++ cc :: (r ++ atail gap ind R ts))) := h.skip.to (by rw [e1]; rfl)
    have o := openA1 (preB_bl hg hi) (noBl_of e2) e3 h2 (preB_len hg2 (by (first | lia | omega))) (k + 2) Wt Kk (by (first | lia | omega)) RR
    have n := next_arr hb hB h (k + 2) Wt Kk RR o
    have hi' : (ind ++ gap).length + 2 * d ≤ 20 := by rw [List.length_append]; (first | lia | omega)
    have r1 := WL.one_none n
    refine r1.trans ?_
    have h3 : At L (P + B.length + 1 + (preB gap ind).length) ([] ++ (laidT gap (ind ++ gap) t ++ atail gap ind R ts)) := h2.next.skip.to (by rw [e1]; rfl)
    refine read_Ts L gap hg hg2 k (.cons t ts) t ts rfl d ind [] R _ P' Wt Kk (RR ++ [.list []]) RR.length [] c x H2 ht.1 (by have := ht.2; rw [List.length_nil]; (first | lia | omega)) hu' hi hi' hR rfl (by decide) h3 h' get_end (by (first | lia | omega)) (by (first | lia | omega)) (by (first | lia | omega)) ?_
    rw [List.nil_append, set_end, List.length_append, List.append_assoc]
    exact s
  | .obj .nil, d + 1, ind, B, R, P, P', Wt, Kk, RR, c, x, H2, ht, hu, hi, hi2, hR, hb, hB, h, h', hW, hK, hc, s => by
    have h : At L P (B ++ 123 :: ([] ++ 125 :: R)) := h
    have o := openO0 (B := []) rfl h.skip (by decide) (k + 2) Wt Kk RR
    have n := next_obj hb hB h (k + 2) Wt Kk RR o
    have e : P + B.length + 1 + (([] : List Nat).length : Int) + 1 = P' := by
      have := h.skip.next.next.same h'
      rw [List.length_nil]
      (first | lia | omega)
    rw [e] at n
    have hs : Setl (k + 6) c (.tup [.str kObj, .ref (RR.length + 1 + 1 + 1)]) (rH L P' Wt Kk (RR ++ [.list []])) x H2 := s
    exact WL.one_some n (settled_ok (by (first | lia | omega)) hs)
  | .obj (.cons kk t ts), d + 1, ind, B, R, P, P', Wt, Kk, RR, c, x, H2, ht, hu, hi, hi2, hR, hb, hB, h, h', hW, hK, hc, s => by
    have hu' : toldEs (.cons kk t ts) = true := hu
    have hut := hu'
    rw [toldEs_1, Bool.and_eq_true] at hut
    have hs : isSkip t = false := by
      cases t <;> first | rfl | cases hut.1
    have h : At L P (B ++ 123 :: (preB gap ind ++ (keyText kk ++ 58 :: (colR gap ++ (laidT gap (ind ++ gap) t ++ etail gap ind R ts))))) := h.to (by
      rw [← join_Es gap ind R kk t ts hut.1 hut.2, laidT_6]
      simp only [laidEs_1, hs, rowsL_cons]
      simp)
    have h2 : At L (P + B.length) (123 :: (preB gap ind ++ (keyText kk ++ 58 :: (colR gap ++ (laidT gap (ind ++ gap) t ++ etail gap ind R ts))))) := h.skip
    have o := openO1 kk (preB_bl hg hi) h2 (preB_len hg2 (by (first | lia | omega))) (k + 2) Wt Kk (by (first | lia | omega)) (by (first | lia | omega)) RR
    have n := next_obj hb hB h (k + 2) Wt Kk RR o
    have hi' : (ind ++ gap).length + 2 * d ≤ 20 := by rw [List.length_append]; (first | lia | omega)
    have r1 := WL.one_none n
    refine r1.trans ?_
    have h3 : At L (P + B.length + 1 + (preB gap ind).length + 3 + 1) (colR gap ++ (laidT gap (ind ++ gap) t ++ etail gap ind R ts)) := by
      have := h2.next.skip.skip
      rw [show ((keyText kk).length : Int) = 3 from rfl] at this
      exact this.next
    refine read_Es L gap hg hg2 k (.cons kk t ts) kk t ts rfl d ind (colR gap) R _ P' Wt Kk (RR ++ [.list []]) RR.length [] c x H2 ht.1 (by have := ht.2; rw [List.length_nil]; (first | lia | omega)) hu' hi hi' hR (colR_bl gap) (colR_len gap) h3 h' get_end (by (first | lia | omega)) (by (first | lia | omega)) (by (first | lia | omega)) ?_
    rw [List.nil_append, set_end, List.length_append, List.append_assoc]
    exact s
theorem read_Ts (L gap : List Nat) (hg : blanks gap = true) (hg2 : gap.length ≤ 2) (k : Nat) : ∀ (l : Ts) (t : T) (ts : Ts), l = .cons t ts → ∀ (d : Nat) (ind B R : List Nat) (P P' : Int) (Wt Kk : List V) (RR : Hp) (m : Nat) (xs : List V) (c : Nat) (x : V) (H2 : Hp),
    htTs l d → xs.length + lenTs l ≤ 3 → toldTs l = true → blanks ind = true → (ind ++ gap).length + 2 * d ≤ 20 → Dl R = true → blanks B = true → B.length ≤ 1000 → At L P (B ++ (laidT gap (ind ++ gap) t ++ atail gap ind R ts)) → At L P' R →
    RR[m]? = some (.list xs) → Wt.length + 1 + d ≤ 100 → Kk.length + d ≤ 100 → c + 1 + d ≤ 100 → Setl (k + 6) c (frA m) (rH L P' Wt Kk (RR.set m (.list (xs ++ hvVs RR.length l)) ++ hvOs RR.length l)) x H2 →
    WL (k + 7) (nits l) (rH L P (Wt ++ [frA m]) Kk RR) x H2
  | .nil, _, _, e, _, _, _, _, _, _, _, _, _, _, _, _, _, _, _, _, _, _, _, _, _, _, _, _, _, _, _, _, _ => by cases e
  | .cons t .nil, _, _, rfl, d, ind, B, R, P, P', Wt, Kk, RR, m, xs, c, x, H2, ht, hx, hu, hi, hi2, hR, hb, hB, h, h', hm, hW, hK, hc, s => by
    rw [toldTs_1, Bool.and_eq_true] at hu
    have hml : m < RR.length := (List.getElem?_eq_some_iff.mp hm).1
    have h1 : At L (P + B.length + (laidT gap (ind ++ gap) t).length) (postB gap ind ++ 93 :: R) := h.skip.skip
    refine read_T L gap hg hg2 k t d (ind ++ gap) B (atail gap ind R .nil) P _ (Wt ++ [frA m]) Kk RR (c + 1) x H2 ht.1 hu.1 (blanks_app hi hg) hi2 (atail_Dl ..) hb hB h h1 (by rw [List.length_append]; exact hW) hK (by (first | lia | omega)) ?_
    refine Setl.up (v2 := frA m) (H1 := rH L P' Wt Kk (RR.set m (.list (xs ++ hvVs RR.length (.cons t .nil))) ++ hvOs RR.length (.cons t .nil))) (fun ρ g1 g2 => ?_) s
    have a := set_A2 (postB_bl hi) (postB_len (by rw [List.length_append] at hi2; (first | lia | omega))) h1 (k + 3) m ρ (hvV RR.length t) xs Wt Kk (RR ++ hvO RR.length t) (get_app hm) (by (first | lia | omega)) g1 g2
    refine ⟨rup 142 (frA m) (rup 116 (.str [93]) (rup 151 (.ref (m + 1 + 1 + 1)) (rup 143 (.str kArr) ρ))), ?_, ?_, a.trans ?_⟩
    · rw [rlk_rup, if_neg (by decide)]; exact envS g1
    · rw [rlk_rup, if_pos rfl]
    · rw [set_app hml, h1.skip.next.same h', hvVs_1, hvVs_0, hvOs_1, hvOs_0, List.append_nil]
  | .cons t (.cons t2 ts), _, _, rfl, d, ind, B, R, P, P', Wt, Kk, RR, m, xs, c, x, H2, ht, hx, hu, hi, hi2, hR, hb, hB, h, h', hm, hW, hK, hc, s => by
    rw [toldTs_1, Bool.and_eq_true] at hu
    have hml : m < RR.length := (List.getElem?_eq_some_iff.mp hm).1
    have h1 : At L (P + B.length + (laidT gap (ind ++ gap) t).length) (44 :: (preB gap ind ++ (laidT gap (ind ++ gap) t2 ++ atail gap ind R ts))) := h.skip.skip
    refine WL.trans (H1 := rH L (P + B.length + (laidT gap (ind ++ gap) t).length + 1) (Wt ++ [frA m]) Kk ((RR ++ hvO RR.length t).set m (.list (xs ++ [hvV RR.length t])))) ?_ ?_
    · refine read_T L gap hg hg2 k t d (ind ++ gap) B _ P _ (Wt ++ [frA m]) Kk RR 1 .none _ ht.1 hu.1 (blanks_app hi hg) hi2 rfl hb hB h h1 (by rw [List.length_append]; exact hW) hK (by (first | lia | omega)) ?_
      exact Setl.none fun ρ g1 g2 => ⟨_, set_A1 h1 (k + 3) m ρ (hvV RR.length t) xs Wt Kk (RR ++ hvO RR.length t) (get_app hm) (by (first | lia | omega)) g1 g2⟩
    · have hl : ((RR ++ hvO RR.length t).set m (.list (xs ++ [hvV RR.length t]))).length = RR.length + cnt t := by rw [List.length_set, List.length_append, hvO_len]
      refine read_Ts L gap hg hg2 k (.cons t2 ts) t2 ts rfl d ind (preB gap ind) R _ P' Wt Kk _ m (xs ++ [hvV RR.length t]) c x H2 ht.2 ?_ hu.2 hi hi2 hR (preB_bl hg hi) (preB_len hg2 (by rw [List.length_append] at hi2; (first | lia | omega))) h1.next h' (get_set (get_app hm)) hW hK hc ?_
      · rw [lenTs_1] at hx
        simp only [List.length_append, List.length_cons, List.length_nil]
        (first | lia | omega)
      · rw [hl, List.set_set, set_app hml]
        rw [hvVs_1, hvOs_1] at s
        simpa only [List.append_assoc, List.singleton_append] using s
theorem read_Es (L gap : List Nat) (hg : blanks gap = true) (hg2 : gap.length ≤ 2) (k : Nat) : ∀ (l : Es) (k0 : Fin 3) (t : T) (ts : Es), l = .cons k0 t ts → ∀ (d : Nat) (ind B R : List Nat) (P P' : Int) (Wt Kk : List V) (RR : Hp) (m : Nat) (xs : List V) (c : Nat) (x : V) (H2 : Hp),
    htEs l d → xs.length + lenEs l ≤ 3 → toldEs l = true → blanks ind = true → (ind ++ gap).length + 2 * d ≤ 20 → Dl R = true → blanks B = true → B.length ≤ 1000 → At L P (B ++ (laidT gap (ind ++ gap) t ++ etail gap ind R ts)) → At L P' R →
    RR[m]? = some (.list xs) → Wt.length + 1 + d ≤ 100 → Kk.length + 1 + d ≤ 100 → c + 1 + d ≤ 100 → Setl (k + 6) c (frO m) (rH L P' Wt Kk (RR.set m (.list (xs ++ hvEs RR.length l)) ++ hvOe RR.length l)) x H2 →
    WL (k + 7) (nite l) (rH L P (Wt ++ [frO m]) (Kk ++ [.str [keyOf k0]]) RR) x H2
  | .nil, _, _, _, e, _, _, _, _, _, _, _, _, _, _, _, _, _, _, _, _, _, _, _, _, _, _, _, _, _, _, _, _, _ => by cases e
  | .cons k0 t .nil, _, _, _, rfl, d, ind, B, R, P, P', Wt, Kk, RR, m, xs, c, x, H2, ht, hx, hu, hi, hi2, hR, hb, hB, h, h', hm, hW, hK, hc, s => by
    rw [toldEs_1, Bool.and_eq_true] at hu
    have hml : m < RR.length := (List.getElem?_eq_some_iff.mp hm).1
    have h1 : At L (P + B.length + (laidT gap (ind ++ gap) t).length) (postB gap ind ++ 125 :: R) := h.skip.skip
    refine read_T L gap hg hg2 k t d (ind ++ gap) B (etail gap ind R .nil) P _ (Wt ++ [frO m]) (Kk ++ [.str [keyOf k0]]) RR (c + 1) x H2 ht.1 hu.1 (blanks_app hi hg) hi2 (etail_Dl ..) hb hB h h1 (by rw [List.length_append]; exact hW) (by rw [List.length_append]; exact hK) (by (first | lia | omega)) ?_
    refine Setl.up (v2 := frO m) (H1 := rH L P' Wt Kk (RR.set m (.list (xs ++ hvEs RR.length (.cons k0 t .nil))) ++ hvOe RR.length (.cons k0 t .nil))) (fun ρ g1 g2 => ?_) s
    have a := set_O2 (postB_bl hi) (postB_len (by rw [List.length_append] at hi2; (first | lia | omega))) h1 (k + 3) m ρ (hvV RR.length t) (.str [keyOf k0]) xs Wt Kk (RR ++ hvO RR.length t) (get_app hm) (by (first | lia | omega)) g1 g2
    refine ⟨rup 142 (frO m) (rup 116 (.str [125]) (rup 151 (.ref (m + 1 + 1 + 1)) (rup 143 (.str kObj) ρ))), ?_, ?_, a.trans ?_⟩
    · rw [rlk_rup, if_neg (by decide)]; exact envS g1
    · rw [rlk_rup, if_pos rfl]
    · rw [set_app hml, h1.skip.next.same h', hvEs_1, hvEs_0, hvOe_1, hvOe_0, List.append_nil]
  | .cons k0 t (.cons k2 t2 ts), _, _, _, rfl, d, ind, B, R, P, P', Wt, Kk, RR, m, xs, c, x, H2, ht, hx, hu, hi, hi2, hR, hb, hB, h, h', hm, hW, hK, hc, s => by
    rw [toldEs_1, Bool.and_eq_true] at hu
    have hml : m < RR.length := (List.getElem?_eq_some_iff.mp hm).1
    have h1 : At L (P + B.length + (laidT gap (ind ++ gap) t).length) (44 :: (preB gap ind ++ (keyText k2 ++ 58 :: (colR gap ++ (laidT gap (ind ++ gap) t2 ++ etail gap ind R ts))))) := h.skip.skip
    refine WL.trans (H1 := rH L (P + B.length + (laidT gap (ind ++ gap) t).length + 1 + (preB gap ind).length + 3 + 1) (Wt ++ [frO m]) (Kk ++ [.str [keyOf k2]]) ((RR ++ hvO RR.length t).set m (.list (xs ++ [.tup [.str [keyOf k0], hvV RR.length t]])))) ?_ ?_
    · refine read_T L gap hg hg2 k t d (ind ++ gap) B _ P _ (Wt ++ [frO m]) (Kk ++ [.str [keyOf k0]]) RR 1 .none _ ht.1 hu.1 (blanks_app hi hg) hi2 rfl hb hB h h1 (by rw [List.length_append]; exact hW) (by rw [List.length_append]; exact hK) (by (first | lia | omega)) ?_
      exact Setl.none fun ρ g1 g2 => ⟨_, set_O1 k2 (preB_bl hg hi) (preB_len hg2 (by rw [List.length_append] at hi2; (first | lia | omega))) h1 (k + 3) m ρ (hvV RR.length t) (.str [keyOf k0]) xs Wt Kk (by (first | lia | omega)) (RR ++ hvO RR.length t) (get_app hm) (by (first | lia | omega)) g1 g2⟩
    · have h4 : At L (P + B.length + (laidT gap (ind ++ gap) t).length + 1 + (preB gap ind).length + 3 + 1) (colR gap ++ (laidT gap (ind ++ gap) t2 ++ etail gap ind R ts)) := by
        have := h1.next.skip.skip
        rw [show ((keyText k2).length : Int) = 3 from rfl] at this
        exact this.next
      have hl : ((RR ++ hvO RR.length t).set m (.list (xs ++ [.tup [.str [keyOf k0], hvV RR.length t]]))).length = RR.length + cnt t := by rw [List.length_set, List.length_append, hvO_len]
      refine read_Es L gap hg hg2 k (.cons k2 t2 ts) k2 t2 ts rfl d ind (colR gap) R _ P' Wt Kk _ m (xs ++ [.tup [.str [keyOf k0], hvV RR.length t]]) c x H2 ht.2 ?_ hu.2 hi hi2 hR (colR_bl gap) (colR_len gap) h4 h' (get_set (get_app hm)) hW hK hc ?_
      · rw [lenEs_1] at hx
        simp only [List.length_append, List.length_cons, List.length_nil]
        (first | lia | omega)
      · rw [hl, List.set_set, set_app hml]
        rw [hvEs_1, hvOe_1] at s
        simpa only [List.append_assoc, List.singleton_append] using s
end
open PySem
mutual
theorem nit_le : ∀ (t : T) (d : Nat), htT t d → nit t ≤ LB d
  | .skip, d, _ => Nat.le_trans (show nit .skip ≤ 200 from (by decide : (1 : Nat) ≤ 200)) (LB_ge d)
  | .num n, d, _ => Nat.le_trans (show nit (.num n) ≤ 200 from (by decide : (1 : Nat) ≤ 200)) (LB_ge d)
  | .str n, d, _ => Nat.le_trans (show nit (.str n) ≤ 200 from (by decide : (1 : Nat) ≤ 200)) (LB_ge d)
  | .tt, d, _ => Nat.le_trans (show nit .tt ≤ 200 from (by decide : (1 : Nat) ≤ 200)) (LB_ge d)
  | .nul, d, _ => Nat.le_trans (show nit .nul ≤ 200 from (by decide : (1 : Nat) ≤ 200)) (LB_ge d)
  | .arr ts, 0, h => h.elim
  | .obj ts, 0, h => h.elim
  | .arr ts, d + 1, h => by
    have a := nits_le ts d h.1
    have b : lenTs ts * LB d ≤ 3 * LB d := Nat.mul_le_mul_right _ h.2
    have := LB_ge d
    rw [nit_0, LB]; (first | lia | omega)
  | .obj ts, d + 1, h => by
    have a := nite_le ts d h.1
    have b : lenEs ts * LB d ≤ 3 * LB d := Nat.mul_le_mul_right _ h.2
    have := LB_ge d
    rw [nit_1, LB]; (first | lia | omega)
theorem nits_le : ∀ (t : Ts) (d : Nat), htTs t d → nits t ≤ lenTs t * LB d
  | .nil, d, _ => Nat.zero_le _
  | .cons t ts, d, h => by
    have a := nit_le t d h.1
    have b := nits_le ts d h.2
    rw [nits_1, lenTs_1, Nat.add_mul, Nat.one_mul]; (first | lia | omega)
theorem nite_le : ∀ (t : Es) (d : Nat), htEs t d → nite t ≤ lenEs t * LB d
  | .nil, d, _ => Nat.zero_le _
  | .cons k t ts, d, h => by
    have a := nit_le t d h.1
    have b := nite_le ts d h.2
    rw [nite_1, lenEs_1, Nat.add_mul, Nat.one_mul]; (first | lia | omega)
end
noncomputable def Seg (H : Hp) (n : Nat) (X : Hp) : Prop := ∀ i o, X[i]? = some o → H[n + i + 1 + 1 + 1]? = some o
theorem Seg.left {H : Hp} {n : Nat} {X Y : Hp} (h : Seg H n (X ++ Y)) : Seg H n X := fun i o e => h i o (get_app e)
theorem Seg.right {H : Hp} {n : Nat} {X Y : Hp} (h : Seg H n (X ++ Y)) : Seg H (n + X.length) Y := fun i o e => by
  have := h (X.length + i) o (by rw [List.getElem?_append_right (Nat.le_add_right _ _), Nat.add_sub_cancel_left]; exact e)
  rwa [← Nat.add_assoc] at this
theorem Seg.head {H : Hp} {n : Nat} {o : AO} {Y : Hp} (h : Seg H n (o :: Y)) : H[n + 1 + 1 + 1]? = some o := h 0 o rfl
theorem Seg.tail {H : Hp} {n : Nat} {o : AO} {Y : Hp} (h : Seg H n (o :: Y)) : Seg H (n + 1) Y := fun i o' e => by
  have := h (i + 1) o' e
  rwa [show n + (i + 1) = n + 1 + i by (first | lia | omega)] at this
theorem frz_ref {H : Hp} {n i : Nat} {vs a' : List V} (h : H[i]? = some (.list vs)) (ha : frzs H n vs = some a') : frz H (n + 1) (.ref i) = some (.lst a') := by
  show (match H[i]? with | some (.list vs) => (frzs H n vs).map V.lst | _ => none) = _
  rw [h]
  dsimp only
  rw [ha]; rfl
mutual
theorem frz_hv (H : Hp) : ∀ (t : T) (d m n : Nat), htT t d → Seg H n (hvO n t) → frz H (m + 12 * d + 4) (hvV n t) = some (vT t)
  | .skip, d, m, n, h, _ => frzT H .skip d m h
  | .num x, d, m, n, h, _ => frzT H (.num x) d m h
  | .str x, d, m, n, h, _ => frzT H (.str x) d m h
  | .tt, d, m, n, h, _ => frzT H .tt d m h
  | .nul, d, m, n, h, _ => frzT H .nul d m h
  | .arr ts, 0, m, n, h, _ => h.elim
  | .obj ts, 0, m, n, h, _ => h.elim
  | .arr ts, d + 1, m, n, h, s => by
    rw [hvO_0] at s
    have := frz_hvs H ts d (m + 12 * d + 12) (n + 1) h.1 s.tail (by have := h.2; (first | lia | omega))
    exact frz_tup2 (n := m + 12 * d + 13) (frz_leaf rfl) (frz_ref s.head this)
  | .obj ts, d + 1, m, n, h, s => by
    rw [hvO_1] at s
    have := frz_hve H ts d (m + 12 * d + 12) (n + 1) h.1 s.tail (by have := h.2; (first | lia | omega))
    exact frz_tup2 (n := m + 12 * d + 13) (frz_leaf rfl) (frz_ref s.head this)
theorem frz_hvs (H : Hp) : ∀ (t : Ts) (d q n : Nat), htTs t d → Seg H n (hvOs n t) → 12 * d + 4 + lenTs t ≤ q → frzs H q (hvVs n t) = some (vTs t)
  | .nil, _, _, _, _, _, _ => frzs_nil
  | .cons t ts, d, q, n, h, s, hn => by
    rw [lenTs_1] at hn
    obtain ⟨m, rfl⟩ : ∃ m, q = (m + 12 * d + 4) + 1 := ⟨q - (12 * d + 5), by (first | lia | omega)⟩
    rw [hvOs_1] at s
    have r := s.right
    rw [hvO_len] at r
    exact frzs_cons (frz_hv H t d m n h.1 s.left) (frz_hvs H ts d _ _ h.2 r (by (first | lia | omega)))
theorem frz_hve (H : Hp) : ∀ (t : Es) (d q n : Nat), htEs t d → Seg H n (hvOe n t) → 12 * d + 7 + lenEs t ≤ q → frzs H q (hvEs n t) = some (vEs t)
  | .nil, _, _, _, _, _, _ => frzs_nil
  | .cons k t ts, d, q, n, h, s, hn => by
    rw [lenEs_1] at hn
    obtain ⟨m, rfl⟩ : ∃ m, q = (m + 12 * d + 4) + 3 + 1 := ⟨q - (12 * d + 8), by (first | lia | omega)⟩
    rw [hvOe_1] at s
    have r := s.right
    rw [hvO_len] at r
    exact frzs_cons (frz_tup2 (frz_leaf rfl) (frz_hv H t d m n h.1 s.left)) (frz_hve H ts d _ _ h.2 r (by (first | lia | omega)))
end
theorem hvV_tup (n : Nat) (t : T) : ∃ l, hvV n t = .tup l := by
  cases t <;> exact ⟨_, rfl⟩
theorem whole_ok {L gap : List Nat} (hg : blanks gap = true) (hg2 : gap.length ≤ 2) (k : Nat) (u : T) (d : Nat) (hd : d ≤ 2) (ht : htT u d) (hu : toldT u = true) (hL : L = laidT gap [] u) (P' : Int) (hP : P' = L.length) (hb : L.length ≤ 100000) :
    rF RP (k + 8) true 78 [.obj 0] (rH L 0 [] [] []) = some (hvV 0 u, rH L P' [] [] (hvO 0 u)) := by
  have h0 : At L 0 ([] ++ (laidT gap [] u ++ [])) := ⟨Int.le_refl _, hb, by rw [hL]; simp, by (first | lia | omega)⟩
  have h1 : At L P' [] := ⟨by (first | lia | omega), hb, by rw [hP]; simp, by (first | lia | omega)⟩
  have w := read_T L gap hg hg2 k u d [] [] [] 0 P' [] [] [] 1 (hvV 0 u) (rH L P' [] [] (hvO 0 u)) ht hu rfl (by rw [List.length_nil]; (first | lia | omega)) rfl rfl (by decide) h0 h1 (by rw [List.length_nil]; (first | lia | omega)) (by rw [List.length_nil]; (first | lia | omega)) (by (first | lia | omega)) (by
    rw [List.nil_append, List.length_nil]
    exact Setl.base _ _ _ _ _ _)
  have hn := nit_le u d ht
  have hB := LB_le hd
  obtain ⟨l, el⟩ := hvV_tup 0 u
  obtain ⟨ρ', e1, e2, e3⟩ := w [(183, .obj 0), (129, .none)] (W - nit u) rfl rfl
  have hw : rex (cx (k + 7)) w_m_whole_1 [(183, .obj 0), (129, .none)] (rH L 0 [] [] []) = some (.next, ρ', rH L P' [] [] (hvO 0 u)) := by
    refine rex_whl ?_
    rw [show W - nit u + nit u = W by unfold W; (first | lia | omega)] at e3
    refine e3.trans ?_
    rw [show W - nit u = (W - nit u - 1) + 1 by unfold W; (first | lia | omega)]
    exact rwhile_end (tWh_false _ ρ' _ l (by rw [e2, el]))
  have sk := m_skip0 rfl h1 (k + 5) [] [] (hvO 0 u)
  refine rF_m (d := d_m_whole) rfl ?_
  simp only [d_m_whole, b_m_whole, hw, e1, e2, self_head, lk73, sk, List.take_nil, rrun, leq_0, cmp_ne, eqV_str, rbindP_0, rbindP_1, l_rev_0, l_rev_2, l_rev_7, l_rev_18, l_revs_0, l_revC_0, l_rex_1, l_rex_2, l_rex_5, l_rexs_0, l_rexs_1, rtgtA, rtgt, rup_0, rup_1, Nat.reduceBEq, eq_self, cx_call, cx_nm, rtruth_1, Option.map_some, Bool.not_true]
theorem ble0 : Nat.ble 100 0 = false := rfl
theorem ble1 : Nat.ble 100 1 = false := rfl
theorem ble2 : Nat.ble 100 2 = false := rfl
theorem ble3 : Nat.ble 100 3 = false := rfl
theorem new_ok (L : List Nat) (k : Nat) : rF RP (k + 1) false 71 [.str L] [] = some (.obj 0, rH L 0 [] [] []) := by
  refine rF_new (H := []) ?_
  simp only [d_m___init__, b_m___init__, rH, rd, up, attr_ne' (a := 7) (b := 6) (by simp), attr_ne' (a := 8) (b := 6) (by simp), attr_ne' (a := 8) (b := 7) (by simp), attr_ne' (a := 9) (b := 6) (by simp), attr_ne' (a := 9) (b := 7) (by simp), attr_ne' (a := 9) (b := 8) (by simp), ble0, ble1, ble2, ble3, cond_false, rrun, rbindP_0, rbindP_1, l_rev_0, l_rev_2, l_rev_10, l_revs_0, l_rex_2, l_rexs_0, l_rexs_1, attT, objV_0, insts, Option.bind_some, rtgtA, rtgt, rlk_1, Nat.reduceBEq, eq_self, cx_nm, List.cons_append, List.nil_append, List.length_cons, List.length_nil, List.getElem?_cons_zero, List.set_cons_zero, Nat.reduceAdd]
theorem read_ok {gap : List Nat} (hg : blanks gap = true) (hg2 : gap.length ≤ 2) (k : Nat) (u : T) (d : Nat) (hd : d ≤ 2) (ht : htT u d) (hu : toldT u = true) (H : Hp) :
    rF RP (k + 9) false 60 [.str (laidT gap [] u)] H = some (vT u, H) := by
  have hl := laidT_len gap hg2 u d [] (by rw [List.length_nil]; (first | lia | omega)) ht
  have hB := LB_le hd
  have w := whole_ok hg hg2 k u d hd ht hu rfl _ rfl (by (first | lia | omega))
  have n := new_ok (laidT gap [] u) (k + 7)
  refine rF_fn (d := d_read_json) rfl rfl rfl (v := hvV 0 u) (H' := rH (laidT gap [] u) ((laidT gap [] u).length : Int) [] [] (hvO 0 u)) ?_ ?_
  · simp only [d_read_json, b_read_json, n, self_head, lk78, w, rrun, rbindP_0, rbindP_1, l_rev_2, l_rev_17, l_rev_18, l_revs_0, l_revs_1, l_rex_1, l_rexs_1, rlk_1, Nat.reduceBEq, eq_self, cx_call, cx_nm]
  · have := frz_hv (rH (laidT gap [] u) ((laidT gap [] u).length : Int) [] [] (hvO 0 u)) u d (96 - 12 * d) 0 ht (fun i o e => by
      rw [Nat.zero_add]
      exact e)
    rwa [show 96 - 12 * d + 12 * d + 4 = 100 by (first | lia | omega)] at this
mutual
theorem prT_told : ∀ t : T, toldT (prT t) = true
  | .skip => rfl
  | .num n => by
    have : n = 0 ∨ n = 1 ∨ n = 2 ∨ n = 3 ∨ n = 4 ∨ n = 5 := by (first | lia | omega)
    rcases this with rfl | rfl | rfl | rfl | rfl | rfl <;> rfl
  | .str n => rfl
  | .tt => rfl
  | .nul => rfl
  | .arr ts => by rw [prT, toldT_2, prTs_told ts]
  | .obj ts => by rw [prT, toldT_3, prEs_told ts]
theorem prTs_told : ∀ t : Ts, toldTs (prTs t) = true
  | .nil => rfl
  | .cons t ts => by rw [prTs, toldTs_1, prT_told t, prTs_told ts]; rfl
theorem prEs_told : ∀ t : Es, toldEs (prEs t) = true
  | .nil => rfl
  | .cons k t ts => by
    rw [prEs]
    cases isSkip t
    · dsimp only
      rw [toldEs_1, prT_told t, prEs_told ts]; rfl
    · exact prEs_told ts
end
theorem prT_noskip (t : T) : isSkip (prT t) = false := by
  cases h : prT t with
  | skip => have := prT_told t; rw [h] at this; first | exact Mine.nos this | exact Mine.ff0 this | exact Mine.tf0 this | exact Mine.sn0 this | cases this
  | _ => rfl
mutual
theorem laid_pr (gap : List Nat) : ∀ (t : T) (ind : List Nat), laidT gap ind (prT t) = laidT gap ind t
  | .skip, ind => rfl
  | .num n, ind => by
    have : n = 0 ∨ n = 1 ∨ n = 2 ∨ n = 3 ∨ n = 4 ∨ n = 5 := by (first | lia | omega)
    rcases this with rfl | rfl | rfl | rfl | rfl | rfl <;> rfl
  | .str n, ind => rfl
  | .tt, ind => rfl
  | .nul, ind => rfl
  | .arr ts, ind => by rw [prT, laidT_5, laidT_5, laids_pr gap ts]
  | .obj ts, ind => by rw [prT, laidT_6, laidT_6, laide_pr gap ts]
theorem laids_pr (gap : List Nat) : ∀ (t : Ts) (ind : List Nat), laidTs gap ind (prTs t) = laidTs gap ind t
  | .nil, ind => rfl
  | .cons t ts, ind => by rw [prTs, laidTs_1, laidTs_1, laid_pr gap t, laids_pr gap ts]
theorem laide_pr (gap : List Nat) : ∀ (t : Es) (ind : List Nat), laidEs gap ind (prEs t) = laidEs gap ind t
  | .nil, ind => rfl
  | .cons k t ts, ind => by
    rw [prEs, laidEs_1]
    cases isSkip t
    · dsimp only
      rw [laidEs_1, prT_noskip]
      dsimp only
      rw [laid_pr gap t, laide_pr gap ts]
    · exact laide_pr gap ts ind
end
theorem read_shown {gap : List Nat} (hg : blanks gap = true) (hg2 : gap.length ≤ 2) (k : Nat) (t : T) (d : Nat) (hd : d ≤ 2) (ht : htT t d) (H : Hp) :
    rF RP (k + 9) false 60 [.str (laidT gap [] t)] H = some (vT (prT t), H) := by
  rw [← laid_pr gap t]
  exact read_ok hg hg2 k (prT t) d hd (prT_ht t d ht) (prT_told t) H
noncomputable def shownV (gap : List Nat) (t : T) : V := match isSkip t with
  | true => .none
  | false => .str (laidT gap [] t)
theorem show_ok {gap : List Nat} (hg2 : gap.length ≤ 2) (k : Nat) (t : T) (d : Nat) (hd : d ≤ 2) (ht : htT t d) (H : Hp) :
    rF RP (k + d + 8) false 39 [vT t, .str gap] H = some (shownV gap t, H) := by
  have a := laid_ok gap hg2 t d k [] [] hd (by rw [List.length_nil]; (first | lia | omega)) ht
  have ls := leq_skip t
  refine rF_fn (d := d_show_json) rfl rfl (by simp only [vpures_0, vpures_1, vpure_3, vT_pure]) (v := shownV gap t) (H' := []) ?_ (by unfold shownV; split <;> rfl)
  rw [vT_eq t] at a ⊢
  unfold shownV
  cases hs : isSkip t
  · rw [hs] at ls
    simp only [d_show_json, b_show_json, a, ls, rrun, cmp_eq, eqV_str, rbindP_0, rbindP_1, l_rev_0, l_rev_2, l_rev_7, l_rev_15, l_rev_17, l_revs_0, l_revs_1, l_revC_0, l_rex_1, l_rex_5, l_rexs_0, l_rexs_1, rlk_1, Nat.reduceBEq, eq_self, sub_tup, nth_0, cx_call, rtruth_1]
  · rw [hs] at ls
    simp only [d_show_json, b_show_json, ls, rrun, cmp_eq, eqV_str, rbindP_0, rbindP_1, l_rev_0, l_rev_2, l_rev_7, l_rev_15, l_revC_0, l_rex_1, l_rex_5, l_rexs_1, rlk_1, Nat.reduceBEq, eq_self, sub_tup, nth_0, rtruth_1]
open PySem
/-- flat lists, compared -/
noncomputable def oV : Option (List Nat) → V
  | none => .none
  | some l => .str l
noncomputable def dO : Option (List Nat) → PyData
  | none => .none
  | some l => dS l
noncomputable def okO : List (Option (List Nat)) → Bool
  | [] => true
  | none :: r => okO r
  | some l :: r => l.all (fun c => decide (c < 0x110000)) && okO r
theorem okO_2 (l : List Nat) (r : List (Option (List Nat))) : okO (some l :: r) = ((l.all fun c => decide (c < 1114112)) && okO r) := rfl
theorem frz_o (H : Hp) : ∀ (xs : List (Option (List Nat))) (n : Nat), xs.length ≤ n → frzs H n (xs.map oV) = some (xs.map oV)
  | [], n, _ => frzs_nil
  | x :: xs, n, h => by
    obtain ⟨m, rfl⟩ : ∃ m, n = m + 1 := ⟨n - 1, by rw [List.length_cons] at h; (first | lia | omega)⟩
    exact frzs_cons (frz_leaf (by cases x <;> rfl)) (frz_o H xs m (by rw [List.length_cons] at h; (first | lia | omega)))
theorem vdata_o : ∀ xs : List (Option (List Nat)), vdatas (xs.map oV) = some (xs.map dO)
  | [] => rfl
  | none :: xs => by
    rw [List.map_cons, List.map_cons]
    show (match vdata (oV none) with | some d => (vdatas (xs.map oV)).map (d :: ·) | none => none) = _
    rw [vdata_o xs]; rfl
  | some l :: xs => by
    rw [List.map_cons, List.map_cons]
    show (match vdata (oV (some l)) with | some d => (vdatas (xs.map oV)).map (d :: ·) | none => none) = _
    rw [vdata_o xs]; rfl
theorem dS_can {l : List Nat} (h : l.all (fun c => decide (c < 0x110000)) = true) : (dS l).canLay0 = true := by
  rw [dS, PyData.canLay0]
  simpa [PyData.strOk] using h
theorem can_o : ∀ xs : List (Option (List Nat)), okO xs = true → PyData.canLayAll0 (xs.map dO) = true
  | [], _ => rfl
  | none :: xs, h => by
    rw [List.map_cons, PyData.canLayAll0, can_o xs h]; rfl
  | some l :: xs, h => by
    rw [okO_2, Bool.and_eq_true] at h
    rw [List.map_cons, PyData.canLayAll0, can_o xs h.2, dO, dS_can h.1]; rfl
theorem dep_o : ∀ xs : List (Option (List Nat)), PyData.depthAll (xs.map dO) = 0
  | [] => rfl
  | none :: xs => by rw [List.map_cons, PyData.depthAll, dep_o xs]; rfl
  | some l :: xs => by rw [List.map_cons, PyData.depthAll, dep_o xs, dO, dS_depth]; rfl
theorem shaped_o (xs : List (Option (List Nat))) (h : okO xs = true) : shapedOk (.list (xs.map dO)) = true := by
  unfold shapedOk SeqAt.shaped
  rw [PyData.canLay0, can_o xs h, PyData.depth, dep_o]; rfl
theorem eqV_lst {H : Hp} {a b : List V} {x y : PyData} (ha : (frz H 64 (.lst a)).bind vdata = some x) (hb : (frz H 64 (.lst b)).bind vdata = some y) (hx : shapedOk x = true) (hy : shapedOk y = true) : eqV H (.lst a) (.lst b) = some (PyData.eqv x y) := by
  show (match (frz H 64 (.lst a)).bind vdata, (frz H 64 (.lst b)).bind vdata with
    | some x, some y => match shapedOk x && shapedOk y with
      | true => some (PyData.eqv x y)
      | false => none
    | _, _ => none) = _
  rw [ha, hb]
  dsimp only
  rw [hx, hy]
  rfl
theorem frzd_o (H : Hp) (xs : List (Option (List Nat))) (h : xs.length ≤ 60) : (frz H 64 (.lst (xs.map oV))).bind vdata = some (.list (xs.map dO)) := by
  rw [frz_lst (n := 63) (frz_o H xs 63 (by (first | lia | omega))), Option.bind_some]
  show (vdatas (xs.map oV)).map _ = _
  rw [vdata_o]; rfl
theorem eqV_o (H : Hp) (xs ys : List (Option (List Nat))) (h : xs.length ≤ 60) (h' : ys.length ≤ 60) (hx : okO xs = true) (hy : okO ys = true) :
    eqV H (.lst (xs.map oV)) (.lst (ys.map oV)) = some (PyData.eqv (.list (xs.map dO)) (.list (ys.map dO))) :=
  eqV_lst (frzd_o H xs h) (frzd_o H ys h') (shaped_o xs hx) (shaped_o ys hy)
theorem eqV_oo (H : Hp) (xs : List (Option (List Nat))) (h : xs.length ≤ 60) (hx : okO xs = true) : eqV H (.lst (xs.map oV)) (.lst (xs.map oV)) = some true := by
  rw [eqV_o H xs xs h h hx hx, SeqAt.eqv_refl]
  rw [PyData.canLay0]; exact can_o xs hx
theorem eqV_nil (H : Hp) (xs : List (Option (List Nat))) (h : xs.length ≤ 60) (hx : okO xs = true) : eqV H (.lst (xs.map oV)) (.lst []) = some xs.isEmpty := by
  have := eqV_o H xs [] h (by decide) hx rfl
  rw [List.map_nil] at this
  rw [this]
  cases xs with
  | nil => rfl
  | cons x xs => rfl
theorem compF_filter {f : V → Hp → Option (Option V × Hp)} {g : Nat → V} {p : Nat → Bool} {H : Hp} : ∀ {w : List Nat}, (∀ c ∈ w, f (g c) H = some (bif p c then some (g c) else none, H)) → compF f (w.map g) H = some ((w.filter p).map g, H)
  | [], _ => rfl
  | c :: w, h => by
    have e := h c List.mem_cons_self
    have ih := compF_filter (w := w) fun c hc => h c (List.mem_cons_of_mem _ hc)
    rw [List.map_cons, compF_1, e]
    cases hp : p c
    · rw [List.filter_cons_of_neg (by rw [hp]; decide)]
      exact ih
    · rw [List.filter_cons_of_pos hp]
      dsimp only [cond_true]
      rw [ih]
      rfl

noncomputable def menuW : List Nat := [97, 90, 36, 95, 55, 233, 20013, 769, 8205, 32, 45]
noncomputable def plainW : List Nat := [65, 66, 67, 68, 69, 70, 71, 72, 73, 74, 75, 76, 77, 78, 79, 80, 81, 82, 83, 84, 85, 86, 87, 88, 89, 90, 97, 98, 99, 100, 101, 102, 103, 104, 105, 106, 107, 108, 109, 110, 111, 112, 113, 114, 115, 116, 117, 118, 119, 120, 121, 122, 48, 49, 50, 51, 52, 53, 54, 55, 56, 57, 36, 95, 233, 20013]
noncomputable def digW : List Nat := [48, 49, 50, 51, 52, 53, 54, 55, 56, 57]
noncomputable def partW (c : Nat) : Bool := memN c (plainW ++ [769, 8205])
noncomputable def startW (c : Nat) : Bool := !memN c digW && memN c plainW
theorem start_all (k : Nat) : menuW.all (fun c => okV (rF RP (k + 2) false 43 [.int (Int.ofNat c)] []) (.bool (startW c))) = true := by kernel_rfl
theorem part_all (k : Nat) : menuW.all (fun c => okV (rF RP (k + 3) false 44 [.int (Int.ofNat c)] []) (.bool (partW c))) = true := by kernel_rfl
theorem start_ok {c : Nat} (h : c ∈ menuW) (k : Nat) (H : Hp) : rF RP (k + 2) false 43 [.int (Int.ofNat c)] H = some (.bool (startW c), H) :=
  rF_closed rfl rfl (List.all_eq_true.mp (start_all _) c h) H
theorem part_ok {c : Nat} (h : c ∈ menuW) (k : Nat) (H : Hp) : rF RP (k + 3) false 44 [.int (Int.ofNat c)] H = some (.bool (partW c), H) :=
  rF_closed rfl rfl (List.all_eq_true.mp (part_all _) c h) H
noncomputable def sC (c : Nat) : V := .str [c]
theorem name_loop (k : Nat) (H : Hp) : ∀ (w : List Nat) (ρ : Env), (∀ c ∈ w, c ∈ menuW) → ∃ ρ', rforF (forB (cx (k + 3)) (.one (.name 116)) fb_is_name_0) (w.map sC) ρ H = (bif w.all partW then some (.next, ρ', H) else some (.ret (.bool false), ρ', H))
  | [], ρ, _ => ⟨ρ, rfl⟩
  | c :: w, ρ, h => by
    have p := fun H => part_ok (h c List.mem_cons_self) k H
    obtain ⟨ρ2, e⟩ := name_loop k H w (rup 116 (.str [c]) ρ) fun c hc => h c (List.mem_cons_of_mem _ hc)
    have b : forB (cx (k + 3)) (.one (.name 116)) fb_is_name_0 (sC c) ρ H = bif partW c then some (.next, rup 116 (.str [c]) ρ, H) else some (.ret (.bool false), rup 116 (.str [c]) ρ, H) := by
      cases hc : partW c
      · rw [hc] at p
        simp only [forB, fb_is_name_0, sC, p, cond_false, rlk_rup, reduceIte, l_rev_0, l_rev_2, l_rev_5, l_rev_16, l_rev_17, l_revs_0, l_revs_1, l_rex_1, l_rex_5, l_rexs_1, rtgtA, rtgt, eq_self, rblt_ord, bOrd, cx_call, rtruth_1, one, Option.map_some, Bool.not_false]
      · rw [hc] at p
        simp only [forB, fb_is_name_0, sC, p, cond_true, rlk_rup, reduceIte, l_rev_2, l_rev_5, l_rev_16, l_rev_17, l_revs_0, l_revs_1, l_rex_5, l_rexs_0, l_rexs_1, rtgtA, rtgt, eq_self, rblt_ord, bOrd, cx_call, rtruth_1, one, Option.map_some, Bool.not_true]
    rw [List.map_cons, rforF_1, b, List.all_cons]
    cases hc : partW c
    · exact ⟨_, rfl⟩
    · exact ⟨ρ2, e⟩
noncomputable def nameL : List Nat → Bool
  | [] => false
  | c :: w => startW c && (c :: w).all partW
theorem is_name_ok (k : Nat) (w : List Nat) (hw : ∀ c ∈ w, c ∈ menuW) (hl : w.length ≤ 100) (H : Hp) : rF RP (k + 4) false 45 [.str w] H = some (.bool (nameL w), H) := by
  refine rF_fn (d := d_is_name) rfl rfl rfl (v := .bool (nameL w)) (H' := []) ?_ rfl
  cases w with
  | nil => simp only [d_is_name, b_is_name, nameL, rrun, leq_0, cmp_eq, eqV_str, rbindP_0, rbindP_1, l_rev_0, l_rev_2, l_rev_6, l_rev_7, l_revC_0, l_rex_1, l_rex_5, l_rexs_1, rlk_1, Nat.reduceBEq, eq_self, rtruth_1]
  | cons c w =>
    have hs : ∀ H, sub H (.str (c :: w)) (.int 0) = some (.str [c]) := fun H => sub_str (by decide) (by decide) rfl
    have st := fun H => start_ok (hw c List.mem_cons_self) (k + 1) H
    obtain ⟨ρ', e⟩ := name_loop k [] (c :: w) [(6, .str (c :: w))] hw
    have hf : rex (cx (k + 3)) f_is_name_1 [(6, .str (c :: w))] [] = (bif (c :: w).all partW then some (.next, ρ', []) else some (.ret (.bool false), ρ', [])) := by
      have : ∀ r : Option (Fl × Env × Hp), rforF (forB (cx (k + 3)) (.one (.name 116)) fb_is_name_0) ((c :: w).map sC) [(6, .str (c :: w))] [] = r → rex (cx (k + 3)) f_is_name_1 [(6, .str (c :: w))] [] = r := fun r h => by
        cases r with
        | none =>
          rw [e] at h
          cases hq : (c :: w).all partW <;> rw [hq] at h <;> cases h
        | some r => exact rex_for (src := .str (c :: w)) (by simp only [l_rev_2, rlk_1, Nat.reduceBEq, eq_self]) rfl h
      exact this _ e
    have hn : nameL (c :: w) = (startW c && (c :: w).all partW) := rfl
    rw [hn]
    cases h1 : startW c
    · rw [h1] at st
      simp only [d_is_name, b_is_name, hs, st, rrun, leq_3, cmp_eq, eqV_str, rbindP_0, rbindP_1, l_rev_0, l_rev_2, l_rev_5, l_rev_6, l_rev_7, l_rev_15, l_rev_16, l_rev_17, l_revs_0, l_revs_1, l_revC_0, l_rex_1, l_rex_5, l_rexs_1, rlk_1, Nat.reduceBEq, eq_self, rblt_ord, bOrd, cx_call, rtruth_1, one, Option.map_some, Bool.not_false, Bool.false_and]
    · rw [h1] at st
      cases h2 : (c :: w).all partW
      · rw [h2] at hf
        simp only [cond_false] at hf
        simp only [d_is_name, b_is_name, hs, st, hf, rrun, leq_3, cmp_eq, eqV_str, rbindP_0, rbindP_1, l_rev_0, l_rev_2, l_rev_5, l_rev_6, l_rev_7, l_rev_15, l_rev_16, l_rev_17, l_revs_0, l_revs_1, l_revC_0, l_rex_5, l_rexs_0, l_rexs_1, rlk_1, Nat.reduceBEq, eq_self, rblt_ord, bOrd, cx_call, rtruth_1, one, Option.map_some, Bool.not_true, Bool.and_false]
      · rw [h2] at hf
        simp only [cond_true] at hf
        simp only [d_is_name, b_is_name, hs, st, hf, rrun, leq_3, cmp_eq, eqV_str, rbindP_0, rbindP_1, l_rev_0, l_rev_2, l_rev_5, l_rev_6, l_rev_7, l_rev_15, l_rev_16, l_rev_17, l_revs_0, l_revs_1, l_revC_0, l_rex_1, l_rex_5, l_rexs_0, l_rexs_1, rlk_1, Nat.reduceBEq, eq_self, rblt_ord, bOrd, cx_call, rtruth_1, one, Option.map_some, Bool.not_true, Bool.and_self]
theorem menu_small : menuW.all (fun c => decide (c < 0x110000)) = true := by decide
theorem okO_menu : ∀ (w : List Nat), (∀ c ∈ w, c ∈ menuW) → okO (w.map fun c => some [c]) = true
  | [], _ => rfl
  | c :: w, h => by
    have a := List.all_eq_true.mp menu_small c (h c List.mem_cons_self)
    rw [List.map_cons, okO_2, okO_menu w fun c hc => h c (List.mem_cons_of_mem _ hc)]
    simp only [List.all_cons, List.all_nil, a, Bool.and_true]
theorem filter_all {p : Nat → Bool} : ∀ w : List Nat, (w.filter fun c => !p c).isEmpty = w.all p
  | [] => rfl
  | c :: w => by
    rw [List.all_cons, List.filter_cons]
    cases h : p c
    · rfl
    · exact filter_all w
theorem law_name_ok (k : Nat) (w : List Nat) (hw : ∀ c ∈ w, c ∈ menuW) (hl : w.length ≤ 50) (H : Hp) : rF RP (k + 1) false 67 [.str w] H = some (.bool (nameL w), H) := by
  refine rF_fn (d := d__law_is_name) rfl rfl rfl (v := .bool (nameL w)) (H' := []) ?_ rfl
  cases w with
  | nil => simp only [d__law_is_name, b__law_is_name, nameL, rrun, leq_0, cmp_eq, eqV_str, rbindP_0, rbindP_1, l_rev_0, l_rev_2, l_rev_6, l_rev_7, l_revC_0, l_rex_1, l_rex_5, l_rexs_1, rlk_1, Nat.reduceBEq, eq_self, rtruth_1]
  | cons c w =>
    have hs : ∀ H, sub H (.str (c :: w)) (.int 0) = some (.str [c]) := fun H => sub_str (by decide) (by decide) rfl
    have cc : rev (cx k) c__law_is_name_0 [(6, .str (c :: w)), (175, .str plainW)] [] = some (.lst (((c :: w).filter fun c => !partW c).map sC), []) := by
      refine rev_comp (src := .str (c :: w)) (vs := (c :: w).map sC) (by simp only [l_rev_2, rlk_1, Nat.reduceBEq, eq_self]) rfl (compF_filter fun x hx => ?_)
      have hpl : binop .Add [] (.str plainW) (.str [769, 8205]) = some (.str (plainW ++ [769, 8205])) := binop_add _ _ _ (by decide)
      cases hp : partW x
      · have hp' : memN x (plainW ++ [769, 8205]) = false := hp
        generalize hg : plainW ++ [769, 8205] = g at hp' hpl
        simp only [compB, sC, hpl, hp', cond_true, cmp_nin, inV_ss, l_rev_0, l_rev_2, l_rev_3, l_rev_7, l_revC_0, rlk_1, Nat.reduceBEq, eq_self, rtruth_1, rbind_0, one, List.cons_append, List.nil_append, Option.map_some, Bool.not_false]
      · have hp' : memN x (plainW ++ [769, 8205]) = true := hp
        generalize hg : plainW ++ [769, 8205] = g at hp' hpl
        simp only [compB, sC, hpl, hp', cond_false, cmp_nin, inV_ss, l_rev_0, l_rev_2, l_rev_3, l_rev_7, l_revC_0, rlk_1, Nat.reduceBEq, eq_self, rtruth_1, rbind_0, one, List.cons_append, List.nil_append, Option.map_some, Bool.not_true]
    have hm : ((c :: w).filter fun c => !partW c).map sC = (((c :: w).filter fun c => !partW c).map fun c => some [c]).map oV := by
      rw [List.map_map]; rfl
    have he : ∀ H, eqV H (.lst (((c :: w).filter fun c => !partW c).map sC)) (.lst []) = some ((c :: w).all partW) := fun H => by
      rw [hm, eqV_nil H _ (by rw [List.length_map]; exact Nat.le_trans (List.length_filter_le _ _) (by (first | lia | omega))) (okO_menu _ fun x hx => hw x ((List.mem_filter.mp hx).1))]
      rw [List.isEmpty_map, filter_all]
    have hn : nameL (c :: w) = ((!memN c digW && memN c plainW) && (c :: w).all partW) := rfl
    rw [hn]
    unfold digW
    generalize hA : (c :: w).filter (fun c => !partW c) = A at cc he
    generalize hB : (c :: w).all partW = B at he
    have hpw : plainW = [65, 66, 67, 68, 69, 70, 71, 72, 73, 74, 75, 76, 77, 78, 79, 80, 81, 82, 83, 84, 85, 86, 87, 88, 89, 90, 97, 98, 99, 100, 101, 102, 103, 104, 105, 106, 107, 108, 109, 110, 111, 112, 113, 114, 115, 116, 117, 118, 119, 120, 121, 122, 48, 49, 50, 51, 52, 53, 54, 55, 56, 57, 36, 95, 233, 20013] := rfl
    rw [hpw] at cc ⊢
    cases h1 : memN c [48, 49, 50, 51, 52, 53, 54, 55, 56, 57]
    · cases h2 : memN c [65, 66, 67, 68, 69, 70, 71, 72, 73, 74, 75, 76, 77, 78, 79, 80, 81, 82, 83, 84, 85, 86, 87, 88, 89, 90, 97, 98, 99, 100, 101, 102, 103, 104, 105, 106, 107, 108, 109, 110, 111, 112, 113, 114, 115, 116, 117, 118, 119, 120, 121, 122, 48, 49, 50, 51, 52, 53, 54, 55, 56, 57, 36, 95, 233, 20013]
      · simp only [d__law_is_name, b__law_is_name, hs, h1, h2, rrun, leq_3, cmp_eq, cmp_in, eqV_str, inV_ss, rbindP_0, rbindP_1, l_rev_0, l_rev_2, l_rev_6, l_rev_7, l_rev_15, l_revC_0, l_rex_1, l_rex_2, l_rex_5, l_rexs_0, l_rexs_1, rtgtA, rtgt, rlk_1, rup_0, rup_1, Nat.reduceBEq, eq_self, rtruth_1, one, Option.map_some, Bool.not_false, Bool.and_false, Bool.false_and]
      · simp only [d__law_is_name, b__law_is_name, hs, h1, h2, cc, he, rrun, leq_3, cmp_eq, cmp_in, eqV_str, inV_ss, rbindP_0, rbindP_1, l_rev_0, l_rev_2, l_rev_6, l_rev_7, l_rev_11, l_rev_15, l_revs_0, l_revC_0, l_rex_1, l_rex_2, l_rex_5, l_rexs_0, l_rexs_1, rtgtA, rtgt, rlk_1, rup_0, rup_1, Nat.reduceBEq, eq_self, rtruth_1, one, Option.map_some, Bool.not_false, Bool.true_and, Bool.and_self]
    · simp only [d__law_is_name, b__law_is_name, hs, h1, rrun, leq_3, cmp_eq, cmp_in, eqV_str, inV_ss, rbindP_0, rbindP_1, l_rev_0, l_rev_2, l_rev_6, l_rev_7, l_rev_15, l_revC_0, l_rex_1, l_rex_5, l_rexs_1, rlk_1, Nat.reduceBEq, eq_self, rtruth_1, one, Option.map_some, Bool.not_true, Bool.false_and]
open PySem
noncomputable def unS : V → List Nat
  | .str l => l
  | _ => []
noncomputable def PTe : List (List Nat × V) := match g_PUNCT_TABLE with
  | .dct es => es
  | _ => []
theorem gl107 (k : Nat) : (cx k).glb 107 = .dct PTe := rfl
noncomputable def pT : List Nat := unS g__law_puncts
noncomputable def lT : List Nat := unS g__law_long
theorem gl111 (k : Nat) : (cx k).glb 111 = .str pT := rfl
theorem gl112 (k : Nat) : (cx k).glb 112 = .str lT := rfl
noncomputable def splitTo (t : List Nat) (ws : List (List Nat)) : Bool := match sSplit t (.str [32]) with
  | some v => veq v (.lst (ws.map sV))
  | none => false
theorem splitTo_ok {t : List Nat} {ws : List (List Nat)} (h : splitTo t ws = true) (H : Hp) : rstrM 2 H t [.str [32]] = some (.lst (ws.map sV)) := by
  show sSplit t (.str [32]) = _
  unfold splitTo at h
  split at h
  · rename_i v e
    rw [e, veq_ok _ _ h]
  · first | exact Mine.nos h | exact Mine.ff0 h | exact Mine.tf0 h | exact Mine.sn0 h | cases h
noncomputable def kwT : List Nat := (pT ++ [32]) ++ lT
noncomputable def knownL : List (List Nat) := [[123], [125], [40], [41], [91], [93], [46], [59], [44], [60], [62], [60, 61], [62, 61], [61, 61], [33, 61],
  [61, 61, 61], [33, 61, 61], [43], [45], [42], [47], [37], [43, 43], [45, 45], [60, 60], [62, 62], [62, 62, 62], [38],
  [124], [94], [33], [126], [38, 38], [124, 124], [63], [58], [61], [43, 61], [45, 61], [42, 61], [47, 61], [37, 61],
  [60, 60, 61], [62, 62, 61], [62, 62, 62, 61], [38, 61], [124, 61], [94, 61]]
theorem kw_split : splitTo kwT knownL = true := by decide +kernel
theorem pT_len : pT.length ≤ 200 := by decide +kernel
theorem lT_len : lT.length ≤ 200 := by decide +kernel
noncomputable def inP (x : List Nat) : Bool := (dlk x PTe).isSome
theorem kn_in : knownL.all inP = true := by decide +kernel
theorem kn_len : knownL.all (fun w => Nat.ble 1 w.length && Nat.ble w.length 4) = true := by decide +kernel
theorem kn_size : knownL.length ≤ 60 := by decide +kernel
theorem kn_ok : okO (knownL.map some) = true := by decide +kernel
theorem in_kn : PTe.all (fun e => memStr e.1 knownL) = true := by decide +kernel
theorem memStr_mem {x : List Nat} : ∀ {l : List (List Nat)}, memStr x l = true → x ∈ l
  | y :: r, h => by
    rw [memStr_1] at h
    split at h
    · rename_i q; rw [leq_iff.mp q]; exact List.mem_cons_self
    · exact List.mem_cons_of_mem _ (memStr_mem h)
theorem dlk_mem {x : List Nat} : ∀ {l : List (List Nat × V)}, (dlk x l).isSome = true → ∃ e ∈ l, e.1 = x
  | p :: r, h => by
    rw [dlk_1] at h
    split at h
    · rename_i q; exact ⟨p, List.mem_cons_self, (leq_iff.mp q).symm⟩
    · obtain ⟨e, a, b⟩ := dlk_mem h
      exact ⟨e, List.mem_cons_of_mem _ a, b⟩
theorem inP_kn {x : List Nat} (h : inP x = true) : x ∈ knownL := by
  obtain ⟨e, a, rfl⟩ := dlk_mem h
  exact memStr_mem (List.all_eq_true.mp in_kn e a)
theorem kn_inP {x : List Nat} (h : x ∈ knownL) : inP x = true := List.all_eq_true.mp kn_in x h
theorem kn_lens {x : List Nat} (h : x ∈ knownL) : 1 ≤ x.length ∧ x.length ≤ 4 := by
  have := List.all_eq_true.mp kn_len x h
  rw [Bool.and_eq_true] at this
  exact ⟨Nat.le_of_ble_eq_true this.1, Nat.le_of_ble_eq_true this.2⟩

noncomputable def punctL (R : List Nat) : Option (List Nat) :=
  bif inP (R.take 4) then some (R.take 4) else bif inP (R.take 3) then some (R.take 3) else bif inP (R.take 2) then some (R.take 2) else bif inP (R.take 1) then some (R.take 1) else none
noncomputable def mat (R : List Nat) : List (List Nat) := knownL.filter fun w => leq (R.take w.length) w
theorem mat_mem {R w : List Nat} : w ∈ mat R ↔ w ∈ knownL ∧ R.take w.length = w := by
  unfold mat
  rw [List.mem_filter, leq_iff]
theorem take_len {R p : List Nat} {s : Nat} (h : p = R.take s) : R.take p.length = p := by
  subst h
  rw [List.length_take]
  by_cases q : s ≤ R.length
  · rw [Nat.min_eq_left q]
  · rw [Nat.min_eq_right (by (first | lia | omega)), List.take_length, List.take_of_length_le (by (first | lia | omega))]
theorem punct_cases (R : List Nat) : (punctL R = none ∧ ∀ s, 1 ≤ s → s ≤ 4 → inP (R.take s) = false) ∨
    ∃ s, 1 ≤ s ∧ s ≤ 4 ∧ punctL R = some (R.take s) ∧ inP (R.take s) = true ∧ ∀ q, s < q → q ≤ 4 → inP (R.take q) = false := by
  unfold punctL
  cases h4 : inP (R.take 4)
  · cases h3 : inP (R.take 3)
    · cases h2 : inP (R.take 2)
      · cases h1 : inP (R.take 1)
        · refine .inl ⟨rfl, fun s a b => ?_⟩
          have : s = 1 ∨ s = 2 ∨ s = 3 ∨ s = 4 := by (first | lia | omega)
          rcases this with rfl | rfl | rfl | rfl <;> assumption
        · refine .inr ⟨1, by (first | lia | omega), by (first | lia | omega), rfl, h1, fun q a b => ?_⟩
          have : q = 2 ∨ q = 3 ∨ q = 4 := by (first | lia | omega)
          rcases this with rfl | rfl | rfl <;> assumption
      · refine .inr ⟨2, by (first | lia | omega), by (first | lia | omega), rfl, h2, fun q a b => ?_⟩
        have : q = 3 ∨ q = 4 := by (first | lia | omega)
        rcases this with rfl | rfl <;> assumption
    · refine .inr ⟨3, by (first | lia | omega), by (first | lia | omega), rfl, h3, fun q a b => ?_⟩
      have : q = 4 := by (first | lia | omega)
      subst this; assumption
  · exact .inr ⟨4, by (first | lia | omega), by (first | lia | omega), rfl, h4, fun q a b => by (first | lia | omega)⟩
theorem mat_none {R : List Nat} (h : punctL R = none) : mat R = [] := by
  rcases punct_cases R with ⟨_, a⟩ | ⟨s, _, _, e, _⟩
  · rw [List.eq_nil_iff_forall_not_mem]
    intro w hw
    obtain ⟨b, c⟩ := mat_mem.mp hw
    have := kn_lens b
    have d := a w.length this.1 this.2
    rw [c, kn_inP b] at d
    cases d
  · rw [h] at e; first | exact Mine.nos e | exact Mine.ff0 e | exact Mine.tf0 e | exact Mine.sn0 e | cases e
theorem mat_some {R p : List Nat} (h : punctL R = some p) : p ∈ mat R ∧ R.take p.length = p ∧ 1 ≤ p.length ∧ p.length ≤ 4 ∧ ∀ w ∈ mat R, w.length ≤ p.length := by
  rcases punct_cases R with ⟨a, _⟩ | ⟨s, s1, s4, e, a, b⟩
  · rw [h] at a; first | exact Mine.nos a | exact Mine.ff0 a | exact Mine.tf0 a | exact Mine.sn0 a | cases a
  · rw [h] at e
    cases e
    have kp := inP_kn a
    have tl := take_len (R := R) (s := s) rfl
    refine ⟨mat_mem.mpr ⟨kp, tl⟩, tl, (kn_lens kp).1, (kn_lens kp).2, fun w hw => ?_⟩
    obtain ⟨c, d⟩ := mat_mem.mp hw
    have hl := kn_lens c
    rcases Nat.lt_or_ge s w.length with q | q
    · have := b w.length q hl.2
      rw [d, kn_inP c] at this
      cases this
    · have : w.length ≤ R.length := by rw [← d, List.length_take]; (first | lia | omega)
      rw [List.length_take]; (first | lia | omega)
theorem maxI_spec : ∀ (r : List Int) (m n : Int), m ≤ n → (∀ x ∈ r, x ≤ n) → (m = n ∨ n ∈ r) → maxI m r = n
  | [], m, n, _, _, h => by
    rcases h with h | h
    · exact h
    · first | exact Mine.nos h | exact Mine.ff0 h | exact Mine.tf0 h | exact Mine.sn0 h | cases h
  | x :: r, m, n, h1, h2, h3 => by
    have hx := h2 x List.mem_cons_self
    rw [maxI_1]
    cases q : decide (m < x)
    · have := of_decide_eq_false q
      refine maxI_spec r m n h1 (fun y hy => h2 y (List.mem_cons_of_mem _ hy)) ?_
      rcases h3 with h | h
      · exact .inl h
      · rcases List.mem_cons.mp h with h | h
        · exact .inl (by (first | lia | omega))
        · exact .inr h
    · have := of_decide_eq_true q
      refine maxI_spec r x n hx (fun y hy => h2 y (List.mem_cons_of_mem _ hy)) ?_
      rcases h3 with h | h
      · exact .inl (by (first | lia | omega))
      · rcases List.mem_cons.mp h with h | h
        · exact .inl h.symm
        · exact .inr h
noncomputable def iL (w : List Nat) : V := .int (w.length : Int)
theorem intsOf_map : ∀ ws : List (List Nat), intsOf (ws.map iL) = some (ws.map fun w => (w.length : Int))
  | [] => rfl
  | w :: ws => by rw [List.map_cons, iL, intsOf_1, intsOf_map ws]; rfl
theorem max_mat {R p : List Nat} (h : punctL R = some p) : bMax (.lst ((mat R).map iL)) = some (.int (p.length : Int)) := by
  obtain ⟨a, _, _, _, b⟩ := mat_some h
  show (match intsOf ((mat R).map iL) with | some (x :: r) => some (V.int (maxI x r)) | _ => none) = _
  rw [intsOf_map]
  cases hm : mat R with
  | nil => rw [hm] at a; first | exact Mine.nos a | exact Mine.ff0 a | exact Mine.tf0 a | exact Mine.sn0 a | cases a
  | cons w ws =>
    rw [hm] at a b
    rw [List.map_cons]
    dsimp only
    rw [maxI_spec _ _ (p.length : Int) (by have := b w List.mem_cons_self; (first | lia | omega)) ?_ ?_]
    · intro x hx
      obtain ⟨y, hy, rfl⟩ := List.mem_map.mp hx
      have := b y (List.mem_cons_of_mem _ hy)
      (first | lia | omega)
    · rcases List.mem_cons.mp a with q | q
      · exact .inl (by rw [q])
      · exact .inr (List.mem_map.mpr ⟨p, q, rfl⟩)
noncomputable def cutV : Nat → List Nat → List (Option (List Nat))
  | 0, _ => []
  | _ + 1, [] => []
  | n + 1, c :: R => match punctL (c :: R) with
    | none => [none]
    | some p => some p :: cutV n ((c :: R).drop p.length)
theorem cutV_2 (n c : Nat) (R : List Nat) : cutV n.succ (c :: R) = match punctL (c :: R) with
    | none => [none]
    | some p => some p :: cutV n (List.drop p.length (c :: R)) := rfl
theorem cutV_ok : ∀ (n : Nat) (R : List Nat), okO (cutV n R) = true ∧ (cutV n R).length ≤ n
  | 0, _ => ⟨rfl, Nat.le_refl _⟩
  | n + 1, [] => ⟨rfl, Nat.zero_le _⟩
  | n + 1, c :: R => by
    rw [cutV_2]
    cases h : punctL (c :: R) with
    | none => exact ⟨rfl, Nat.succ_le_succ (Nat.zero_le _)⟩
    | some p =>
      have ih := cutV_ok n ((c :: R).drop p.length)
      have kp : p ∈ knownL := (mat_mem.mp (mat_some h).1).1
      have : ∀ ws : List (List Nat), okO (ws.map some) = true → p ∈ ws → p.all (fun c => decide (c < 0x110000)) = true := by
        intro ws
        induction ws with
        | nil => intro _ h; cases h
        | cons w ws ih =>
          intro h1 h2
          rw [List.map_cons, okO_2, Bool.and_eq_true] at h1
          rcases List.mem_cons.mp h2 with q | q
          · rw [q]; exact h1.1
          · exact ih h1.2 q
      dsimp only
      refine ⟨?_, ?_⟩
      · rw [okO_2, this knownL kn_ok kp, ih.1]; rfl
      · rw [List.length_cons]; exact Nat.succ_le_succ ih.2
theorem punct_ok {L R : List Nat} {P : Int} (h : At L P R) (k : Nat) (H : Hp) : rF RP (k + 1) false 63 [.str L, .int P] H = some (oV (punctL R), H) := by
  refine rF_fn (d := d_punct_at) rfl rfl rfl (v := oV (punctL R)) (H' := []) ?_ (frz_leaf (by cases punctL R <;> rfl))
  have s4 := h.sli (Q := P + 4) 4 rfl (by decide)
  have s3 := h.sli (Q := P + 3) 3 rfl (by decide)
  have s2 := h.sli (Q := P + 2) 2 rfl (by decide)
  have s1 := h.sli (Q := P + 1) 1 rfl (by decide)
  have key : ∃ ρ', rex (cx k) f_punct_at_1 [(6, .str L), (7, .int P)] [] = match punctL R with | some p => some (.ret (.str p), ρ', []) | none => some (.next, ρ', []) := by
    unfold punctL
    cases h4 : inP (R.take 4)
    · cases h3 : inP (R.take 3)
      · cases h2 : inP (R.take 2)
        · cases h1 : inP (R.take 1)
          · refine ⟨[(6, .str L), (7, .int P), (140, .int 1), (169, .str (R.take 1))], ?_⟩
            refine rex_for (src := .tup [.int 4, .int 3, .int 2, .int 1]) (H1 := []) (by simp only [l_rev_0, l_rev_9, l_revs_0, l_revs_1, eq_self]) rfl ?_
            unfold inP at h1 h2 h3 h4
            simp only [rforF_0, rforF_1, forB, fb_punct_at_0, s4, s3, s2, s1, h4, h3, h2, h1, gl107, cmp_in, inV_sd, binop_int, l_rev_1, l_rev_2, l_rev_3, l_rev_7, l_rev_14, l_revC_0, l_revO_1, l_rex_2, l_rex_5, l_rexs_0, l_rexs_1, rtgtA, rtgt, rlk_1, rup_0, rup_1, Nat.reduceBEq, eq_self, ar0, rtruth_1, Option.map_some]
          · refine ⟨[(6, .str L), (7, .int P), (140, .int 1), (169, .str (R.take 1))], ?_⟩
            refine rex_for (src := .tup [.int 4, .int 3, .int 2, .int 1]) (H1 := []) (by simp only [l_rev_0, l_rev_9, l_revs_0, l_revs_1, eq_self]) rfl ?_
            unfold inP at h1 h2 h3 h4
            simp only [rforF_1, forB, fb_punct_at_0, s4, s3, s2, s1, h4, h3, h2, h1, gl107, cmp_in, inV_sd, binop_int, l_rev_1, l_rev_2, l_rev_3, l_rev_7, l_rev_14, l_revC_0, l_revO_1, l_rex_1, l_rex_2, l_rex_5, l_rexs_0, l_rexs_1, rtgtA, rtgt, rlk_1, rup_0, rup_1, Nat.reduceBEq, eq_self, ar0, rtruth_1, Option.map_some]
        · refine ⟨[(6, .str L), (7, .int P), (140, .int 2), (169, .str (R.take 2))], ?_⟩
          refine rex_for (src := .tup [.int 4, .int 3, .int 2, .int 1]) (H1 := []) (by simp only [l_rev_0, l_rev_9, l_revs_0, l_revs_1, eq_self]) rfl ?_
          unfold inP at h2 h3 h4
          simp only [rforF_1, forB, fb_punct_at_0, s4, s3, s2, h4, h3, h2, gl107, cmp_in, inV_sd, binop_int, l_rev_1, l_rev_2, l_rev_3, l_rev_7, l_rev_14, l_revC_0, l_revO_1, l_rex_1, l_rex_2, l_rex_5, l_rexs_0, l_rexs_1, rtgtA, rtgt, rlk_1, rup_0, rup_1, Nat.reduceBEq, eq_self, ar0, rtruth_1, Option.map_some]
      · refine ⟨[(6, .str L), (7, .int P), (140, .int 3), (169, .str (R.take 3))], ?_⟩
        refine rex_for (src := .tup [.int 4, .int 3, .int 2, .int 1]) (H1 := []) (by simp only [l_rev_0, l_rev_9, l_revs_0, l_revs_1, eq_self]) rfl ?_
        unfold inP at h3 h4
        simp only [rforF_1, forB, fb_punct_at_0, s4, s3, h4, h3, gl107, cmp_in, inV_sd, binop_int, l_rev_1, l_rev_2, l_rev_3, l_rev_7, l_rev_14, l_revC_0, l_revO_1, l_rex_1, l_rex_2, l_rex_5, l_rexs_0, l_rexs_1, rtgtA, rtgt, rlk_1, rup_0, rup_1, Nat.reduceBEq, eq_self, ar0, rtruth_1, Option.map_some]
    · refine ⟨[(6, .str L), (7, .int P), (140, .int 4), (169, .str (R.take 4))], ?_⟩
      refine rex_for (src := .tup [.int 4, .int 3, .int 2, .int 1]) (H1 := []) (by simp only [l_rev_0, l_rev_9, l_revs_0, l_revs_1, eq_self]) rfl ?_
      unfold inP at h4
      simp only [rforF_1, forB, fb_punct_at_0, s4, h4, gl107, cmp_in, inV_sd, binop_int, l_rev_1, l_rev_2, l_rev_3, l_rev_7, l_rev_14, l_revC_0, l_revO_1, l_rex_1, l_rex_2, l_rex_5, l_rexs_1, rtgtA, rtgt, rlk_1, rup_0, rup_1, Nat.reduceBEq, eq_self, ar0, rtruth_1, Option.map_some]
  obtain ⟨ρ', e⟩ := key
  cases hp : punctL R with
  | none =>
    rw [hp] at e
    dsimp only at e
    simp only [d_punct_at, b_punct_at, e, oV, rrun, rbindP_0, rbindP_1, l_rev_0, l_rex_1, l_rexs_1, eq_self]
  | some p =>
    rw [hp] at e
    dsimp only at e
    simp only [d_punct_at, b_punct_at, e, oV, rrun, rbindP_0, rbindP_1, l_rexs_1, eq_self]
open PySem
theorem binop_rl {H : Hp} {i : Nat} {xs ys : List V} (h : H[i]? = some (.list xs)) (hl : xs.length + ys.length ≤ 1000000) : binop .Add H (.ref i) (.lst ys) = some (.lst (xs ++ ys)) := by
  show ((match H[i]? with | some (.list vs) => some vs | _ => none).bind fun xs => (some ys).bind fun ys => match szOk (xs.length + ys.length) with | true => some (V.lst (xs ++ ys)) | false => none) = _
  rw [h]
  show (match szOk (xs.length + ys.length) with | true => some (V.lst (xs ++ ys)) | false => none) = _
  rw [szOk_le hl]
theorem rblt_max (H : Hp) (a : V) : rblt 4 H [a] = bMax a := rfl
theorem compF_filt {α : Type} {f : V → Hp → Option (Option V × Hp)} {g : α → V} {p : α → Bool} {H : Hp} : ∀ {w : List α}, (∀ c ∈ w, f (g c) H = some (bif p c then some (g c) else none, H)) → compF f (w.map g) H = some ((w.filter p).map g, H)
  | [], _ => rfl
  | c :: w, h => by
    have e := h c List.mem_cons_self
    have ih := compF_filt (w := w) fun c hc => h c (List.mem_cons_of_mem _ hc)
    rw [List.map_cons, compF_1, e]
    cases hp : p c
    · rw [List.filter_cons_of_neg (by rw [hp]; decide)]
      exact ih
    · rw [List.filter_cons_of_pos hp]
      dsimp only [cond_true]
      rw [ih]
      rfl
theorem compF_map {α : Type} {f : V → Hp → Option (Option V × Hp)} {g g' : α → V} {H : Hp} : ∀ {w : List α}, (∀ c ∈ w, f (g c) H = some (some (g' c), H)) → compF f (w.map g) H = some (w.map g', H)
  | [], _ => rfl
  | c :: w, h => by
    have e := h c List.mem_cons_self
    have ih := compF_map (w := w) fun c hc => h c (List.mem_cons_of_mem _ hc)
    rw [List.map_cons, compF_1, e]
    dsimp only
    rw [ih]
    rfl
abbrev tLen : RE := .cmp (.loc 7) (.one .Lt (.blt 0 (.cons (.loc 6) .nil)))
theorem tLen_true {L : List Nat} {P : Int} {c : Nat} {R : List Nat} (h : At L P (c :: R)) (k : Nat) (ρ : Env) (H : Hp) (h1 : rlk 6 ρ = some (.str L)) (h2 : rlk 7 ρ = some (.int P)) : tstB (cx k) tLen ρ H = some (true, H) := by
  have a := h.lt
  simp only [tstB, a, h1, h2, cmp_lt, l_rev_2, l_rev_7, l_rev_16, l_revs_0, l_revs_1, l_revC_0, eq_self, rblt_len, bLen_0, rtruth_1]
theorem tLen_false {L : List Nat} {P : Int} (h : At L P []) (k : Nat) (ρ : Env) (H : Hp) (h1 : rlk 6 ρ = some (.str L)) (h2 : rlk 7 ρ = some (.int P)) : tstB (cx k) tLen ρ H = some (false, H) := by
  have a := h.ge
  simp only [tstB, a, h1, h2, cmp_lt, l_rev_2, l_rev_7, l_rev_16, l_revs_0, l_revs_1, l_revC_0, eq_self, rblt_len, bLen_0, rtruth_1]
noncomputable def Cut (T : Env → Hp → Option (Bool × Hp)) (B : Env → Hp → Option (Fl × Env × Hp)) (w : Nat) (ρ : Env) (H : Hp) (out : List (Option (List Nat))) : Prop :=
  ∃ fl ρ' H' v, rwhileF T B w ρ H = some (fl, ρ', H') ∧ frz H' 100 v = some (.lst (out.map oV)) ∧ (fl = .ret v ∨ (fl = .next ∧ rlk 129 ρ' = some v))
theorem frz_r0 (out : List (Option (List Nat))) (h : out.length ≤ 90) : frz [.list (out.map oV)] 100 (.ref 0) = some (.lst (out.map oV)) :=
  frz_ref (n := 99) rfl (frz_o _ out 99 (by (first | lia | omega)))
theorem At.drop {L R p : List Nat} {P : Int} (h : At L P R) (e : R.take p.length = p) : At L (P + p.length) (R.drop p.length) := by
  have : At L P (p ++ R.drop p.length) := h.to (by
    conv => lhs; rw [← List.take_append_drop p.length R, e])
  exact this.skip
theorem cutby_loop (k : Nat) (L : List Nat) : ∀ (n : Nat) (R : List Nat) (P : Int) (ρ : Env) (acc : List (Option (List Nat))) (w : Nat), R.length ≤ n → acc.length + n ≤ 80 → At L P R →
    rlk 6 ρ = some (.str L) → rlk 7 ρ = some (.int P) → rlk 129 ρ = some (.ref 0) →
    Cut (tstB (cx (k + 1)) tLen) (fun ρ H => rexs (cx (k + 1)) wb__law_cut_by_0 ρ H) (w + n + 1) ρ [.list (acc.map oV)] (acc ++ cutV n R)
  | n, [], P, ρ, acc, w, hn, ha, h, h1, h2, h3 => by
    refine ⟨_, _, _, .ref 0, rwhile_end (tLen_false h _ ρ _ h1 h2), ?_, .inr ⟨rfl, h3⟩⟩
    rw [show cutV n [] = [] by cases n <;> rfl, List.append_nil]
    exact frz_r0 acc (by (first | lia | omega))
  | 0, c :: R, _, _, _, _, hn, _, _, _, _, _ => by rw [List.length_cons] at hn; (first | lia | omega)
  | n + 1, c :: R, P, ρ, acc, w, hn, ha, h, h1, h2, h3 => by
    have p := fun H => punct_ok h k H
    have hal : (acc.map oV).length ≤ 1000 := by rw [List.length_map]; (first | lia | omega)
    rw [cutV_2]
    cases hp : punctL (c :: R) with
    | none =>
      rw [hp] at p
      have b : rexs (cx (k + 1)) wb__law_cut_by_0 ρ [.list (acc.map oV)] = some (.ret (.ref 0), rup 169 .none ρ, [.list (acc.map oV ++ [.none])]) := by
        simp only [oV] at p
        simp (disch := ((try simp only [List.length_append, List.length_cons, List.length_nil, List.length_map]); (first | lia | omega))) only [wb__law_cut_by_0, h1, h2, h3, p, cmp_isN, rlistM_app, rlk_rup, reduceIte, l_rev_0, l_rev_2, l_rev_7, l_rev_17, l_rev_18, l_revs_0, l_revs_1, l_revC_0, l_rex_0, l_rex_1, l_rex_2, l_rex_5, l_rexs_1, rtgtA, rtgt, eq_self, cx_call, rtruth_1, List.getElem?_cons_zero, List.set_cons_zero, Nat.reduceEqDiff]
      refine ⟨_, _, _, .ref 0, rwhile_ret (tLen_true h _ ρ _ h1 h2) b, ?_, .inl rfl⟩
      have := frz_r0 (acc ++ [none]) (by rw [List.length_append, List.length_cons, List.length_nil]; (first | lia | omega))
      rw [List.map_append] at this ⊢
      exact this
    | some q =>
      rw [hp] at p
      obtain ⟨_, tq, q1, q4, _⟩ := mat_some hp
      have hd := h.drop tq
      have b : rexs (cx (k + 1)) wb__law_cut_by_0 ρ [.list (acc.map oV)] = some (.next, rup 7 (.int (P + q.length)) (rup 169 (.str q) ρ), [.list (acc.map oV ++ [.str q])]) := by
        simp only [oV] at p
        simp (disch := ((try simp only [List.length_append, List.length_cons, List.length_nil, List.length_map]); (first | lia | omega))) only [wb__law_cut_by_0, h1, h2, h3, p, cmp_isS, binop_int, rlistM_app, rlk_rup, reduceIte, l_rev_0, l_rev_2, l_rev_3, l_rev_7, l_rev_16, l_rev_17, l_rev_18, l_revs_0, l_revs_1, l_revC_0, l_rex_0, l_rex_2, l_rex_5, l_rexs_0, l_rexs_1, rtgtA, rtgt, eq_self, ar0, rblt_len, bLen_0, cx_call, rtruth_1, Option.map_some, List.getElem?_cons_zero, List.set_cons_zero, Nat.reduceEqDiff]
      have ih := cutby_loop k L n ((c :: R).drop q.length) (P + q.length) (rup 7 (.int (P + q.length)) (rup 169 (.str q) ρ)) (acc ++ [some q]) w (by rw [List.length_drop, List.length_cons] at *; (first | lia | omega)) (by rw [List.length_append, List.length_cons, List.length_nil]; (first | lia | omega)) hd
        (by rw [rlk_rup, if_neg (by decide), rlk_rup, if_neg (by decide)]; exact h1) (by rw [rlk_rup, if_pos rfl]) (by rw [rlk_rup, if_neg (by decide), rlk_rup, if_neg (by decide)]; exact h3)
      obtain ⟨fl, ρ', H', v, e1, e2, e3⟩ := ih
      refine ⟨fl, ρ', H', v, ?_, ?_, e3⟩
      · rw [show w + (n + 1) + 1 = (w + n + 1) + 1 by (first | lia | omega), rwhile_step (tLen_true h _ ρ _ h1 h2) b]
        rw [List.map_append] at e1
        exact e1
      · dsimp only
        rw [List.append_assoc, List.singleton_append] at e2
        exact e2
theorem cut_loop (k : Nat) (L : List Nat) : ∀ (n : Nat) (R : List Nat) (P : Int) (ρ : Env) (acc : List (Option (List Nat))) (w : Nat), R.length ≤ n → acc.length + n ≤ 80 → At L P R →
    rlk 6 ρ = some (.str L) → rlk 7 ρ = some (.int P) → rlk 129 ρ = some (.ref 0) → rlk 176 ρ = some (.lst (knownL.map sV)) →
    Cut (tstB (cx k) tLen) (fun ρ H => rexs (cx k) wb__law_cut_2 ρ H) (w + n + 1) ρ [.list (acc.map oV)] (acc ++ cutV n R)
  | n, [], P, ρ, acc, w, hn, ha, h, h1, h2, h3, h4 => by
    refine ⟨_, _, _, .ref 0, rwhile_end (tLen_false h _ ρ _ h1 h2), ?_, .inr ⟨rfl, h3⟩⟩
    rw [show cutV n [] = [] by cases n <;> rfl, List.append_nil]
    exact frz_r0 acc (by (first | lia | omega))
  | 0, c :: R, _, _, _, _, hn, _, _, _, _, _, _ => by rw [List.length_cons] at hn; (first | lia | omega)
  | n + 1, c :: R, P, ρ, acc, w, hn, ha, h, h1, h2, h3, h4 => by
    have hal : (acc.map oV).length ≤ 1000 := by rw [List.length_map]; (first | lia | omega)
    have kl : (knownL.map sV).length ≤ 1000000 := by rw [List.length_map]; exact Nat.le_trans kn_size (by decide)
    have hc0 : rev (cx k) c__law_cut_0 ρ [.list (acc.map oV)] = some (.lst ((mat (c :: R)).map sV), [.list (acc.map oV)]) := by
      refine rev_comp (src := .lst (knownL.map sV)) (vs := knownL.map sV) (H1 := [.list (acc.map oV)]) (by simp only [h4, l_rev_2, eq_self]) (iter_lst kl) ?_
      refine compF_filt fun x hx => ?_
      have sl := h.sli (Q := P + (x.length : Int)) x.length rfl (by have := kn_lens hx; (first | lia | omega))
      cases hq : leq ((c :: R).take x.length) x
      · simp only [compB, sV, h1, h2, sl, hq, cond_false, cmp_eq, eqV_str, binop_int, l_rev_2, l_rev_3, l_rev_7, l_rev_14, l_rev_16, l_revs_0, l_revs_1, l_revC_0, l_revO_1, rlk_1, Nat.reduceBEq, eq_self, ar0, rblt_len, bLen_0, rtruth_1, rbind_0, List.cons_append, List.nil_append, Option.map_some]
      · simp only [compB, sV, h1, h2, sl, hq, cond_true, cmp_eq, eqV_str, binop_int, l_rev_2, l_rev_3, l_rev_7, l_rev_14, l_rev_16, l_revs_0, l_revs_1, l_revC_0, l_revO_1, rlk_1, Nat.reduceBEq, eq_self, ar0, rblt_len, bLen_0, rtruth_1, rbind_0, List.cons_append, List.nil_append, Option.map_some]
    have hm : (mat (c :: R)).map sV = ((mat (c :: R)).map some).map oV := by rw [List.map_map]; rfl
    have ml : (mat (c :: R)).length ≤ 60 := Nat.le_trans (List.length_filter_le _ _) kn_size
    have mok : okO ((mat (c :: R)).map some) = true := by
      have : ∀ (p : List Nat → Bool) (ws : List (List Nat)), okO (ws.map some) = true → okO ((ws.filter p).map some) = true := by
        intro p ws
        induction ws with
        | nil => exact fun _ => rfl
        | cons w ws ih =>
          intro h
          rw [List.map_cons, okO_2, Bool.and_eq_true] at h
          rw [List.filter_cons]
          split
          · rw [List.map_cons, okO_2, h.1, ih h.2]; rfl
          · exact ih h.2
      exact this _ knownL kn_ok
    have he : ∀ H, eqV H (.lst ((mat (c :: R)).map sV)) (.lst []) = some (mat (c :: R)).isEmpty := fun H => by
      rw [hm, eqV_nil H _ (by rw [List.length_map]; exact ml) mok, List.isEmpty_map]
    rw [cutV_2]
    cases hp : punctL (c :: R) with
    | none =>
      rw [mat_none hp] at hc0 he
      have e0 : ([] : List (List Nat)).isEmpty = true := rfl
      have bn : binop .Add [.list (acc.map oV)] (.ref 0) (.lst [.none]) = some (.lst (acc.map oV ++ [.none])) := binop_rl rfl (by rw [List.length_cons, List.length_nil]; (first | lia | omega))
      rw [List.map_nil] at hc0 he
      have b : rexs (cx k) wb__law_cut_2 ρ [.list (acc.map oV)] = some (.ret (.lst (acc.map oV ++ [.none])), rup 147 (.lst []) ρ, [.list (acc.map oV)]) := by
        simp only [wb__law_cut_2, hc0, he, e0, h3, bn, cmp_eq, rlk_rup, reduceIte, l_rev_0, l_rev_2, l_rev_3, l_rev_7, l_rev_11, l_revs_0, l_revs_1, l_revC_0, l_rex_1, l_rex_2, l_rex_5, l_rexs_1, rtgtA, rtgt, eq_self, rtruth_1, Nat.reduceEqDiff]
      refine ⟨_, _, _, .lst (acc.map oV ++ [.none]), rwhile_ret (tLen_true h _ ρ _ h1 h2) b, ?_, .inl rfl⟩
      have := frz_lst (n := 99) (frz_o [.list (acc.map oV)] (acc ++ [none]) 99 (by rw [List.length_append, List.length_cons, List.length_nil]; (first | lia | omega)))
      rw [List.map_append] at this ⊢
      exact this
    | some q =>
      obtain ⟨mq, tq, q1, q4, _⟩ := mat_some hp
      have hd := h.drop tq
      have e0 : (mat (c :: R)).isEmpty = false := by
        cases hmm : mat (c :: R) with
        | nil => rw [hmm] at mq; first | exact Mine.nos mq | exact Mine.ff0 mq | exact Mine.tf0 mq | exact Mine.sn0 mq | cases mq
        | cons _ _ => rfl
      rw [e0] at he
      have hmx := max_mat hp
      have sl := h.sli (Q := P + (q.length : Int)) q.length rfl (by (first | lia | omega))
      rw [tq] at sl
      have hc1 : rev (cx k) c__law_cut_1 (rup 147 (.lst ((mat (c :: R)).map sV)) ρ) [.list (acc.map oV)] = some (.lst ((mat (c :: R)).map iL), [.list (acc.map oV)]) := by
        refine rev_comp (src := .lst ((mat (c :: R)).map sV)) (vs := (mat (c :: R)).map sV) (H1 := [.list (acc.map oV)]) (by simp only [rlk_rup, reduceIte, l_rev_2, eq_self]) (iter_lst (by rw [List.length_map]; (first | lia | omega))) ?_
        refine compF_map fun x hx => ?_
        simp only [compB, sV, iL, l_rev_0, l_rev_2, l_rev_16, l_revs_0, l_revs_1, rlk_1, Nat.reduceBEq, eq_self, rblt_len, bLen_0, rtruth_1, rbind_0, List.cons_append, List.nil_append]
      have b : rexs (cx k) wb__law_cut_2 ρ [.list (acc.map oV)] = some (.next, rup 7 (.int (P + q.length)) (rup 177 (.int q.length) (rup 147 (.lst ((mat (c :: R)).map sV)) ρ)), [.list (acc.map oV ++ [.str q])]) := by
        simp (disch := ((try simp only [List.length_append, List.length_cons, List.length_nil, List.length_map]); (first | lia | omega))) only [wb__law_cut_2, hc0, he, hc1, rblt_max, hmx, h1, h2, h3, sl, cmp_eq, binop_int, rlistM_app, rlk_rup, reduceIte, l_rev_2, l_rev_3, l_rev_7, l_rev_11, l_rev_14, l_rev_16, l_rev_18, l_revs_0, l_revs_1, l_revC_0, l_revO_1, l_rex_0, l_rex_2, l_rex_5, l_rexs_0, l_rexs_1, rtgtA, rtgt, eq_self, ar0, rtruth_1, Option.map_some, List.getElem?_cons_zero, List.set_cons_zero, Nat.reduceEqDiff]
      have ih := cut_loop k L n ((c :: R).drop q.length) (P + q.length) (rup 7 (.int (P + q.length)) (rup 177 (.int q.length) (rup 147 (.lst ((mat (c :: R)).map sV)) ρ))) (acc ++ [some q]) w (by rw [List.length_drop, List.length_cons] at *; (first | lia | omega)) (by rw [List.length_append, List.length_cons, List.length_nil]; (first | lia | omega)) hd
        (by rw [rlk_rup, if_neg (by decide), rlk_rup, if_neg (by decide), rlk_rup, if_neg (by decide)]; exact h1) (by rw [rlk_rup, if_pos rfl]) (by rw [rlk_rup, if_neg (by decide), rlk_rup, if_neg (by decide), rlk_rup, if_neg (by decide)]; exact h3) (by rw [rlk_rup, if_neg (by decide), rlk_rup, if_neg (by decide), rlk_rup, if_neg (by decide)]; exact h4)
      obtain ⟨fl, ρ', H', v, e1, e2, e3⟩ := ih
      refine ⟨fl, ρ', H', v, ?_, ?_, e3⟩
      · rw [show w + (n + 1) + 1 = (w + n + 1) + 1 by (first | lia | omega), rwhile_step (tLen_true h _ ρ _ h1 h2) b]
        rw [List.map_append] at e1
        exact e1
      · dsimp only
        rw [List.append_assoc, List.singleton_append] at e2
        exact e2
theorem cut_by_ok (k : Nat) (L : List Nat) (hl : L.length ≤ 70) (H : Hp) : rF RP (k + 2) false 69 [.str L] H = some (.lst ((cutV L.length L).map oV), H) := by
  have h0 : At L 0 L := ⟨Int.le_refl _, by (first | lia | omega), by simp, by (first | lia | omega)⟩
  obtain ⟨fl, ρ', H', v, e1, e2, e3⟩ := cutby_loop k L L.length L 0 [(6, .str L), (129, .ref 0), (7, .int 0)] [] (W - L.length - 1) (Nat.le_refl _) (by rw [List.length_nil]; (first | lia | omega)) h0 rfl rfl rfl
  have hw : rex (cx (k + 1)) w__law_cut_by_1 [(6, .str L), (129, .ref 0), (7, .int 0)] [.list []] = some (fl, ρ', H') := by
    refine rex_whl ?_
    rwa [show W - L.length - 1 + L.length + 1 = W by unfold W; (first | lia | omega)] at e1
  refine rF_fn (d := d__law_cut_by) rfl rfl rfl (v := v) (H' := H') ?_ e2
  rcases e3 with rfl | ⟨rfl, e3⟩
  · simp only [d__law_cut_by, b__law_cut_by, hw, rrun, rbindP_0, rbindP_1, l_rev_0, l_rev_9, l_rev_10, l_revs_0, l_revs_1, l_rex_2, l_rexs_1, rtgtA, rtgt, rt0, rt1, rup_0, rup_1, Nat.reduceBEq, eq_self, List.nil_append, List.length_nil]
  · simp only [d__law_cut_by, b__law_cut_by, hw, e3, rrun, rbindP_0, rbindP_1, l_rev_0, l_rev_2, l_rev_9, l_rev_10, l_revs_0, l_revs_1, l_rex_1, l_rex_2, l_rexs_1, rtgtA, rtgt, rt0, rt1, rup_0, rup_1, Nat.reduceBEq, eq_self, List.nil_append, List.length_nil]
theorem cut_run (C : RCx) (L x1 x2 A K : List Nat) (kn : List V) (fl : Fl) (ρ' : Env) (H' : Hp) (v : V) (g1 : C.glb 111 = .str x1) (g2 : C.glb 112 = .str x2) (b1 : ∀ H, binop .Add H (.str x1) (.str [32]) = some (.str A)) (b2 : ∀ H, binop .Add H (.str A) (.str x2) = some (.str K)) (sp : ∀ H, rstrM 2 H K [.str [32]] = some (.lst kn))
    (hw : rex C w__law_cut_3 [(6, .str L), (176, .lst kn), (129, .ref 0), (7, .int 0)] [.list []] = some (fl, ρ', H')) (e3 : fl = .ret v ∨ (fl = .next ∧ rlk 129 ρ' = some v)) : rrun C d__law_cut [.str L] [] = some (v, H') := by
  rcases e3 with rfl | ⟨rfl, e3⟩
  · simp only [d__law_cut, b__law_cut, g1, g2, b1, b2, sp, hw, rrun, rbindP_0, rbindP_1, l_rev_0, l_rev_1, l_rev_3, l_rev_9, l_rev_10, l_rev_18, l_revs_0, l_revs_1, l_rex_2, l_rexs_1, rtgtA, rtgt, rt0, rt1, rup_0, rup_1, Nat.reduceBEq, eq_self, List.nil_append, List.length_nil]
  · simp only [d__law_cut, b__law_cut, g1, g2, b1, b2, sp, hw, e3, rrun, rbindP_0, rbindP_1, l_rev_0, l_rev_1, l_rev_2, l_rev_3, l_rev_9, l_rev_10, l_rev_18, l_revs_0, l_revs_1, l_rex_1, l_rex_2, l_rexs_1, rtgtA, rtgt, rt0, rt1, rup_0, rup_1, Nat.reduceBEq, eq_self, List.nil_append, List.length_nil]
theorem cut_ok (k : Nat) (L : List Nat) (hl : L.length ≤ 70) (H : Hp) : rF RP (k + 1) false 68 [.str L] H = some (.lst ((cutV L.length L).map oV), H) := by
  have h0 : At L 0 L := ⟨Int.le_refl _, by (first | lia | omega), by simp, by (first | lia | omega)⟩
  obtain ⟨fl, ρ', H', v, e1, e2, e3⟩ := cut_loop k L L.length L 0 [(6, .str L), (176, .lst (knownL.map sV)), (129, .ref 0), (7, .int 0)] [] (W - L.length - 1) (Nat.le_refl _) (by rw [List.length_nil]; (first | lia | omega)) h0 rfl rfl rfl rfl
  have hw : rex (cx k) w__law_cut_3 [(6, .str L), (176, .lst (knownL.map sV)), (129, .ref 0), (7, .int 0)] [.list []] = some (fl, ρ', H') := by
    refine rex_whl ?_
    rwa [show W - L.length - 1 + L.length + 1 = W by unfold W; (first | lia | omega)] at e1
  have b1 : ∀ H, binop .Add H (.str pT) (.str [32]) = some (.str (pT ++ [32])) := fun H => binop_add _ _ _ (by have := pT_len; rw [List.length_cons, List.length_nil]; (first | lia | omega))
  have b2 : ∀ H, binop .Add H (.str (pT ++ [32])) (.str lT) = some (.str kwT) := fun H => binop_add _ _ _ (by have := pT_len; have := lT_len; rw [List.length_append, List.length_cons, List.length_nil]; (first | lia | omega))
  exact rF_fn (d := d__law_cut) rfl rfl rfl (v := v) (H' := H') (cut_run (cx k) L pT lT (pT ++ [32]) kwT _ fl ρ' H' v (gl111 k) (gl112 k) b1 b2 (splitTo_ok kw_split) hw e3) e2
open PySem
noncomputable def KWl : List (List Nat) := [[98, 114, 101, 97, 107], [99, 97, 115, 101], [99, 97, 116, 99, 104], [99, 111, 110, 116, 105, 110, 117, 101],
  [100, 101, 98, 117, 103, 103, 101, 114], [100, 101, 102, 97, 117, 108, 116], [100, 101, 108, 101, 116, 101],
  [100, 111], [101, 108, 115, 101], [102, 105, 110, 97, 108, 108, 121], [102, 111, 114],
  [102, 117, 110, 99, 116, 105, 111, 110], [105, 102], [105, 110], [105, 110, 115, 116, 97, 110, 99, 101, 111, 102],
  [110, 101, 119], [114, 101, 116, 117, 114, 110], [115, 119, 105, 116, 99, 104], [116, 104, 105, 115],
  [116, 104, 114, 111, 119], [116, 114, 121], [116, 121, 112, 101, 111, 102], [118, 97, 114], [118, 111, 105, 100],
  [119, 104, 105, 108, 101], [119, 105, 116, 104], [99, 108, 97, 115, 115], [99, 111, 110, 115, 116],
  [101, 110, 117, 109], [101, 120, 112, 111, 114, 116], [101, 120, 116, 101, 110, 100, 115],
  [105, 109, 112, 111, 114, 116], [115, 117, 112, 101, 114], [110, 117, 108, 108], [116, 114, 117, 101],
  [102, 97, 108, 115, 101]]
noncomputable def STl : List (List Nat) := [[105, 109, 112, 108, 101, 109, 101, 110, 116, 115], [105, 110, 116, 101, 114, 102, 97, 99, 101], [108, 101, 116],
  [112, 97, 99, 107, 97, 103, 101], [112, 114, 105, 118, 97, 116, 101], [112, 114, 111, 116, 101, 99, 116, 101, 100],
  [112, 117, 98, 108, 105, 99], [115, 116, 97, 116, 105, 99], [121, 105, 101, 108, 100]]
theorem gl104 (k : Nat) : (cx k).glb 104 = .lst (KWl.map sV) := rfl
theorem gl105 (k : Nat) : (cx k).glb 105 = .lst (STl.map sV) := rfl
noncomputable def r1T : List Nat := unS g__law_reserved
noncomputable def r2T : List Nat := unS g__law_other
noncomputable def r3T : List Nat := unS g__law_strict
theorem gl108 (k : Nat) : (cx k).glb 108 = .str r1T := rfl
theorem gl109 (k : Nat) : (cx k).glb 109 = .str r2T := rfl
theorem gl110 (k : Nat) : (cx k).glb 110 = .str r3T := rfl
noncomputable def r4T : List Nat := [32, 110, 117, 108, 108, 32, 116, 114, 117, 101, 32, 102, 97, 108, 115, 101]
noncomputable def knT : List Nat := ((r1T ++ [32]) ++ r2T) ++ r4T
theorem kn_split : splitTo knT KWl = true := by decide +kernel
theorem st_split : splitTo r3T STl = true := by decide +kernel
theorem r1_len : r1T.length ≤ 200 := by decide +kernel
theorem r2_len : r2T.length ≤ 200 := by decide +kernel
theorem r4_len : r4T.length ≤ 200 := by decide +kernel
theorem memS_map (k : List Nat) : ∀ ws : List (List Nat), memS k (ws.map sV) = some (memStr k ws)
  | [] => rfl
  | w :: ws => by
    rw [List.map_cons, sV, memS_1, memStr_1, memS_map k ws]
    cases leq k w <;> rfl
theorem inV_l (H : Hp) (k : List Nat) (ws : List (List Nat)) : inV H (.str k) (.lst (ws.map sV)) = some (memStr k ws) := by
  show (match strsOf (ws.map sV) with | some _ => memS k (ws.map sV) | none => none) = _
  rw [strsOf_map]
  exact memS_map k ws
theorem keyword_ok (k : Nat) (w : List Nat) (H : Hp) : rF RP (k + 1) false 61 [.str w] H = some (.bool (memStr w KWl), H) := by
  refine rF_fn (d := d_is_keyword) rfl rfl rfl (v := .bool (memStr w KWl)) (H' := []) ?_ rfl
  simp only [d_is_keyword, b_is_keyword, gl104, inV_l, rrun, cmp_in, rbindP_0, rbindP_1, l_rev_1, l_rev_2, l_rev_7, l_revC_0, l_rex_1, l_rexs_1, rlk_1, Nat.reduceBEq, eq_self]
theorem strict_ok (k : Nat) (w : List Nat) (H : Hp) : rF RP (k + 1) false 62 [.str w] H = some (.bool (memStr w STl), H) := by
  refine rF_fn (d := d_is_strict_word) rfl rfl rfl (v := .bool (memStr w STl)) (H' := []) ?_ rfl
  simp only [d_is_strict_word, b_is_strict_word, gl105, inV_l, rrun, cmp_in, rbindP_0, rbindP_1, l_rev_1, l_rev_2, l_rev_7, l_revC_0, l_rex_1, l_rexs_1, rlk_1, Nat.reduceBEq, eq_self]
noncomputable def rp (b : Bool) : List Nat := match b with
  | true => cps (N "True")
  | false => cps (N "False")
theorem rblt_repr (H : Hp) (b : Bool) : rblt 6 H [.bool b] = some (.str (rp b)) := rfl
theorem leq_refl (l : List Nat) : leq l l = true := leq_iff.mpr rfl
theorem beq_bb (b : Bool) : (b == b) = true := by cases b <;> rfl
structure Kp (ρ : Env) : Prop where
  tube : rlk 170 ρ = some (.ref 0)
  kn : rlk 176 ρ = some (.lst (KWl.map sV))
  st : rlk 180 ρ = some (.lst (STl.map sV))
theorem Kp.up {ρ : Env} (K : Kp ρ) {i : Nat} (v : V) (h : i ≠ 170 ∧ i ≠ 176 ∧ i ≠ 180) : Kp (rup i v ρ) := by
  refine ⟨?_, ?_, ?_⟩
  · rw [rlk_rup, if_neg (fun e => h.1 e.symm)]; exact K.tube
  · rw [rlk_rup, if_neg (fun e => h.2.1 e.symm)]; exact K.kn
  · rw [rlk_rup, if_neg (fun e => h.2.2 e.symm)]; exact K.st
theorem others_ok (k : Nat) (H : Hp) : ∀ (os : List (List Nat)) (ρ : Env), Kp ρ → ∃ ρ', Kp ρ' ∧ rforF (forB (cx (k + 1)) (.one (.name 182)) fb_law_5) (os.map sV) ρ H = some (.next, ρ', H)
  | [], ρ, K => ⟨ρ, K, rfl⟩
  | o :: os, ρ, K => by
    have K2 := K.up (i := 182) (.str o) (by decide)
    obtain ⟨ρ', a, e⟩ := others_ok k H os _ K2
    refine ⟨ρ', a, ?_⟩
    have h1 := K.kn
    have h2 := K.st
    have b : forB (cx (k + 1)) (.one (.name 182)) fb_law_5 (sV o) ρ H = some (.next, rup 182 (.str o) ρ, H) := by
      simp only [forB, fb_law_5, sV, keyword_ok, strict_ok, h1, h2, inV_l, beq_bb, cmp_ne, cmp_in, eqV_bool, rlk_rup, reduceIte, l_rev_2, l_rev_6, l_rev_7, l_rev_17, l_revs_0, l_revs_1, l_revC_0, l_rex_5, l_rexs_0, l_rexs_1, rtgtA, rtgt, eq_self, cx_call, rtruth_1, Option.map_some, Nat.reduceEqDiff, Bool.not_true]
    rw [List.map_cons, rforF_1, b]
    exact e
theorem slice_from1 (c : Nat) (r : List Nat) : slice (.str (c :: r)) (some 1) none = some (.str r) := by
  show (match bnd (c :: r).length (some 1) (some 0), bnd (c :: r).length none (some (c :: r).length) with
    | some x, some y => some (V.str (((c :: r).take y).drop x))
    | _, _ => none) = _
  rw [bnd_ok (by decide) (by decide), show bnd (c :: r).length none (some (c :: r).length) = some (c :: r).length from rfl]
  dsimp only
  rw [List.take_length, show min (Int.toNat 1) (c :: r).length = 1 by rw [List.length_cons]; show min 1 _ = 1; (first | lia | omega)]
  rfl
theorem upper1 (H : Hp) (c : Nat) (h : (Nat.ble 97 c && Nat.ble c 122) = true) : rstrM 3 H [c] [] = some (.str [c - 32]) := by
  show guard (Nat.ble 97 c && Nat.ble c 122) (.str [c - 32]) = _
  rw [h]; rfl
noncomputable def lowW (w : List Nat) : Bool := match w with
  | [] => false
  | c :: r => Nat.ble 97 c && Nat.ble c 122 && Nat.ble r.length 30
theorem KW_low : KWl.all lowW = true := by decide +kernel
theorem ST_low : STl.all lowW = true := by decide +kernel
theorem some_ok (k j : Nat) (vs : List Nat) (hv : vs.length ≤ 40) (ws : List (List Nat)) (hw : ws.all lowW = true) (h0 : 0 < ws.length) (hl : ws.length ≤ 100) (ρ : Env) (K : Kp ρ) :
    ∃ ρ' j', Kp ρ' ∧ forB (cx (k + 1)) (.one (.name 147)) fb_law_7 (.lst (ws.map sV)) ρ [tubeO j vs] = some (.next, ρ', [tubeO j' vs]) := by
  obtain ⟨x, hx, ht⟩ := take_i k j vs (ws.length : Int) ws.length rfl h0 hv []
  obtain ⟨w, hw1, hw2⟩ : ∃ w ∈ ws, nth (ws.map sV) x = some (.str w) := by
    have hxl : x.toNat < ws.length := by (first | lia | omega)
    refine ⟨ws[x.toNat], List.getElem_mem _, nth_i hx.1 (by (first | lia | omega)) ?_⟩
    rw [List.getElem?_map, List.getElem?_eq_getElem hxl]; rfl
  have hlow := List.all_eq_true.mp hw w hw1
  obtain ⟨c, r, rfl⟩ : ∃ c r, w = c :: r := by
    cases w with
    | nil => first | exact Mine.nos hlow | exact Mine.ff0 hlow | exact Mine.tf0 hlow | exact Mine.sn0 hlow | cases hlow
    | cons c r => exact ⟨c, r, rfl⟩
  have hlow : (Nat.ble 97 c && Nat.ble c 122 && Nat.ble r.length 30) = true := hlow
  rw [Bool.and_eq_true] at hlow
  have hr := Nat.le_of_ble_eq_true hlow.2
  have hup := fun H => upper1 H c hlow.1
  have hs : ∀ H, sub H (.str (c :: r)) (.int 0) = some (.str [c]) := fun H => sub_str (by decide) (by decide) rfl
  have K1 := (K.up (i := 147) (.lst (ws.map sV)) (by decide)).up (i := 181) (.str (c :: r)) (by decide)
  obtain ⟨ρ', Ke, e⟩ := others_ok k [tubeO (j + 1) vs] [(c :: r) ++ [115], r, [c - 32] ++ r, []] _ K1
  have h6 : rex (cx (k + 1)) f_law_6 (rup 181 (.str (c :: r)) (rup 147 (.lst (ws.map sV)) ρ)) [tubeO (j + 1) vs] = some (.next, ρ', [tubeO (j + 1) vs]) := by
    refine rex_for (src := .tup [.str ((c :: r) ++ [115]), .str r, .str ([c - 32] ++ r), .str []]) (H1 := [tubeO (j + 1) vs]) ?_ rfl e
    simp (disch := ((try simp only [List.length_append, List.length_cons, List.length_nil, List.length_map]); (first | lia | omega))) only [slice_from1, hup, hs, binop_add, rlk_rup, reduceIte, l_rev_0, l_rev_2, l_rev_3, l_rev_9, l_rev_14, l_rev_15, l_rev_18, l_revs_0, l_revs_1, l_revO_0, l_revO_1, eq_self, List.cons_append, List.nil_append, Nat.reduceEqDiff]
  have hb : bLen [tubeO j vs] (.lst (ws.map sV)) = some (.int (ws.length : Int)) := by
    simp only [bLen_2, List.length_map, szOk_le (show ws.length ≤ 1000000 by (first | lia | omega)), guard]
  rw [← rblt_len] at hb
  have g1 := K.tube
  have g2 := K.kn
  have g3 := K.st
  refine ⟨ρ', j + 1, Ke, ?_⟩
  generalize hn : (ws.length : Int) = n at ht hb
  simp only [forB, fb_law_7, g1, g2, g3, hb, ht, hw2, keyword_ok, strict_ok, rblt_repr, inV_l, leq_refl, h6, cmp_ne, cmp_in, eqV_str, rlk_rup, reduceIte, l_rev_2, l_rev_6, l_rev_7, l_rev_15, l_rev_16, l_rev_17, l_revs_0, l_revs_1, l_revC_0, l_rex_2, l_rex_5, l_rexs_0, l_rexs_1, rtgtA, rtgt, eq_self, sub_lst, cx_call, rtruth_1, Option.map_some, Nat.reduceEqDiff, Bool.not_true]
theorem somes_ok (k j : Nat) (vs : List Nat) (hv : vs.length ≤ 40) (ρ : Env) (K : Kp ρ) : ∃ ρ' j', rex (cx (k + 1)) f_law_8 ρ [tubeO j vs] = some (.next, ρ', [tubeO j' vs]) := by
  obtain ⟨ρ1, j1, K1, e1⟩ := some_ok k j vs hv KWl KW_low (by decide) (by decide) ρ K
  obtain ⟨ρ2, j2, K2, e2⟩ := some_ok k j1 vs hv STl ST_low (by decide) (by decide) ρ1 K1
  refine ⟨ρ2, j2, ?_⟩
  have g2 := K.kn
  have g3 := K.st
  refine rex_for (src := .tup [.lst (KWl.map sV), .lst (STl.map sV)]) (vs := [.lst (KWl.map sV), .lst (STl.map sV)]) (H1 := [tubeO j vs]) (by simp only [g2, g3, l_rev_2, l_rev_9, l_revs_0, l_revs_1, eq_self]) rfl ?_
  rw [rforF_1, e1]
  dsimp only
  rw [rforF_1, e2]
  dsimp only
  rw [rforF_0]
open PySem
theorem rng8 {s : Int} (h : 0 ≤ s ∧ s < 8) (H : Hp) : rblt 7 H [.int s] = some (.rng 0 s) := by
  have : s = 0 ∨ s = 1 ∨ s = 2 ∨ s = 3 ∨ s = 4 ∨ s = 5 ∨ s = 6 ∨ s = 7 := by (first | lia | omega)
  rcases this with rfl | rfl | rfl | rfl | rfl | rfl | rfl | rfl <;> rfl
theorem iter_rng8 {s : Int} (h : 0 ≤ s ∧ s < 8) : ∃ l, iter (.rng 0 s) = some l ∧ l.length ≤ 7 := by
  have : s = 0 ∨ s = 1 ∨ s = 2 ∨ s = 3 ∨ s = 4 ∨ s = 5 ∨ s = 6 ∨ s = 7 := by (first | lia | omega)
  rcases this with rfl | rfl | rfl | rfl | rfl | rfl | rfl | rfl
  all_goals exact ⟨_, rfl, by decide⟩
theorem sub_menu (M : List Nat) (hM : M.length ≤ 100) (x : Int) (hx : 0 ≤ x ∧ x < M.length) : ∃ c ∈ M, ∀ H, sub H (.str M) (.int x) = some (.str [c]) := by
  have hxl : x.toNat < M.length := by (first | lia | omega)
  exact ⟨M[x.toNat], List.getElem_mem _, fun H => sub_str hx.1 (by (first | lia | omega)) (List.getElem?_eq_getElem hxl)⟩
theorem cF_chars {f : V → Hp → Option (Option V × Hp)} {M : List Nat} {vs : List Nat} (hf : ∀ v j, ∃ c ∈ M, ∃ j', f v [tubeO j vs] = some (some (sC c), [tubeO j' vs])) :
    ∀ (l : List V) (j : Nat), ∃ (w : List Nat) (j' : Nat), (∀ c ∈ w, c ∈ M) ∧ w.length = l.length ∧ compF f l [tubeO j vs] = some (w.map sC, [tubeO j' vs])
  | [], j => ⟨[], j, fun _ h => (nomatch h), rfl, rfl⟩
  | v :: l, j => by
    obtain ⟨c, hc, j1, e1⟩ := hf v j
    obtain ⟨w, j2, a, b, e2⟩ := cF_chars hf l j1
    refine ⟨c :: w, j2, fun x hx => ?_, by rw [List.length_cons, b]; rfl, ?_⟩
    · rcases List.mem_cons.mp hx with q | q
      · rw [q]; exact hc
      · exact a x q
    · rw [compF_1, e1]
      dsimp only
      rw [e2]
      rfl
theorem joinS_chars : ∀ w : List Nat, joinS [] (w.map fun c => [c]) = w
  | [] => rfl
  | [c] => rfl
  | c :: d :: w => by
    have := joinS_chars (d :: w)
    show [c] ++ [] ++ joinS [] ((d :: w).map fun c => [c]) = _
    rw [this]; rfl
theorem join_chars (H : Hp) (w : List Nat) (h : w.length ≤ 1000) : sJoin H [] (.lst (w.map sC)) = some (.str w) := by
  have e : w.map sC = (w.map fun c => [c]).map sV := by rw [List.map_map]; rfl
  have := sJoin_ok (H := H) (a := .lst (w.map sC)) (xs := w.map fun c => [c]) (l := []) (by rw [e]; rfl) (by rw [joinS_chars]; (first | lia | omega))
  rw [joinS_chars] at this
  exact this
theorem slice_take (vs : List V) (h : vs.length ≤ 1000000) : slice (.lst vs) none (some 40) = some (.lst (vs.take 40)) := by
  show (match decide ((0 : Int) ≤ 40), szOk vs.length with
      | true, true => some (V.lst (vs.take (40 : Int).toNat))
      | _, _ => none) = _
  rw [szOk_le h]
  rfl
theorem pures_ints : ∀ ns : List Int, vpures (ns.map V.int) = true
  | [] => rfl
  | n :: ns => by rw [List.map_cons, vpures_1, vpure_2, pures_ints ns]
noncomputable def tubeL (ns : List Int) : List Nat := (ns.take 40).map Int.natAbs
theorem tubeL_len (ns : List Int) : (tubeL ns).length ≤ 40 := by
  unfold tubeL
  rw [List.length_map, List.length_take]; (first | lia | omega)
theorem law0 (k : Nat) (ns : List Int) (h : ns.length ≤ 63) : rev (cx k) c_law_0 [(178, .lst (ns.map .int))] [] = some (.lst ((tubeL ns).map vi), []) := by
  have sl := slice_take (ns.map V.int) (by rw [List.length_map]; (first | lia | omega))
  have e : (tubeL ns).map vi = (ns.take 40).map fun i => vi i.natAbs := by unfold tubeL; rw [List.map_map]; rfl
  rw [← List.map_take] at sl
  rw [e]
  refine rev_comp (src := .lst ((ns.take 40).map V.int)) (vs := (ns.take 40).map V.int) (H1 := []) (by simp only [sl, l_rev_0, l_rev_2, l_rev_14, l_revO_0, l_revO_1, rlk_1, Nat.reduceBEq, eq_self]) (iter_lst (by rw [List.length_map, List.length_take]; (first | lia | omega))) ?_
  refine compF_map fun x hx => ?_
  simp only [compB, vi, l_rev_0, l_rev_2, l_rev_16, l_revs_0, l_revs_1, rlk_1, Nat.reduceBEq, eq_self, rblt_abs, rblt_int, bAbs, bInt, rtruth_1, rbind_0, List.cons_append, List.nil_append]
theorem chars3 (k j : Nat) (vs : List Nat) (hv : vs.length ≤ 40) (ρ : Env) (h : rlk 170 ρ = some (.ref 0)) : ∃ (w : List Nat) (j' : Nat), (∀ c ∈ w, c ∈ menuW) ∧ w.length ≤ 7 ∧ rev (cx (k + 1)) c_law_3 ρ [tubeO j vs] = some (.lst (w.map sC), [tubeO j' vs]) := by
  obtain ⟨s, hs, h1⟩ := take_i k j vs 5 5 rfl (by (first | lia | omega)) hv []
  obtain ⟨l, hl, hl2⟩ := iter_rng8 (s := s) (by (first | lia | omega))
  have rg := rng8 (s := s) (by (first | lia | omega))
  obtain ⟨w, j', a, b, e⟩ := cF_chars (f := compB (cx (k + 1)) (.idx (.val (.str [97, 90, 36, 95, 55, 233, 20013, 769, 8205, 32, 45])) (.fn 64 (.cons (.loc 170) (.cons (.val (.int 11)) .nil)))) [173] (.val (.bool true)) ρ) (M := menuW) (vs := vs) (fun v j => by
    obtain ⟨x, hx, h2⟩ := take_i k j vs 11 11 rfl (by (first | lia | omega)) hv []
    obtain ⟨c, hc, hsub⟩ := sub_menu menuW (by decide) x hx
    refine ⟨c, hc, j + 1, ?_⟩
    unfold menuW at hsub
    simp only [compB, h, h2, hsub, sC, l_rev_0, l_rev_2, l_rev_15, l_rev_17, l_revs_0, l_revs_1, rlk_1, Nat.reduceBEq, eq_self, cx_call, rtruth_1, rbind_0, List.cons_append, List.nil_append]) l (j + 1)
  refine ⟨w, j', a, by (first | lia | omega), ?_⟩
  refine rev_comp (src := .rng 0 s) (vs := l) (H1 := [tubeO (j + 1) vs]) ?_ hl e
  simp only [h, h1, rg, l_rev_0, l_rev_2, l_rev_16, l_rev_17, l_revs_0, l_revs_1, eq_self, cx_call]
noncomputable def menuR : List Nat := [60, 62, 61, 33, 43, 45, 38, 124, 42, 47, 37, 94, 46, 44, 59, 97]
theorem chars4 (k j : Nat) (vs : List Nat) (hv : vs.length ≤ 40) (ρ : Env) (h : rlk 170 ρ = some (.ref 0)) : ∃ (w : List Nat) (j' : Nat), (∀ c ∈ w, c ∈ menuR) ∧ w.length ≤ 7 ∧ rev (cx (k + 1)) c_law_4 ρ [tubeO j vs] = some (.lst (w.map sC), [tubeO j' vs]) := by
  obtain ⟨s, hs, h1⟩ := take_i k j vs 8 8 rfl (by (first | lia | omega)) hv []
  obtain ⟨l, hl, hl2⟩ := iter_rng8 hs
  have rg := rng8 hs
  obtain ⟨w, j', a, b, e⟩ := cF_chars (f := compB (cx (k + 1)) (.idx (.val (.str [60, 62, 61, 33, 43, 45, 38, 124, 42, 47, 37, 94, 46, 44, 59, 97])) (.fn 64 (.cons (.loc 170) (.cons (.val (.int 16)) .nil)))) [173] (.val (.bool true)) ρ) (M := menuR) (vs := vs) (fun v j => by
    obtain ⟨x, hx, h2⟩ := take_i k j vs 16 16 rfl (by (first | lia | omega)) hv []
    obtain ⟨c, hc, hsub⟩ := sub_menu menuR (by decide) x hx
    refine ⟨c, hc, j + 1, ?_⟩
    unfold menuR at hsub
    simp only [compB, h, h2, hsub, sC, l_rev_0, l_rev_2, l_rev_15, l_rev_17, l_revs_0, l_revs_1, rlk_1, Nat.reduceBEq, eq_self, cx_call, rtruth_1, rbind_0, List.cons_append, List.nil_append]) l (j + 1)
  refine ⟨w, j', a, by (first | lia | omega), ?_⟩
  refine rev_comp (src := .rng 0 s) (vs := l) (H1 := [tubeO (j + 1) vs]) ?_ hl e
  simp only [h, h1, rg, l_rev_0, l_rev_2, l_rev_16, l_rev_17, l_revs_0, l_revs_1, eq_self, cx_call]
theorem gap_turn {gap : List Nat} (hg : blanks gap = true) (hg2 : gap.length ≤ 2) (k : Nat) (t : T) (ht : htT t 2) (ρ : Env) (H : Hp) (h1 : rlk 142 ρ = some (vT t)) (h2 : rlk 141 ρ = some (vT (prT t))) :
    forB (cx (k + 10)) (.one (.name 148)) fb_law_1 (.str gap) ρ H = some (.next, rup 179 (shownV gap t) (rup 148 (.str gap) ρ), H) := by
  have a := fun H => show_ok hg2 k t 2 (by decide) ht H
  have b := fun H => read_shown hg hg2 (k + 1) t 2 (by decide) ht H
  have c := fun H => eqV_skip (H := H) (d := 2) (by decide) ht
  have d := fun H => eqV_same (H := H) (d := 2) (by decide) (prT_ht t 2 ht)
  cases hs : isSkip t
  · have e : shownV gap t = .str (laidT gap [] t) := by unfold shownV; rw [hs]
    rw [e] at a ⊢
    rw [hs] at c
    simp only [forB, fb_law_1, h1, h2, a, b, c, d, beq_bb, cmp_eq, cmp_ne, cmp_isS, cmp_isnS, eqV_bool, rlk_rup, reduceIte, l_rev_0, l_rev_2, l_rev_6, l_rev_7, l_rev_9, l_rev_17, l_revs_0, l_revs_1, l_revC_0, l_rex_2, l_rex_5, l_rexs_0, l_rexs_1, rtgtA, rtgt, eq_self, cx_call, rtruth_1, Option.map_some, Nat.reduceEqDiff, Bool.not_true]
  · have e : shownV gap t = .none := by unfold shownV; rw [hs]
    rw [e] at a ⊢
    rw [hs] at c
    simp only [forB, fb_law_1, h1, a, c, beq_bb, cmp_eq, cmp_ne, cmp_isN, cmp_isnN, eqV_bool, rlk_rup, reduceIte, l_rev_0, l_rev_2, l_rev_6, l_rev_7, l_rev_9, l_rev_17, l_revs_0, l_revs_1, l_revC_0, l_rex_2, l_rex_5, l_rexs_0, l_rexs_1, rtgtA, rtgt, eq_self, cx_call, rtruth_1, Option.map_some, Nat.reduceEqDiff, Bool.not_true]
theorem gaps_ok (k : Nat) (t : T) (ht : htT t 2) (ρ : Env) (H : Hp) (h1 : rlk 142 ρ = some (vT t)) (h2 : rlk 141 ρ = some (vT (prT t))) :
    rex (cx (k + 10)) f_law_2 ρ H = some (.next, rup 179 (shownV [32, 32] t) (rup 148 (.str [32, 32]) (rup 179 (shownV [] t) (rup 148 (.str []) ρ))), H) := by
  refine rex_for (src := .tup [.str [], .str [32, 32]]) (vs := [.str [], .str [32, 32]]) (H1 := H) (by simp only [l_rev_0, l_rev_9, l_revs_0, l_revs_1, eq_self]) rfl ?_
  rw [rforF_1, gap_turn rfl (by decide) k t ht ρ H h1 h2]
  dsimp only
  rw [rforF_1, gap_turn rfl (by decide) k t ht _ H (by rw [rlk_rup, if_neg (by decide), rlk_rup, if_neg (by decide)]; exact h1) (by rw [rlk_rup, if_neg (by decide), rlk_rup, if_neg (by decide)]; exact h2)]
  dsimp only
  rw [rforF_0]
open PySem
theorem rexs_next {C : RCx} {s : RS} {ss : RSs} {ρ ρ1 : Env} {H H1 : Hp} {r : Option (Fl × Env × Hp)} (h1 : rex C s ρ H = some (.next, ρ1, H1)) (h2 : rexs C ss ρ1 H1 = r) : rexs C (.cons s ss) ρ H = r := by
  rw [l_rexs_1, h1]
  exact h2
theorem rexs_ret {C : RCx} {s : RS} {ss : RSs} {ρ ρ1 : Env} {H H1 : Hp} {v : V} (h1 : rex C s ρ H = some (.ret v, ρ1, H1)) : rexs C (.cons s ss) ρ H = some (.ret v, ρ1, H1) := by
  rw [l_rexs_1, h1]
section
variable (k j : Nat) (ns : List Int) (t : T) (w r vs : List Nat)
noncomputable def e1E (S : V) : Env := [(178, S)]
noncomputable def e2E (S : V) : Env := [(178, S), (170, .ref 0)]
noncomputable def e3E (S : V) (t : T) : Env := [(178, S), (170, .ref 0), (142, vT t)]
noncomputable def e4E (S : V) (t : T) : Env := [(178, S), (170, .ref 0), (142, vT t), (141, vT (prT t))]
noncomputable def e5E (S : V) (t : T) : Env := [(178, S), (170, .ref 0), (142, vT t), (141, vT (prT t)), (148, .str [32, 32]), (179, shownV [32, 32] t)]
noncomputable def e6E (S : V) (t : T) (w : List Nat) : Env := [(178, S), (170, .ref 0), (142, vT t), (141, vT (prT t)), (148, .str [32, 32]), (179, shownV [32, 32] t), (168, .str w)]
noncomputable def e7E (S : V) (t : T) (w r : List Nat) : Env := [(178, S), (170, .ref 0), (142, vT t), (141, vT (prT t)), (148, .str [32, 32]), (179, shownV [32, 32] t), (168, .str w), (150, .str r)]
noncomputable def e8E (S : V) (t : T) (w r : List Nat) : Env := [(178, S), (170, .ref 0), (142, vT t), (141, vT (prT t)), (148, .str [32, 32]), (179, shownV [32, 32] t), (168, .str w), (150, .str r), (176, .lst (KWl.map sV))]
noncomputable def e9E (S : V) (t : T) (w r : List Nat) : Env := [(178, S), (170, .ref 0), (142, vT t), (141, vT (prT t)), (148, .str [32, 32]), (179, shownV [32, 32] t), (168, .str w), (150, .str r), (176, .lst (KWl.map sV)), (180, .lst (STl.map sV))]
theorem st1 (S : V) (hS : rev (cx k) c_law_0 [(178, S)] [] = some (.lst (vs.map vi), [])) : rex (cx k) (.asg (.one (.name 170)) (.lst (.cons (.val (.int 0)) (.cons c_law_0 .nil)))) (e1E S) [] = some (.next, e2E S, [tubeO 0 vs]) := by
  have t0 : AO.list [V.int 0, V.lst (vs.map vi)] = tubeO 0 vs := rfl
  simp only [e1E, e2E, hS, t0, l_rev_0, l_rev_10, l_revs_0, l_revs_1, l_rex_2, rtgtA, rtgt, rup_0, rup_1, Nat.reduceBEq, eq_self, List.nil_append, List.length_nil]
theorem st2 (S : V) {H H' : Hp} (a1 : rF RP k false 65 [.ref 0, .int 2] H = some (vT t, H')) : rex (cx k) (.asg (.one (.name 142)) (.fn 65 (.cons (.loc 170) (.cons (.val (.int 2)) .nil)))) (e2E S) H = some (.next, e3E S t, H') := by
  simp only [e2E, e3E, a1, l_rev_0, l_rev_2, l_rev_17, l_revs_0, l_revs_1, l_rex_2, rtgtA, rtgt, rlk_1, rup_0, rup_1, Nat.reduceBEq, eq_self, cx_call]
theorem st3 (S : V) {H : Hp} (a2 : rF RP k false 40 [vT t] H = some (vT (prT t), H)) : rex (cx k) (.asg (.one (.name 141)) (.fn 40 (.cons (.loc 142) .nil))) (e3E S t) H = some (.next, e4E S t, H) := by
  simp only [e3E, e4E, a2, l_rev_2, l_rev_17, l_revs_0, l_revs_1, l_rex_2, rtgtA, rtgt, rlk_1, rup_0, rup_1, Nat.reduceBEq, eq_self, cx_call]
theorem st4 (S : V) {H : Hp} (a3 : rF RP k false 66 [vT t] H = some (vT (prT t), H)) (a4 : rF RP k false 40 [vT (prT t)] H = some (vT (prT t), H)) (e1 : eqV H (vT (prT t)) (vT (prT t)) = some true) : rex (cx k) (.ite (.bop true (.cmp (.loc 141) (.one .NotEq (.fn 66 (.cons (.loc 142) .nil)))) (.cmp (.fn 40 (.cons (.loc 141) .nil)) (.one .NotEq (.loc 141)))) (.cons
  (.ret (.val (.bool false)))
  .nil) .nil) (e4E S t) H = some (.next, e4E S t, H) := by
  simp only [e4E, a3, a4, e1, cmp_ne, l_rev_2, l_rev_6, l_rev_7, l_rev_17, l_revs_0, l_revs_1, l_revC_0, l_rex_5, l_rexs_0, rlk_1, Nat.reduceBEq, eq_self, cx_call, rtruth_1, Option.map_some, Bool.not_true]
theorem st5 (S : V) (ht : htT t 2) (H : Hp) : rex (cx (k + 10)) f_law_2 (e4E S t) H = some (.next, e5E S t, H) := by
  have a5 := gaps_ok k t ht (e4E S t) H rfl rfl
  rw [a5]
  rfl
theorem st6 (S : V) {H H' : Hp} (a6 : rev (cx k) c_law_3 (e5E S t) H = some (.lst (w.map sC), H')) (jw : sJoin H' [] (.lst (w.map sC)) = some (.str w)) : rex (cx k) (.asg (.one (.name 168)) (.meth (.val (.str [])) 0 (.cons c_law_3 .nil))) (e5E S t) H = some (.next, e6E S t w, H') := by
  unfold e5E at a6 ⊢
  simp only [e6E, a6, jw, rstrM_join, l_rev_0, l_rev_18, l_revs_0, l_revs_1, l_rex_2, rtgtA, rtgt, rup_0, rup_1, Nat.reduceBEq, eq_self]
theorem st7 (S : V) {H : Hp} (b : Bool) (a7 : rF RP k false 45 [.str w] H = some (.bool b, H)) (a8 : rF RP k false 67 [.str w] H = some (.bool b, H)) : rex (cx k) (.ite (.cmp (.blt 6 (.cons (.fn 45 (.cons (.loc 168) .nil)) .nil)) (.one .NotEq (.blt 6 (.cons (.fn 67 (.cons (.loc 168) .nil)) .nil)))) (.cons
  (.ret (.val (.bool false)))
  .nil) .nil) (e6E S t w) H = some (.next, e6E S t w, H) := by
  simp only [e6E, a7, a8, rblt_repr, leq_refl, cmp_ne, eqV_str, l_rev_2, l_rev_7, l_rev_16, l_rev_17, l_revs_0, l_revs_1, l_revC_0, l_rex_5, l_rexs_0, rlk_1, Nat.reduceBEq, eq_self, cx_call, rtruth_1, Option.map_some, Bool.not_true]
theorem st8 (S : V) {H H' : Hp} (a6 : rev (cx k) c_law_4 (e6E S t w) H = some (.lst (r.map sC), H')) (jw : sJoin H' [] (.lst (r.map sC)) = some (.str r)) : rex (cx k) (.asg (.one (.name 150)) (.meth (.val (.str [])) 0 (.cons c_law_4 .nil))) (e6E S t w) H = some (.next, e7E S t w r, H') := by
  unfold e6E at a6 ⊢
  simp only [e7E, a6, jw, rstrM_join, l_rev_0, l_rev_18, l_revs_0, l_revs_1, l_rex_2, rtgtA, rtgt, rup_0, rup_1, Nat.reduceBEq, eq_self]
theorem st9 (S : V) {H : Hp} (out : List V) (n : Int) (hn : rblt 0 H [.str r] = some (.int n)) (b1 : rF RP k false 69 [.str r] H = some (.lst out, H)) (b2 : rF RP k false 68 [.str r] H = some (.lst out, H)) (e2 : eqV H (.lst out) (.lst out) = some true) (b3 : rF RP k false 63 [.str r, .int n] H = some (.none, H)) : rex (cx k) (.ite (.bop true (.cmp (.fn 69 (.cons (.loc 150) .nil)) (.one .NotEq (.fn 68 (.cons (.loc 150) .nil)))) (.cmp (.fn 63 (.cons (.loc 150) (.cons (.blt 0 (.cons (.loc 150) .nil)) .nil))) (.one .IsNot (.val .none)))) (.cons
  (.ret (.val (.bool false)))
  .nil) .nil) (e7E S t w r) H = some (.next, e7E S t w r, H) := by
  simp only [e7E, b1, b2, e2, hn, b3, cmp_ne, cmp_isnN, l_rev_0, l_rev_2, l_rev_6, l_rev_7, l_rev_16, l_rev_17, l_revs_0, l_revs_1, l_revC_0, l_rex_5, l_rexs_0, rlk_1, Nat.reduceBEq, eq_self, cx_call, rtruth_1, Option.map_some, Bool.not_true]
theorem st10a (H : Hp) : binop .Add H (.str r1T) (.str [32]) = some (.str (r1T ++ [32])) := binop_add H r1T [32] (by have := r1_len; rw [List.length_cons, List.length_nil]; (first | lia | omega))
theorem st10b (H : Hp) : binop .Add H (.str (r1T ++ [32])) (.str r2T) = some (.str ((r1T ++ [32]) ++ r2T)) := binop_add H (r1T ++ [32]) r2T (by have := r1_len; have := r2_len; rw [List.length_append, List.length_cons, List.length_nil]; (first | lia | omega))
theorem st10c (H : Hp) : binop .Add H (.str ((r1T ++ [32]) ++ r2T)) (.str r4T) = some (.str knT) := binop_add H ((r1T ++ [32]) ++ r2T) r4T (by have := r1_len; have := r2_len; have := r4_len; rw [List.length_append, List.length_append, List.length_cons, List.length_nil]; (first | lia | omega))
theorem st10d (H : Hp) : rstrM 2 H knT [.str [32]] = some (.lst (KWl.map sV)) := splitTo_ok kn_split H
theorem st10e (C : RCx) (S : V) (H : Hp) (x1 x2 A B K : List Nat) (g8 : C.glb 108 = .str x1) (g9 : C.glb 109 = .str x2) (c1 : ∀ H, binop .Add H (.str x1) (.str [32]) = some (.str A)) (c2 : ∀ H, binop .Add H (.str A) (.str x2) = some (.str B)) (c3 : ∀ H, binop .Add H (.str B) (.str [32, 110, 117, 108, 108, 32, 116, 114, 117, 101, 32, 102, 97, 108, 115, 101]) = some (.str K)) (ws : List V) (c4 : ∀ H, rstrM 2 H K [.str [32]] = some (.lst ws)) :
    rex C (.asg (.one (.name 176)) (.meth (.bin .Add (.bin .Add (.bin .Add (.glb 108) (.val (.str [32]))) (.glb 109)) (.val (.str [32, 110, 117, 108, 108, 32, 116, 114, 117, 101, 32, 102, 97, 108, 115, 101]))) 2 (.cons (.val (.str [32])) .nil))) (e7E S t w r) H = some (.next, [(178, S), (170, .ref 0), (142, vT t), (141, vT (prT t)), (148, .str [32, 32]), (179, shownV [32, 32] t), (168, .str w), (150, .str r), (176, .lst ws)], H) := by
  simp only [e7E, g8, g9, c1, c2, c3, c4, l_rev_0, l_rev_1, l_rev_3, l_rev_18, l_revs_0, l_revs_1, l_rex_2, rtgtA, rtgt, rup_0, rup_1, Nat.reduceBEq, eq_self]
theorem st10 (S : V) (H : Hp) : rex (cx k) (.asg (.one (.name 176)) (.meth (.bin .Add (.bin .Add (.bin .Add (.glb 108) (.val (.str [32]))) (.glb 109)) (.val (.str [32, 110, 117, 108, 108, 32, 116, 114, 117, 101, 32, 102, 97, 108, 115, 101]))) 2 (.cons (.val (.str [32])) .nil))) (e7E S t w r) H = some (.next, e8E S t w r, H) :=
  st10e t w r (cx k) S H r1T r2T (r1T ++ [32]) ((r1T ++ [32]) ++ r2T) knT (gl108 k) (gl109 k) st10a st10b st10c (KWl.map sV) st10d
theorem st11e (C : RCx) (S : V) (H : Hp) (K : List Nat) (ws : List V) (g : C.glb 110 = .str K) (c5 : ∀ H, rstrM 2 H K [.str [32]] = some (.lst ws)) : rex C (.asg (.one (.name 180)) (.meth (.glb 110) 2 (.cons (.val (.str [32])) .nil))) (e8E S t w r) H = some (.next, [(178, S), (170, .ref 0), (142, vT t), (141, vT (prT t)), (148, .str [32, 32]), (179, shownV [32, 32] t), (168, .str w), (150, .str r), (176, .lst (KWl.map sV)), (180, .lst ws)], H) := by
  simp only [e8E, g, c5, l_rev_0, l_rev_1, l_rev_18, l_revs_0, l_revs_1, l_rex_2, rtgtA, rtgt, rup_0, rup_1, Nat.reduceBEq, eq_self]
theorem st11 (S : V) (H : Hp) : rex (cx k) (.asg (.one (.name 180)) (.meth (.glb 110) 2 (.cons (.val (.str [32])) .nil))) (e8E S t w r) H = some (.next, e9E S t w r, H) :=
  st11e t w r (cx k) S H r3T (STl.map sV) (gl110 k) (splitTo_ok st_split)
end
open PySem
theorem punct_nil : punctL [] = none := by decide +kernel
theorem law_true (k : Nat) (ns : List Int) (h : ns.length ≤ 63) : rF RP (k + 11) false 70 [.lst (ns.map .int)] [] = some (.bool true, []) := by
  have hv := tubeL_len ns
  obtain ⟨t, j1, ht, a1⟩ := tree_ok (tubeL ns) hv [] (k + 3) 2 2 rfl 0
  have a2 := prune_ok t 2 (k + 6) [tubeO j1 (tubeL ns)] (by decide) ht
  have a3 := pruned_ok t 2 (k + 6) [tubeO j1 (tubeL ns)] (by decide) ht
  have a4 := prune_ok (prT t) 2 (k + 6) [tubeO j1 (tubeL ns)] (by decide) (prT_ht t 2 ht)
  rw [prT_idem] at a4
  have e1 := eqV_same (H := [tubeO j1 (tubeL ns)]) (d := 2) (by decide) (prT_ht t 2 ht)
  obtain ⟨w, j2, w1, w2, a6⟩ := chars3 (k + 9) j1 (tubeL ns) hv (e5E (.lst (ns.map .int)) t) rfl
  obtain ⟨r, j3, r1, r2, a9⟩ := chars4 (k + 9) j2 (tubeL ns) hv (e6E (.lst (ns.map .int)) t w) rfl
  have hAt : At r (r.length : Int) [] := ⟨by (first | lia | omega), by (first | lia | omega), by simp, by (first | lia | omega)⟩
  have b3 := punct_ok hAt (k + 9) [tubeO j3 (tubeL ns)]
  rw [punct_nil] at b3
  obtain ⟨ρ', j4, d1⟩ := somes_ok (k + 9) j3 (tubeL ns) hv (e9E (.lst (ns.map .int)) t w r) ⟨rfl, rfl, rfl⟩
  refine rF_fn (d := d_law) rfl rfl (by rw [vpures_1, vpure_5, pures_ints]; rfl) (v := .bool true) (H' := [tubeO j4 (tubeL ns)]) ?_ rfl
  have body : rexs (cx (k + 10)) b_law (e1E (.lst (ns.map .int))) [] = some (.ret (.bool true), ρ', [tubeO j4 (tubeL ns)]) := by
    refine rexs_next (st1 (k + 10) (tubeL ns) _ (law0 (k + 10) ns h)) ?_
    refine rexs_next (st2 (k + 10) t _ a1) ?_
    refine rexs_next (st3 (k + 10) t _ a2) ?_
    refine rexs_next (st4 (k + 10) t _ a3 a4 e1) ?_
    refine rexs_next (st5 k t _ ht _) ?_
    refine rexs_next (st6 (k + 10) t w _ a6 (join_chars _ w (by (first | lia | omega)))) ?_
    refine rexs_next (st7 (k + 10) t w _ _ (is_name_ok (k + 6) w w1 (by (first | lia | omega)) _) (law_name_ok (k + 9) w w1 (by (first | lia | omega)) _)) ?_
    refine rexs_next (st8 (k + 10) t w r _ a9 (join_chars _ r (by (first | lia | omega)))) ?_
    refine rexs_next (st9 (k + 10) t w r _ ((cutV r.length r).map oV) (r.length : Int) rfl (cut_by_ok (k + 8) r (by (first | lia | omega)) _) (cut_ok (k + 9) r (by (first | lia | omega)) _) (eqV_oo _ (cutV r.length r) (by have := (cutV_ok r.length r).2; (first | lia | omega)) (cutV_ok r.length r).1) b3) ?_
    refine rexs_next (st10 (k + 10) t w r _ _) ?_
    refine rexs_next (st11 (k + 10) t w r _ _) ?_
    refine rexs_next d1 ?_
    refine rexs_ret ?_
    rw [l_rex_1, l_rev_0]
  unfold rrun
  rw [show rbindP d_law.params [.lst (ns.map .int)] = some (e1E (.lst (ns.map .int))) from rfl]
  dsimp only
  rw [show d_law.body = b_law from rfl, body]
end Mine.R
end
section
open PySem PySem.W PyProof.Rows
namespace Mine
theorem zip_lookup_some {ps : List Str} : ∀ {vs : List Value}, vs.length = ps.length → ∀ n ∈ ps, ∃ v, (ps.zip vs).lookup n = some v := by
  induction ps with
  | nil => intro vs _ n h; cases h
  | cons p ps ih =>
    intro vs hl n hn
    cases vs with
    | nil => first | exact Mine.nos hl | exact Mine.ff0 hl | exact Mine.tf0 hl | exact Mine.sn0 hl | cases hl
    | cons v vs =>
      rw [List.zip_cons_cons, List.lookup_cons]
      by_cases h : n = p
      · subst h; exact ⟨v, by simp⟩
      · rw [beq_eq_false_iff_ne.mpr h]
        exact ih (by simpa using hl) n ((List.mem_cons.mp hn).resolve_left h)
theorem zip_filterMap {ps : List Str} : ∀ {vs : List Value}, ps.Nodup → vs.length = ps.length → ∀ (L : List (Str × Value)), (∀ n ∈ ps, L.lookup n = (ps.zip vs).lookup n) → ps.filterMap (fun n => (L.lookup n).map (n, ·)) = ps.zip vs := by
  induction ps with
  | nil => intro vs _ _ L _; rfl
  | cons p ps ih =>
    intro vs hn hl L hL
    cases vs with
    | nil => first | exact Mine.nos hl | exact Mine.ff0 hl | exact Mine.tf0 hl | exact Mine.sn0 hl | cases hl
    | cons v vs =>
      rw [List.nodup_cons] at hn
      have h0 : L.lookup p = some v := by rw [hL p List.mem_cons_self, List.zip_cons_cons, List.lookup_cons]; simp
      rw [List.filterMap_cons, h0]
      dsimp only [Option.map_some]
      rw [List.zip_cons_cons, ih hn.2 (by simpa using hl) L fun n h => ?_]
      rw [hL n (List.mem_cons_of_mem _ h), List.zip_cons_cons, List.lookup_cons, beq_eq_false_iff_ne.mpr (fun (e : n = p) => hn.1 (by rw [← e]; exact h))]
theorem bind_plain {fd : FuncData} {as : List Arg} {vs : List Value} (hp : fd.params = ⟨[], as, none, [], [], none, []⟩) (hd : fd.defaults = .none) (hn : (as.map (·.arg)).Nodup) (hl : vs.length = (as.map (·.arg)).length) :
    bindArgs fd ⟨vs, []⟩ = pure ((as.map (·.arg)).zip vs) := by
  have hmiss : ((as.map (·.arg)).filter fun n => (((as.map (·.arg)).zip vs).lookup n).isNone) = [] := by
    rw [List.filter_eq_nil_iff]
    intro n h
    obtain ⟨v, e⟩ := zip_lookup_some hl n h
    rw [e]; simp
  have hf := zip_filterMap hn hl _ fun _ _ => rfl
  unfold bindArgs
  have e0 : seqItems? Value.none = pure none := rfl
  have e1 : (as.map (·.arg)).drop (as.map (·.arg)).length = [] := List.drop_length ..
  simp only [hp, hd, hl, e0, e1, List.map_nil, List.nil_append, List.append_nil, List.forIn_nil, pure_bind, List.length_nil, List.drop_nil, Nat.sub_zero, List.take_length, hmiss, hf, Option.getD_none, List.isEmpty_nil, Bool.not_true, gt_iff_lt, Nat.lt_irrefl, decide_false, Bool.false_and, if_false, List.zip_nil_left, Bool.false_eq_true, Nat.sub_self]
end Mine
end
section
open PySem PySem.W PyProof.Rows
section
namespace Mine

/-! what the ground holds, by looks at its written-out part K -/
noncomputable def isTy (v : Value) (n : String) : Bool := match v with
  | .type t => t == n
  | _ => false
theorem isTy_ok {v : Value} {n : String} (h : isTy v n = true) : v = .type n := by
  unfold isTy at h
  split at h
  · rw [beq_iff_eq.mp h]
  · first | exact Mine.nos h | exact Mine.ff0 h | exact Mine.tf0 h | exact Mine.sn0 h | cases h
/-- a look at K, quick for the kernel -/
noncomputable def lkQ (K : Frag) (a : Nat) : Option Obj := List.rec (motive := fun _ => Option Obj) none (fun p _ ih => match Nat.beq a p.1 with | true => some p.2 | false => ih) K
theorem lkQ_ok {a : Nat} {o : Obj} : ∀ {K : Frag}, lkQ K a = some o → K.lookup a = some o := by
  intro K
  induction K with
  | nil => intro e; cases e
  | cons p r ih =>
    intro e
    have e : (match Nat.beq a p.1 with | true => some p.2 | false => lkQ r a) = some o := e
    rw [List.lookup_cons]
    cases q : Nat.beq a p.1 with
    | true => rw [q] at e; rw [Nat.eq_of_beq_eq_true q, beq_self_eq_true]; exact e
    | false => rw [q] at e; rw [beq_eq_false_iff_ne.mpr (Nat.ne_of_beq_eq_false q)]; exact ih e
noncomputable def seqAt (K : Frag) (n : String) (v : Value) : Option (List Value) := match v with
  | .ref a => (match lkQ K a with
    | some ⟨c, _, .seq xs _, _⟩ => (match isTy c n with | true => some xs.toList | false => none)
    | _ => none)
  | _ => none
theorem seqAt_ok {K : Frag} {n : String} {v : Value} {xs : List Value} (e : seqAt K n v = some xs) : ∃ a ob m, v = .ref a ∧ K.lookup a = some ob ∧ ob.cls = .type n ∧ ob.data = .seq xs.toArray m := by
  unfold seqAt at e
  split at e
  · split at e
    · rename_i hl
      split at e
      · rename_i hc
        cases e
        exact ⟨_, _, _, rfl, lkQ_ok hl, isTy_ok hc, by simp; rfl⟩
      · first | exact Mine.nos e | exact Mine.ff0 e | exact Mine.tf0 e | exact Mine.sn0 e | cases e
    · first | exact Mine.nos e | exact Mine.ff0 e | exact Mine.tf0 e | exact Mine.sn0 e | cases e
  · first | exact Mine.nos e | exact Mine.ff0 e | exact Mine.tf0 e | exact Mine.sn0 e | cases e
noncomputable def flChk (v : Value) (d : V) : Bool := match d, v with
  | .str l, .str x _ => leq (cps x) l && szOk l.length
  | .bool b, .bool c => b == c
  | _, _ => false
theorem flChk_ok {v : Value} {d : V} (h : flChk v d = true) : FlatR v d := by
  unfold flChk at h
  split at h
  · rw [Bool.and_eq_true] at h
    exact .str (leq_iff.mp h.1) (szOk_le h.2)
  · rw [beq_iff_eq.mp h]
    exact .bool _
  · first | exact Mine.nos h | exact Mine.ff0 h | exact Mine.tf0 h | exact Mine.sn0 h | cases h
mutual
noncomputable def vChk (K : Frag) : Nat → Value → V → Bool
  | 0, _, _ => false
  | n + 1, v, d => match d with
    | .none => (match v with | .none => true | _ => false)
    | .bool b => (match v with | .bool c => b == c | _ => false)
    | .int i => (match v with | .int j _ => decide (i = j) | _ => false)
    | .str l => (match v with | .str x _ => leq (cps x) l && szOk l.length | _ => false)
    | .tup ds => (match seqAt K "tuple" v with | some xs => vsChk K n xs ds | none => false)
    | .lst ds => (match seqAt K "list" v with | some xs => vsChk K n xs ds | none => false)
    | _ => false
noncomputable def vsChk (K : Frag) : Nat → List Value → List V → Bool
  | 0, _, _ => false
  | n + 1, vs, ds => match vs, ds with
    | [], [] => true
    | v :: vs, d :: ds => vChk K n v d && vsChk K n vs ds
    | _, _ => false
end
theorem vsChk_0 (K : Frag) (x : List Value) (x_1 : List V) : vsChk K 0 x x_1 = false := rfl
theorem vChk_0 (K : Frag) (x : Value) (x_1 : V) : vChk K 0 x x_1 = false := rfl
variable {Wd : World} {Cl : Addr} {B : Heap} {K : Frag}
mutual
theorem vChk_ok (X : K.In B) : ∀ {n : Nat} {v : Value} {d : V}, vChk K n v d = true → VR Wd Cl B [] [] v d
  | 0, _, _, h => by rw [vChk_0] at h; first | exact Mine.nos h | exact Mine.ff0 h | exact Mine.tf0 h | exact Mine.sn0 h | cases h
  | n + 1, v, d, h => by
    rw [vChk.eq_def] at h
    dsimp only at h
    split at h
    · split at h
      · exact .none
      · first | exact Mine.nos h | exact Mine.ff0 h | exact Mine.tf0 h | exact Mine.sn0 h | cases h
    · split at h
      · rw [beq_iff_eq.mp h]; exact .bool _
      · first | exact Mine.nos h | exact Mine.ff0 h | exact Mine.tf0 h | exact Mine.sn0 h | cases h
    · split at h
      · rw [of_decide_eq_true h]; exact .int _ _
      · first | exact Mine.nos h | exact Mine.ff0 h | exact Mine.tf0 h | exact Mine.sn0 h | cases h
    · split at h
      · rw [Bool.and_eq_true] at h
        exact .str (leq_iff.mp h.1) (szOk_le h.2)
      · first | exact Mine.nos h | exact Mine.ff0 h | exact Mine.tf0 h | exact Mine.sn0 h | cases h
    · split at h
      · rename_i xs e
        obtain ⟨a, ob, m, rfl, e1, e2, e3⟩ := seqAt_ok e
        exact .tup (X _ _ e1) List.not_mem_nil List.not_mem_nil e2 e3 (vsChk_ok X h)
      · first | exact Mine.nos h | exact Mine.ff0 h | exact Mine.tf0 h | exact Mine.sn0 h | cases h
    · split at h
      · rename_i xs e
        obtain ⟨a, ob, m, rfl, e1, e2, e3⟩ := seqAt_ok e
        exact .lst (X _ _ e1) List.not_mem_nil List.not_mem_nil e2 e3 (vsChk_ok X h)
      · first | exact Mine.nos h | exact Mine.ff0 h | exact Mine.tf0 h | exact Mine.sn0 h | cases h
    · first | exact Mine.nos h | exact Mine.ff0 h | exact Mine.tf0 h | exact Mine.sn0 h | cases h
theorem vsChk_ok (X : K.In B) : ∀ {n : Nat} {vs : List Value} {ds : List V}, vsChk K n vs ds = true → VRs Wd Cl B [] [] vs ds
  | 0, _, _, h => by rw [vsChk_0] at h; first | exact Mine.nos h | exact Mine.ff0 h | exact Mine.tf0 h | exact Mine.sn0 h | cases h
  | n + 1, vs, ds, h => by
    rw [vsChk.eq_def] at h
    dsimp only at h
    split at h
    · exact .nil
    · rw [Bool.and_eq_true] at h
      exact .cons (vChk_ok X h.1) (vsChk_ok X h.2)
    · first | exact Mine.nos h | exact Mine.ff0 h | exact Mine.tf0 h | exact Mine.sn0 h | cases h
end
/-- a dict's entries -/
noncomputable def dctAt (K : Frag) (v : Value) : Option (List DictEntry) := match v with
  | .ref a => (match lkQ K a with
    | some ⟨c, none, .dict es _, ⟨[]⟩⟩ => (match isTy c "dict" && !(a == sysModules) with | true => some es.toList | false => none)
    | _ => none)
  | _ => none
theorem dctAt_ok {v : Value} {es : List DictEntry} (e : dctAt K v = some es) : ∃ a n, v = .ref a ∧ K.lookup a = some ⟨.type "dict", none, .dict es.toArray n, #[]⟩ ∧ (a == sysModules) = false := by
  unfold dctAt at e
  split at e
  · split at e
    · rename_i c es' m hl
      split at e
      · rename_i hc
        cases e
        rw [Bool.and_eq_true, Bool.not_eq_true'] at hc
        refine ⟨_, m, rfl, (lkQ_ok hl).trans ?_, hc.2⟩
        rw [isTy_ok hc.1]
      · first | exact Mine.nos e | exact Mine.ff0 e | exact Mine.tf0 e | exact Mine.sn0 e | cases e
    · first | exact Mine.nos e | exact Mine.ff0 e | exact Mine.tf0 e | exact Mine.sn0 e | cases e
  · first | exact Mine.nos e | exact Mine.ff0 e | exact Mine.tf0 e | exact Mine.sn0 e | cases e
noncomputable def kChk (v : Value) (k : List Nat) : Bool := match v with
  | .str x _ => leq (cps x) k
  | _ => false
theorem kChk_ok {v : Value} {k : List Nat} (h : kChk v k = true) : ∃ x t, v = .str x t ∧ cps x = k := by
  cases v with
  | str x t => exact ⟨x, t, rfl, leq_iff.mp h⟩
  | _ => first | exact Mine.nos h | exact Mine.ff0 h | exact Mine.tf0 h | exact Mine.sn0 h | cases h
noncomputable def dChk : List DictEntry → List (List Nat × V) → Bool
  | [], ds => ds.isEmpty
  | e :: es, ds => match ds with
    | [] => false
    | p :: ds => kChk e.key p.1 && flChk e.val p.2 && dChk es ds
theorem dChk_2 (e : DictEntry) (es : List DictEntry) (p : List Nat × V) (ds_1 : List (List Nat × V)) : dChk (e :: es) (p :: ds_1) = (kChk e.key p.fst && flChk e.val p.snd && dChk es ds_1) := rfl
noncomputable def strOf (l : List Nat) : Str := ⟨l.toArray⟩
theorem dChk_ok {P : Params} : ∀ (es : List DictEntry) (ds : List (List Nat × V)), dChk es ds = true → es.map (·.hash) = ds.map (fun p => PyData.keyHash P (strOf p.1)) → DR P es ds := by
  intro es
  induction es with
  | nil =>
    intro ds h _
    cases ds with
    | nil => exact .nil
    | cons p ds => cases h
  | cons e es ih =>
    intro ds h q
    cases ds with
    | nil => first | exact Mine.nos h | exact Mine.ff0 h | exact Mine.tf0 h | exact Mine.sn0 h | cases h
    | cons p ds =>
      obtain ⟨hh, key, v⟩ := e
      obtain ⟨k, d⟩ := p
      rw [dChk_2, Bool.and_eq_true, Bool.and_eq_true] at h
      rw [List.map_cons, List.map_cons, List.cons.injEq] at q
      obtain ⟨x, t, rfl, hx⟩ := kChk_ok h.1.1
      refine .cons hx ?_ (flChk_ok h.1.2) (ih ds h.2 q.2)
      rw [show x = strOf k from cps_inj hx]; exact q.1
noncomputable def dOf : Option (Option Value) → Option Value
  | some (some v) => some v
  | _ => none
theorem dOf_ok {x : Option (Option Value)} {v : Value} (h : dOf x = some v) : x = some (some v) := by
  unfold dOf at h
  split at h
  · cases h; rfl
  · first | exact Mine.nos h | exact Mine.ff0 h | exact Mine.tf0 h | exact Mine.sn0 h | cases h

/-- a def, as the ground has it, and as my program has it -/
structure FT where
  body : FuncBody
  sc : Scope
  ps : Option (List Str)
  df : Value
  g : Addr
  b : Addr
  cl : List (Str × Addr)
  cd : Bool
noncomputable def fdOf (K : Frag) (v : Option (Option Value)) : Option FuncData := match v with
  | some (some (.ref a)) => (match lkQ K a with
    | some ⟨_, _, .func fd, _⟩ => some fd
    | _ => none)
  | _ => none
theorem fdOf_ok {v : Option (Option Value)} {fd : FuncData} (e : fdOf K v = some fd) : ∃ a c d s, v = some (some (.ref a)) ∧ K.lookup a = some ⟨c, d, .func fd, s⟩ := by
  unfold fdOf at e
  split at e
  · split at e
    · rename_i hl; cases e; exact ⟨_, _, _, _, rfl, lkQ_ok hl⟩
    · first | exact Mine.nos e | exact Mine.ff0 e | exact Mine.tf0 e | exact Mine.sn0 e | cases e
  · first | exact Mine.nos e | exact Mine.ff0 e | exact Mine.tf0 e | exact Mine.sn0 e | cases e
noncomputable def nmIs (o : Option Obj) (q : Str) : Bool := match o with
  | some ⟨_, _, .fields vs, _⟩ => (match vs.toList with | _ :: .str n _ :: _ => seq n q | _ => false)
  | _ => false
noncomputable def codeQ (K : Frag) (cd : Value) (q : Str) : Bool := match cd with
  | .ref c => nmIs (lkQ K c) q
  | _ => false
theorem codeQ_ok {cd : Value} {q : Str} (h : codeQ K cd q = true) : codeIn K cd q = true := by
  unfold codeQ at h
  split at h
  · rename_i c
    cases e : lkQ K c with
    | none => rw [e] at h; exact Mine.ff0 h
    | some o =>
      rw [e] at h
      unfold codeIn
      dsimp only
      rw [lkQ_ok e]
      unfold nmIs at h
      split at h
      · rename_i e1
        cases e1
        split at h
        · rename_i e2
          dsimp only
          rw [e2]
          exact beq_iff_eq.mpr (seq_iff.mp h)
        · exact Mine.ff0 h
      · exact Mine.ff0 h
  · exact Mine.ff0 h
noncomputable def fnL (K : Frag) (v : Option (Option Value)) : Option FT := (fdOf K v).map fun fd => ⟨fd.body, fd.scope, simpleArgs fd.params, fd.defaults, fd.globals, fd.builtins, fd.closure, codeQ K fd.code fd.qualname⟩
noncomputable def fnR (d : Option FD) : Option FT := d.map fun d => ⟨.stmts d.body, d.scope, some d.params, .none, mainGlobals, builtinsNs, [], true⟩
theorem simpleArgs_ok {a : Arguments} {ps : List Str} (e : simpleArgs a = some ps) : ∃ as, a = ⟨[], as, none, [], [], none, []⟩ ∧ ps = as.map (·.arg) := by
  unfold simpleArgs at e
  split at e
  · cases e; exact ⟨_, rfl, rfl⟩
  · first | exact Mine.nos e | exact Mine.ff0 e | exact Mine.tf0 e | exact Mine.sn0 e | cases e
noncomputable def memS' (x : List Nat) : List (List Nat) → Bool
  | [] => false
  | y :: r => match leq x y with | true => true | false => memS' x r
theorem memS'_of {x : List Nat} : ∀ {l : List (List Nat)}, x ∈ l → memS' x l = true
  | y :: r, h => by
    rw [memS']
    cases q : leq x y with
    | true => rfl
    | false =>
      rcases List.mem_cons.mp h with e | e
      · rw [e, leq_iff.mpr rfl] at q; first | exact Mine.nos q | exact Mine.ff0 q | exact Mine.tf0 q | exact Mine.sn0 q | cases q
      · exact memS'_of e
noncomputable def ndS : List (List Nat) → Bool
  | [] => true
  | x :: r => !memS' x r && ndS r
theorem ndS_ok : ∀ {l : List (List Nat)}, ndS l = true → l.Nodup
  | [], _ => List.nodup_nil
  | x :: r, h => by
    rw [ndS, Bool.and_eq_true, Bool.not_eq_true'] at h
    refine List.nodup_cons.mpr ⟨fun m => ?_, ndS_ok h.2⟩
    rw [memS'_of m] at h
    cases h.1
theorem nodup_map {l : List Str} (h : (l.map cps).Nodup) : l.Nodup := by
  induction l with
  | nil => exact List.nodup_nil
  | cons x r ih =>
    rw [List.map_cons, List.nodup_cons] at h
    exact List.nodup_cons.mpr ⟨fun m => h.1 (List.mem_map.mpr ⟨_, m, rfl⟩), ih h.2⟩
theorem ndStr {l : List Str} (h : ndS (l.map cps) = true) : l.Nodup := nodup_map (ndS_ok h)
noncomputable def isFnK : ScopeKind → Bool
  | .function => true
  | _ => false
noncomputable def isFree : NameKind → Bool
  | .free => true
  | _ => false
noncomputable def scChk (d : FD) : Bool :=
  !d.scope.isCoroutine && !d.scope.isGenerator && isFnK d.scope.kind && d.params.all (fun x => kindIs d.scope x isOwn) && ndS (d.params.map cps) && ndS ((d.scope.names.map (·.1)).map cps) && d.scope.names.all (fun p => !isFree p.2)
theorem isFnK_ok {k : ScopeKind} (h : isFnK k = true) : k = .function := by cases k <;> first | rfl | cases h

theorem fnOk_of {G : Gd} {fd : FuncData} {d : FD} {v : Option (Option Value)} (gg : G.g = mainGlobals) (gb : G.bns = builtinsNs) (X : G.K.In G.B) (e : fdOf G.K v = some fd) (hq : fnL G.K v = fnR (some d)) (hs : scChk d = true) : FnOk G fd d := by
  unfold fnL fnR at hq
  rw [e, Option.map_some, Option.map_some, Option.some.injEq] at hq
  injection hq with h1 h2 h3 h4 h5 h6 h7 h8
  unfold scChk at hs
  simp only [Bool.and_eq_true, Bool.not_eq_true'] at hs
  obtain ⟨⟨⟨⟨⟨⟨s1, s2⟩, s3⟩, s4⟩, s5⟩, s6⟩, s7⟩ := hs
  obtain ⟨as, a1, a2⟩ := simpleArgs_ok h3
  refine ⟨h1, h2, gg ▸ h5, gb ▸ h6, h7, s1, s2, isFnK_ok s3, codeRec_of X (codeQ_ok h8), fun vs hl => ?_, s4, ndStr s5, ndStr s6, fun x hx => ?_⟩
  · rw [a2] at hl ⊢
    exact bind_plain a1 h4 (a2 ▸ ndStr s5) hl
  · have := List.all_eq_true.mp s7 _ (lk_mem hx)
    cases this
end Mine
end
end
section
open PySem PySem.W PyProof.Rows
section
namespace Mine

noncomputable def gl (K : Frag) (x : Str) : Option (Option Value) := nsIn K mainGlobals x
noncomputable def clOf (K : Frag) : Addr := match gl K (N "JsonReader") with
  | some (some (.ref a)) => a
  | _ => 0
noncomputable def cm (K : Frag) (x : Str) : Option (Option Value) := findIn K (.ref (clOf K)) x
/-- each name of a list: its def on the ground is the text's -/
noncomputable def AllF (K : Frag) (get : Str → Option (Option Value)) (l : List Stmt) : List Str → Prop
  | [] => True
  | x :: r => fnL K (get x) = fnR (findFn x l) ∧ AllF K get l r
theorem AllF.of {K : Frag} {get : Str → Option (Option Value)} {l : List Stmt} : ∀ {xs : List Str}, AllF K get l xs → ∀ x ∈ xs, fnL K (get x) = fnR (findFn x l)
  | y :: r, h, x, hx => by
    rcases List.mem_cons.mp hx with e | e
    · rw [e]; exact h.1
    · exact AllF.of h.2 x e
theorem anyS_mem {x : Str} : ∀ {l : List Str}, anyS x l = true → x ∈ l
  | y :: r, h => by
    rw [anyS_1] at h
    split at h
    · rename_i e; rw [seq_iff.mp e]; exact List.mem_cons_self
    · exact List.mem_cons_of_mem _ (anyS_mem h)
/-- dicts at the top -/
noncomputable def dL : List Str := (["JSON_SHORT", "JSON_ESCAPES", "JSON_CLOSERS", "PUNCT_TABLE"] : List String).map N
noncomputable def hL (K : Frag) (x : Str) : Option (List Int) := ((dOf (gl K x)).bind (dctAt K)).map fun es => es.map (·.hash)
noncomputable def hR (P : Params) (x : Str) : Option (List Int) := match gv x with
  | some (.dct ds) => some (ds.map fun p => PyData.keyHash P (strOf p.1))
  | _ => none
noncomputable def AllH (K : Frag) (P : Params) : List Str → Prop
  | [] => True
  | x :: r => hL K x = hR P x ∧ AllH K P r
theorem AllH.of {K : Frag} {P : Params} : ∀ {xs : List Str}, AllH K P xs → ∀ x ∈ xs, hL K x = hR P x
  | y :: r, h, x, hx => by
    rcases List.mem_cons.mp hx with e | e
    · rw [e]; exact h.1
    · exact AllH.of h.2 x e
noncomputable def gChk (K : Frag) (x : Str) : Bool := match gv x with
  | some d => (match d with
    | .dct ds => (match (dOf (gl K x)).bind (dctAt K) with
      | some es => dChk es ds && anyS x dL
      | none => false)
    | d => (match dOf (gl K x) with
      | some v => vChk K 100 v d
      | none => false))
  | none => false
noncomputable def bChk (K : Frag) (x : Str) : Bool := gl K x == some none
noncomputable def mChk (K : Frag) (x : Str) : Bool := match cm K x with
  | some (some (.ref a)) => isFn K (.ref a) && keepIn K (.ref a)
  | _ => false
noncomputable def aChk (K : Frag) (x : Str) : Bool := cm K x == some none && noGet K none && takerIn K (clOf K) x == some none
noncomputable def cChk (K : Frag) : Bool :=
  gl K (N "JsonReader") == some (some (.ref (clOf K))) && keepIn K (.ref (clOf K)) && plainGet K (clOf K) (N "") && hasDictIn K (clOf K) &&
  cm K "__setattr__" == some (some (.builtin "object.__setattr__")) && plainOver K (clOf K) && makesIn K (clOf K)
noncomputable def scAll (l : List Stmt) (xs : List Str) : Bool := xs.all fun x => match findFn x l with
  | some d => scChk d
  | none => false

/-- what has to be looked at -/
structure Rows (K : Frag) (P : Params) : Prop where
  f : AllF K (gl K) B fL
  m : AllF K (cm K) clsBody mL
  h : AllH K P dL
  g : gL.all (gChk K) = true
  b : bltNames.all (bChk K) = true
  mc : mL.all (mChk K) = true
  ac : aL.all (aChk K) = true
  c : cChk K = true

theorem sc_f : scAll B fL = true := by decide +kernel
theorem sc_m : scAll clsBody mL = true := by decide +kernel
theorem scAll_of {l : List Stmt} {xs : List Str} {x : Str} {d : FD} (h : scAll l xs = true) (hx : x ∈ xs) (hd : findFn x l = some d) : scChk d = true := by
  have := List.all_eq_true.mp h x hx
  rw [hd] at this
  exact this
theorem boot_all : ∀ x, PP.blt x = true → x ≠ "__name__" ∧ bootBuiltins x = some (bval x) := by
  intro x h
  have h : anyS x (["len", "str", "abs", "int", "max", "min", "ord", "repr", "range"] : List Str) = true := h
  have hm := anyS_mem h
  simp only [List.mem_cons, List.not_mem_nil, or_false] at hm
  rcases hm with rfl | rfl | rfl | rfl | rfl | rfl | rfl | rfl | rfl
  · exact ⟨by decide +kernel, by rw [show bval (Str.ofString "len") = Value.builtin "len" by decide +kernel]; boot_by_name⟩
  · exact ⟨by decide +kernel, by rw [show bval (Str.ofString "str") = Value.type "str" by decide +kernel]; boot_by_name⟩
  · exact ⟨by decide +kernel, by rw [show bval (Str.ofString "abs") = Value.builtin "abs" by decide +kernel]; boot_by_name⟩
  · exact ⟨by decide +kernel, by rw [show bval (Str.ofString "int") = Value.type "int" by decide +kernel]; boot_by_name⟩
  · exact ⟨by decide +kernel, by rw [show bval (Str.ofString "max") = Value.builtin "max" by decide +kernel]; boot_by_name⟩
  · exact ⟨by decide +kernel, by rw [show bval (Str.ofString "min") = Value.builtin "min" by decide +kernel]; boot_by_name⟩
  · exact ⟨by decide +kernel, by rw [show bval (Str.ofString "ord") = Value.builtin "ord" by decide +kernel]; boot_by_name⟩
  · exact ⟨by decide +kernel, by rw [show bval (Str.ofString "repr") = Value.builtin "repr" by decide +kernel]; boot_by_name⟩
  · exact ⟨by decide +kernel, by rw [show bval (Str.ofString "range") = Value.type "range" by decide +kernel]; boot_by_name⟩

/-- the ground, as my evaluator wants it -/
noncomputable def gd (prog : Program) (w : World) (K : Frag) (h : Heap) (mg mb : Str → Option Value) : Gd := ⟨prog, w, clOf K, h, PP, mainGlobals, builtinsNs, mg, mb, K⟩
theorem en_of {prog p : Program} {w : World} {K : Frag} {h : Heap} {mg mb : Str → Option Value} {loose : List Str} (X : K.In h) (T : TopRead p loose mg mb h) (R : Rows K w.params) : En (gd prog w K h mg mb) := by
  have hc := R.c
  unfold cChk at hc
  simp only [Bool.and_eq_true, beq_iff_eq] at hc
  obtain ⟨⟨⟨⟨⟨⟨c1, c2⟩, c3⟩, c4⟩, c5⟩, c6⟩, c7⟩ := hc
  refine ⟨T.nolimit, X, T.g, T.b, fun x d hx => ?_, fun x hx => ?_, fun x d hx hcl => ?_, fun x hx => ?_, fun x d hx => ?_, c2, c3, c4, fun x hx => ?_, c5, c6, c7⟩
  · have hx : (bif anyS x gL then gv x else none) = some d := hx
    cases q : anyS x gL with
    | false => rw [q] at hx; first | exact Mine.nos hx | exact Mine.ff0 hx | exact Mine.tf0 hx | exact Mine.sn0 hx | cases hx
    | true =>
      rw [q] at hx
      have hx : gv x = some d := hx
      have k := List.all_eq_true.mp R.g x (anyS_mem q)
      unfold gChk at k
      rw [hx] at k
      dsimp only at k
      split at k
      · rename_i ds
        split at k
        · rename_i es hes
          rw [Bool.and_eq_true] at k
          obtain ⟨v, hv, hd⟩ := Option.bind_eq_some_iff.mp hes
          obtain ⟨a, n, rfl, e1, e2⟩ := dctAt_ok hd
          have hh := R.h.of x (anyS_mem k.2)
          unfold hL hR at hh
          rw [hes, hx] at hh
          dsimp only [Option.map_some] at hh
          rw [Option.some.injEq] at hh
          exact ⟨_, mg_of X T.g (dOf_ok hv), .dct (X _ _ e1) List.not_mem_nil List.not_mem_nil e2 (dChk_ok _ _ k.1 hh)⟩
        · first | exact Mine.nos k | exact Mine.ff0 k | exact Mine.tf0 k | exact Mine.sn0 k | cases k
      · split at k
        · rename_i v hv
          exact ⟨_, mg_of X T.g (dOf_ok hv), vChk_ok X k⟩
        · first | exact Mine.nos k | exact Mine.ff0 k | exact Mine.tf0 k | exact Mine.sn0 k | cases k
  · have k := boot_all x hx
    refine ⟨mg_none_of X T.g ?_, (T.builtins x k.1).trans k.2⟩
    exact beq_iff_eq.mp (List.all_eq_true.mp R.b x (anyS_mem hx))
  · have hx : (bif anyS x fL then findFn x B else none) = some d := hx
    cases q : anyS x fL with
    | false => rw [q] at hx; first | exact Mine.nos hx | exact Mine.ff0 hx | exact Mine.tf0 hx | exact Mine.sn0 hx | cases hx
    | true =>
      rw [q] at hx
      have hx : findFn x B = some d := hx
      have hm := anyS_mem q
      have k := R.f.of x hm
      rw [hx] at k
      have k' := k
      unfold fnL fnR at k'
      rw [Option.map_some, Option.map_eq_some_iff] at k'
      obtain ⟨fd, e, -⟩ := k'
      obtain ⟨a, c, dd, s, e1, e2⟩ := fdOf_ok e
      refine ⟨.ref a, mg_of X T.g e1, ?_, a, _, fd, rfl, X _ _ e2, rfl, fnOk_of rfl rfl X e k (scAll_of sc_f hm hx)⟩
      show keepIn K (.ref a) = true
      unfold keepIn
      dsimp only
      rw [e2]
  · have hx : seq x (N "JsonReader") = true := hx
    rw [seq_iff.mp hx]
    exact mg_of X T.g c1
  · have hx : (bif anyS x mL then findFn x clsBody else none) = some d := hx
    cases q : anyS x mL with
    | false => rw [q] at hx; first | exact Mine.nos hx | exact Mine.ff0 hx | exact Mine.tf0 hx | exact Mine.sn0 hx | cases hx
    | true =>
      rw [q] at hx
      have hx : findFn x clsBody = some d := hx
      have hm := anyS_mem q
      have k := R.m.of x hm
      rw [hx] at k
      have k' := k
      unfold fnL fnR at k'
      rw [Option.map_some, Option.map_eq_some_iff] at k'
      obtain ⟨fd, e, -⟩ := k'
      obtain ⟨a, c, dd, s, e1, e2⟩ := fdOf_ok e
      have mc := List.all_eq_true.mp R.mc x hm
      unfold mChk at mc
      rw [e1] at mc
      dsimp only at mc
      rw [Bool.and_eq_true] at mc
      exact ⟨a, e1, mc.1, mc.2, a, _, fd, rfl, X _ _ e2, rfl, fnOk_of rfl rfl X e k (scAll_of sc_m hm hx)⟩
  · have hx : anyS x aL = true := hx
    have k := List.all_eq_true.mp R.ac x (anyS_mem hx)
    unfold aChk at k
    simp only [Bool.and_eq_true, beq_iff_eq] at k
    exact ⟨⟨_, k.1.1, k.1.2⟩, k.2⟩
end Mine
end
end
section
open PySem PySem.W PyProof.Rows
namespace Mine
theorem ints_vr {Wd : World} {Cl : Addr} {B : Heap} {vs : List Value} {ns : List Int} (h : IntsAre vs ns) : VRs Wd Cl B [] [] vs (ns.map V.int) := by
  induction h with
  | nil => exact .nil
  | cons n t _ ih => exact .cons (.int n t) ih
theorem nm_law : nmR 70 = N "law" := by decide +kernel
theorem room : Rm callerA 11 := ⟨rfl, by decide +kernel, by decide +kernel⟩
theorem law_ends {prog p : Program} {w : World} {K : Frag} {mg mb : Str → Option Value} {loose : List Str} {s : Shared} {fa a : Addr} {vs : List Value} {ns : List Int} {Q E : Value → Shared → Prop}
    (X : K.In s.heap) (T : TopRead p loose mg mb s.heap) (R : Rows K w.params) (hm : mg (N "law") = some (.ref fa)) (hl : s.heap.IsList a vs.toArray) (hi : IntsAre vs ns) (hn : ns.length ≤ 63)
    (h : ∀ s', (∃ h' tk, s' = { s with heap := h', toks := tk }) → (∀ b o, s.heap.get? b = some o → s'.heap.get? b = some o) → Q (.bool true) s') :
    wpAny (model prog w) callerA (call (.ref fa) [.ref a]) Q E s := by
  have En := en_of (prog := prog) X T R
  have q := Mine.R.rF_callF (f := 70) (by decide) (Mine.R.law_true 0 ns hn)
  rw [nm_law] at q
  obtain ⟨o, ho, hc, n, hd⟩ := hl
  have X0 : St (gd prog w K s.heap mg mb).W (gd prog w K s.heap mg mb).Cl (gd prog w K s.heap mg mb).B s.heap [] [] [] :=
    ⟨⟨rfl, List.nodup_nil, fun i o e => by simp at e⟩, fun b o e => ⟨e, List.not_mem_nil⟩, fun a ha => nomatch ha⟩
  have V0 : VRs (gd prog w K s.heap mg mb).W (gd prog w K s.heap mg mb).Cl s.heap [] [] [.ref a] [.lst (ns.map .int)] :=
    .cons (.lst ho List.not_mem_nil List.not_mem_nil hc hd (ints_vr hi)) .nil
  refine (callF_ok En 11 q).2.2 (fv := .ref fa) room X0 V0 (fun _ => hm) (fun k => nomatch k) fun v α' s' g X' V' => ?_
  cases V'
  exact h s' g.same fun b o e => g.keep b o e List.not_mem_nil
end Mine
end
section
open PySem PySem.W PyProof.Rows
section
namespace Mine
/-! the head: the top, run at once by the kernel over a tree of objects -/
abbrev pw : Program := PySem.Challenge.pw_pc0081_01
noncomputable def plant : List Obj → BT → Nat → Option BT
  | [], t, _ => some t
  | o :: r, t, n => match ((t.ins n o).get n).isSome with
    | true => plant r (t.ins n o) (n + 1)
    | false => none
theorem plant_ok {life : Life} : ∀ {l : List Obj} {t T : BT} {n : Nat}, plant l t n = some T → absHeap T (n + l.length) life = ⟨(absHeap t n life).objs ++ l.toArray, life⟩
  | [], t, T, n, e => by cases e; simp [absHeap]
  | o :: r, t, T, n, e => by
    unfold plant at e
    split at e
    · rename_i g
      have := plant_ok (life := life) e
      rw [List.length_cons, show n + (r.length + 1) = n + 1 + r.length by (first | lia | omega), this, absHeap_ins g]
      unfold Heap.push
      simp
    · cases e
/-- the run, by the quick twins -/
noncomputable def topRunQ (p : Program) (w : World) (n₀ : Nat) (ann : Option Value) : Nat → SharedT → Thread → Option SharedT
  | 0, _, _ => none
  | n + 1, s, t => match through t with
    | true => some s
    | false => match PySem.W.Fast.tw6613529449190102663 n₀ ann t with
      | false => none
      | true => match PySem.W.Fast.tw10156331382660048174 (PySem.W.Fast.tw11892475500146522536 PySem.W.Fast.tw14364793385576792824) p w s t with
        | some (s', t') => topRunQ p w n₀ ann n s' t'
        | none => none
theorem topRunQ_ok {p : Program} {w : World} {n₀ : Nat} {ann : Option Value} : ∀ {n : Nat} {s s' : SharedT} {t : Thread}, topRunQ p w n₀ ann n s t = some s' → topRun treeTable p w n₀ ann n s.abs t = some s'.abs
  | 0, _, _, _, e => by cases e
  | n + 1, s, s', t, e => by
    unfold topRunQ at e
    unfold topRun
    rw [← PySem.W.Fast.te6613529449190102663, ← PySem.W.Fast.te10156331382660048174, ← PySem.W.Fast.te11892475500146522536, ← PySem.W.Fast.te14364793385576792824] at e
    cases h1 : through t with
    | true => rw [h1] at e; cases e; rfl
    | false =>
      rw [h1] at e
      dsimp only at e ⊢
      cases h2 : stepOk n₀ ann t with
      | false => rw [h2] at e; cases e
      | true =>
        rw [h2] at e
        dsimp only at e ⊢
        cases h3 : stepT (denote treeTable) p w s t with
        | none => rw [h3] at e; cases e
        | some r =>
          obtain ⟨s2, t2⟩ := r
          rw [h3] at e
          dsimp only at e
          rw [stepT_spec h3]
          exact topRunQ_ok e
noncomputable def tree0 (P : Params) : BT := (plant (boot_heap P).objs.toList .nil 0).getD .nil
noncomputable def st0 (P : Params) (os : OsState) : SharedT := ⟨tree0 P, 11, (boot_heap P).life, #[], boot_drawn, boot_toks, os⟩
theorem tree0_ok (P : Params) : (plant (boot_heap P).objs.toList .nil 0).isSome = true := by kernel_rfl
theorem len0 (P : Params) : (boot_heap P).objs.toList.length = 11 := by kernel_rfl
theorem st0_abs (P : Params) (os : OsState) : (st0 P os).abs = ⟨boot_heap P, #[], boot_drawn, boot_toks, os⟩ := by
  obtain ⟨T, e⟩ := Option.isSome_iff_exists.mp (tree0_ok P)
  have h := plant_ok (life := (boot_heap P).life) e
  rw [len0] at h
  have e0 : absHeap BT.nil 0 (boot_heap P).life = ⟨#[], (boot_heap P).life⟩ := rfl
  rw [e0] at h
  unfold st0 SharedT.abs tree0
  rw [e]
  dsimp only [Option.getD_some]
  rw [show absHeap T 11 (boot_heap P).life = boot_heap P from by
    rw [show (11 : Nat) = 0 + 11 from rfl, h]
    simp]

/-- all that stands in a heap -/
noncomputable def fragL : List Obj → Nat → Frag
  | [], _ => []
  | o :: r, i => match alive o with
    | some o' => (i, o') :: fragL r (i + 1)
    | none => fragL r (i + 1)
noncomputable def fragOf (h : Heap) : Frag := fragL h.objs.toList 0
theorem alive_eq {o o' : Obj} (h : alive o = some o') : o' = o := by
  unfold alive at h
  split at h
  · cases h
  · cases h; rfl
theorem fragL_ok : ∀ {l : List Obj} {i a : Nat} {o : Obj}, (fragL l i).lookup a = some o → ∃ k, a = i + k ∧ l[k]? = some o ∧ alive o = some o
  | [], _, _, _, e => by cases e
  | x :: r, i, a, o, e => by
    unfold fragL at e
    split at e
    · rename_i o' h
      have := alive_eq h
      subst this
      rw [List.lookup_cons] at e
      split at e
      · rename_i q
        cases e
        exact ⟨0, by simpa using q, rfl, h⟩
      · obtain ⟨k, h1, h2, h3⟩ := fragL_ok e
        exact ⟨k + 1, by (first | lia | omega), h2, h3⟩
    · obtain ⟨k, h1, h2, h3⟩ := fragL_ok e
      exact ⟨k + 1, by (first | lia | omega), h2, h3⟩
theorem fragOf_in (h : Heap) : (fragOf h).In h := by
  intro a o e
  obtain ⟨k, h1, h2, h3⟩ := fragL_ok e
  rw [Nat.zero_add] at h1
  subst h1
  rw [Array.getElem?_toList] at h2
  unfold Heap.get?
  rw [h2]
  obtain ⟨c, d, dt, sl⟩ := o
  cases dt <;> first | rfl | (cases h3)
/-- the rows, as one thing seen -/
noncomputable def lsF (K : Frag) (get : Str → Option (Option Value)) : List Str → List (Option FT)
  | [] => []
  | x :: r => fnL K (get x) :: lsF K get r
theorem lsF_1 (K : Frag) (get : Str → Option (Option Value)) (x_1 : Str) (r : List Str) : lsF K get (x_1 :: r) = fnL K (get x_1) :: lsF K get r := rfl
noncomputable def rsF (l : List Stmt) : List Str → List (Option FT)
  | [] => []
  | x :: r => fnR (findFn x l) :: rsF l r
theorem rsF_1 (l : List Stmt) (x_1 : Str) (r : List Str) : rsF l (x_1 :: r) = fnR (findFn x_1 l) :: rsF l r := rfl
theorem allF_of {K : Frag} {get : Str → Option (Option Value)} {l : List Stmt} : ∀ {xs : List Str}, lsF K get xs = rsF l xs → AllF K get l xs
  | [], _ => trivial
  | x :: r, e => by
    rw [lsF_1, rsF_1, List.cons.injEq] at e
    exact ⟨e.1, allF_of e.2⟩
noncomputable def lsH (K : Frag) : List Str → List (Option (List Int))
  | [] => []
  | x :: r => hL K x :: lsH K r
theorem lsH_1 (K : Frag) (x_1 : Str) (r : List Str) : lsH K (x_1 :: r) = hL K x_1 :: lsH K r := rfl
noncomputable def rsH (P : Params) : List Str → List (Option (List Int))
  | [] => []
  | x :: r => hR P x :: rsH P r
theorem rsH_1 (P : Params) (x_1 : Str) (r : List Str) : rsH P (x_1 :: r) = hR P x_1 :: rsH P r := rfl
theorem allH_of {K : Frag} {P : Params} : ∀ {xs : List Str}, lsH K xs = rsH P xs → AllH K P xs
  | [], _ => trivial
  | x :: r, e => by
    rw [lsH_1, rsH_1, List.cons.injEq] at e
    exact ⟨e.1, allH_of e.2⟩
structure Obs where
  f : List (Option FT)
  m : List (Option FT)
  h : List (Option (List Int))
  g : Bool
  b : Bool
  mc : Bool
  ac : Bool
  c : Bool
noncomputable def yf (s : Shared) : Obs := ⟨lsF (fragOf s.heap) (gl (fragOf s.heap)) fL, lsF (fragOf s.heap) (cm (fragOf s.heap)) mL, lsH (fragOf s.heap) dL, gL.all (gChk (fragOf s.heap)), bltNames.all (bChk (fragOf s.heap)), mL.all (mChk (fragOf s.heap)), aL.all (aChk (fragOf s.heap)), cChk (fragOf s.heap)⟩
noncomputable def ya (w : World) : Obs := ⟨rsF B fL, rsF clsBody mL, rsH w.params dL, true, true, true, true, true⟩
theorem rows_of {w : World} {s : Shared} (e : yf s = ya w) : Rows (fragOf s.heap) w.params := by
  unfold yf ya at e
  injection e with h1 h2 h3 h4 h5 h6 h7 h8
  exact ⟨allF_of h1, allF_of h2, allH_of h3, h4, h5, h6, h7, h8⟩
/-- the law alone is pinned -/
noncomputable def vw : Program := view pw [105]
noncomputable def looseN : List Str := (["SIGN_BIT", "FRACTION_BITS", "FRACTION_MASK", "HIDDEN_BIT_dbits", "EXPONENT_MASK", "EXPONENT_SHIFT", "LEAST_POWER_dbits", "ZERO", "NEG_ZERO", "INF", "NEG_INF", "NAN", "width", "pack", "is_negative", "is_nan", "is_inf", "is_finite", "is_zero", "signed", "parts", "quotient", "round_ratio", "assembled", "from_int", "LEAST_POWER_numshow", "HIDDEN_BIT_numshow", "scaled", "decimal_place", "first_place", "shortest", "last_figure", "signed_exponent", "with_exponent", "laid_out", "without_figures", "show", "JSON_SMALL_HEX", "JSON_SHORT", "json_quoted_sign", "json_quoted", "json_number_text", "json_plain_text", "json_rows", "json_laid", "show_json", "json_without_skips", "LETTERS", "PARTS", "is_among", "is_digit", "is_id_start", "is_id_part", "is_name", "FARTHEST", "figure_of", "run_end", "worth", "from_decimal", "sign_at", "turned", "exponent_at", "JSFail", "JSON_BLANKS", "JSON_DIGITS", "JSON_HEX", "JSON_ESCAPES", "JSON_WORDS", "JSON_CLOSERS", "refuse_json", "json_sign", "skip_json_blanks", "json_number", "json_hex_unit", "json_string", "json_plain", "JsonReader", "read_json", "KEYWORDS", "STRICT_WORDS", "PUNCTS", "PUNCT_TABLE", "is_keyword", "is_strict_word", "punct_at", "_law_reserved", "_law_other", "_law_strict", "_law_puncts", "_law_long", "_law_take", "_law_tree", "_law_pruned", "_law_is_name", "_law_cut", "_law_cut_by"] : List String).map N

end Mine
end
end
section
open PySem PySem.W PyProof.Rows
section
namespace Mine
theorem open_q (w : World) : (PySem.W.Fast.tw10274390034422433532 PySem.W.Fast.tw14364793385576792824 (opening pw) w 7000 (PySem.W.Fast.tw1435165496053646825 (opening pw)).1 (PySem.W.Fast.tw1435165496053646825 (opening pw)).2).map (fun s => (s.heap, s.gens, s.drawn, s.toks)) = some (boot_heap w.params, #[], boot_drawn, boot_toks) := by kernel_rfl
theorem fence_q (s : Shared) : fenceModules? pw s = some s := by kernel_rfl
theorem size_q (P : Params) : ((boot_heap P).isNs mainGlobals && (#[] : Array GenState).size == 0, (boot_heap P).objs.size, (boot_heap P).nsMap mainGlobals "__annotations__") = (true, 11, some (.ref 6)) := by kernel_rfl
theorem open_ok (w : World) : (fencedOpening treeTable pw w 7000).map (fun s => (s.heap, s.gens, s.drawn, s.toks)) = some (boot_heap w.params, #[], boot_drawn, boot_toks) := by
  have h := open_q w
  rw [← PySem.W.Fast.te10274390034422433532, ← PySem.W.Fast.te14364793385576792824, ← PySem.W.Fast.te1435165496053646825] at h
  obtain ⟨s, h1, h2⟩ := Option.map_eq_some_iff.mp h
  unfold fencedOpening
  rw [h1]
  show (fenceModules? pw s).map _ = _
  rw [fence_q s]
  exact congrArg some h2
/-- the run of the top; what is looked at is split in two, so that no kernel check grows large -/
noncomputable def runQ (w : World) (os : OsState) : Option SharedT := topRunQ pw w 11 (some (.ref 6)) 7000 (st0 w.params os) (topStub pw)
noncomputable def looksA (w : World) (s : Shared) := ((staticsOk (importedModules pw.main.body) (boot_heap w.params) s.heap && namesBound pw s.heap && gensDone s && laidKept (boot_heap w.params) s.heap),
  PySem.W.Fast.tw4187177175401517315 vw looseN (importedModules pw.main.body) (fun _ => true) true s,
  lsF (fragOf s.heap) (cm (fragOf s.heap)) mL, lsH (fragOf s.heap) dL, bltNames.all (bChk (fragOf s.heap)), mL.all (mChk (fragOf s.heap)), aL.all (aChk (fragOf s.heap)), cChk (fragOf s.heap))
noncomputable def looksB (s : Shared) := (lsF (fragOf s.heap) (gl (fragOf s.heap)) fL, gL.all (gChk (fragOf s.heap)))
noncomputable def coreA (w : World) : Prop := ∀ os, (runQ w os).map (fun s => looksA w s.abs) = some (true, openGood vw looseN, rsF clsBody mL, rsH w.params dL, true, true, true, true)
noncomputable def coreB (w : World) : Prop := ∀ os, (runQ w os).map (fun s => looksB s.abs) = some (rsF B fL, true)
theorem coreA_ff (w : World) : coreA ((w.withFollow "special-get-raises" false).withFollow "comprehension-iter-twice" false) := fun os => by kernel_rfl
theorem coreA_tf (w : World) : coreA ((w.withFollow "special-get-raises" true).withFollow "comprehension-iter-twice" false) := fun os => by kernel_rfl
theorem coreA_ft (w : World) : coreA ((w.withFollow "special-get-raises" false).withFollow "comprehension-iter-twice" true) := fun os => by kernel_rfl
theorem coreA_tt (w : World) : coreA ((w.withFollow "special-get-raises" true).withFollow "comprehension-iter-twice" true) := fun os => by kernel_rfl
theorem coreB_ff (w : World) : coreB ((w.withFollow "special-get-raises" false).withFollow "comprehension-iter-twice" false) := fun os => by kernel_rfl
theorem coreB_tf (w : World) : coreB ((w.withFollow "special-get-raises" true).withFollow "comprehension-iter-twice" false) := fun os => by kernel_rfl
theorem coreB_ft (w : World) : coreB ((w.withFollow "special-get-raises" false).withFollow "comprehension-iter-twice" true) := fun os => by kernel_rfl
theorem coreB_tt (w : World) : coreB ((w.withFollow "special-get-raises" true).withFollow "comprehension-iter-twice" true) := fun os => by kernel_rfl
theorem coreA_ok : ∀ w, coreA w :=
  byRow2 "comprehension-iter-twice"
    (byRow2 "special-get-raises" (P := fun w => coreA (w.withFollow "comprehension-iter-twice" false)) coreA_ff coreA_tf)
    (byRow2 "special-get-raises" (P := fun w => coreA (w.withFollow "comprehension-iter-twice" true)) coreA_ft coreA_tt)
theorem coreB_ok : ∀ w, coreB w :=
  byRow2 "comprehension-iter-twice"
    (byRow2 "special-get-raises" (P := fun w => coreB (w.withFollow "comprehension-iter-twice" false)) coreB_ff coreB_tf)
    (byRow2 "special-get-raises" (P := fun w => coreB (w.withFollow "comprehension-iter-twice" true)) coreB_ft coreB_tt)
theorem left_ok : LeftO pw vw looseN (fun _ => true) yf ya 7000 := fun w => by
  obtain ⟨⟨h, gs, d, k, os⟩, e, e'⟩ := Option.map_eq_some_iff.mp (open_ok w)
  obtain ⟨rfl, rfl, rfl, rfl⟩ : h = boot_heap w.params ∧ gs = #[] ∧ d = boot_drawn ∧ k = boot_toks := by simpa using e'
  obtain ⟨z1, z2, z3⟩ : _ ∧ _ ∧ _ := by simpa only [Prod.mk.injEq] using size_q w.params
  obtain ⟨s', r, lk⟩ := Option.map_eq_some_iff.mp (coreA_ok w os)
  obtain ⟨s2, r2, lk2⟩ := Option.map_eq_some_iff.mp (coreB_ok w os)
  obtain rfl : s' = s2 := Option.some.inj (r.symm.trans r2)
  have r := topRunQ_ok r
  rw [st0_abs] at r
  unfold looksA at lk
  unfold looksB at lk2
  rw [← PySem.W.Fast.te4187177175401517315] at lk
  obtain ⟨l1, lk⟩ := Prod.mk.inj lk
  obtain ⟨l2, lk⟩ := Prod.mk.inj lk
  obtain ⟨k1, lk⟩ := Prod.mk.inj lk
  obtain ⟨k2, lk⟩ := Prod.mk.inj lk
  obtain ⟨k3, lk⟩ := Prod.mk.inj lk
  obtain ⟨k4, lk⟩ := Prod.mk.inj lk
  obtain ⟨k5, k6⟩ := Prod.mk.inj lk
  obtain ⟨k7, k8⟩ := Prod.mk.inj lk2
  have l3 : yf s'.abs = ya w := by
    unfold yf ya
    rw [k1, k2, k3, k4, k5, k6, k7, k8]
  have t : topFrom treeTable pw w 7000 ⟨boot_heap w.params, #[], boot_drawn, boot_toks, os⟩ = some s'.abs := by
    unfold topFrom
    dsimp only
    rw [z1, z2, z3, r]
    show (match staticsOk (importedModules pw.main.body) (boot_heap w.params) s'.abs.heap && namesBound pw s'.abs.heap && gensDone s'.abs && laidKept (boot_heap w.params) s'.abs.heap with | true => _ | false => _) = _
    rw [l1]
  unfold openEnds
  rw [e]
  show (topFrom treeTable pw w 7000 _).map _ = _
  rw [t]
  exact congrArg some (Prod.ext l2 l3)
end Mine
end
end
section
open PySem PySem.W PyProof.Rows
section
namespace Mine
theorem said_ok : OpenLaw.wellSaid PySem.Challenge.rw_pc0081_01 = true := by
  rw [PySem.W.Fast.te9446332074065402090]
  kernel_rfl
noncomputable def yp (w : World) (h : Heap) : Prop := ∃ K : Frag, K.In h ∧ Rows K w.params
end Mine
end
theorem PySem.Challenge.cw_pc0081_01_holds : PySem.Challenge.rw_pc0081_01.Holds := by
  refine holds_law Mine.said_ok fun said => ?_
  refine holds_open (r := OpenLaw.row PySem.Challenge.rw_pc0081_01) (q := Mine.vw) (loose := Mine.looseN) (Xt := fun _ => true) (XP := fun _ _ => True) (Yf := Mine.yf) (Ya := Mine.ya) (YP := Mine.yp) (N := 7000) Mine.left_ok
    (fun w s e => ⟨_, Mine.fragOf_in _, Mine.rows_of e⟩) (fun w h h' ⟨K, a, b⟩ k => ⟨K, a.keeps k, b⟩) (fun _ _ => trivial) (fun _ _ _ _ _ => trivial)
    (by rfl) (by rfl) (by rfl) (fun s _ => recFacts_nil rfl) (by rfl) said (by decide +kernel) ⟨rfl, rfl, rfl, rfl, rfl, by decide +kernel⟩ ?hw ?hc
  case hw => w_witness2
  case hc =>
    intro w s₀ s₁ mg mb G Y fa o pm cd doc dV kV ho hd hcd hD hmg hg args vals as hpre hlay hrd hwl hlo
    obtain ⟨K, KX, RW⟩ := Y
    have T := topRead_of G.T
    clear G ho hd hcd hD
    wrow_args hpre hlay hrd hwl hlo
    rename_i ns hs _ hL _ _ _ _ l vs _ hl _ _ _ hI _ hb _
    refine Mine.law_ends KX T RW hmg hl hI (by omega) ?fin
    intro s' hs' hk
    obtain ⟨h', tk, rfl⟩ := hs'
    exact ⟨.inl ⟨_, .bool true, [], rfl, fun _ => rfl, .bool true, postW_of (by wrow_shape) (by wtm_val) (by str_meet; first | done | w_fin), fun _ => ⟨List.nodup_nil, fun a ha => nomatch ha⟩⟩, .of_keep hk, rfl, AllBare.of_eq hg⟩
end
