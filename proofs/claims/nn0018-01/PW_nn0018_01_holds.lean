import PyProof.Rows.All
import Wide.All
import OpenK.AllK
import Wide.FinOn
import PySem.Challenge.RW_nn0018_01
open PySem PySem.W PyProof.Rows
set_option Elab.async false
set_option maxRecDepth 100000
set_option maxHeartbeats 8000000
open PySem.Calls
set_option linter.unusedVariables false
set_option linter.unusedSimpArgs false
set_option linter.unusedSectionVars false
set_option linter.unnecessarySimpa false
set_option maxHeartbeats 200000

namespace Mine

noncomputable abbrev Led := List (Addr × Obj)

/-- the values of the small language -/
inductive V where
  | unset
  | int (i : Int)
  | bool (b : Bool)
  | none
  | lst (xs : List Int)
  | hnd (k : Nat)
  | box
  | mont (m : List Int) (minus : Int) (one sq : List Int)
  | fn (g : Nat)

/-- its heap: lists of ints that may change; at most one box (an int, a list, an int) -/
structure Hp where
  ms : List (List Int)
  bx : Option (Int × List Int × Int)

inductive CR where
  | val (v : V) (H : Hp)
  | exc
noncomputable abbrev Cl := Nat → List V → Hp → Option CR

inductive Bop where
  | add | sub | mul | fdiv | mod | pow | shl | shr | and | or
noncomputable def Bop.op : Bop → Operator
  | .add => .Add | .sub => .Sub | .mul => .Mult | .fdiv => .FloorDiv | .mod => .Mod | .pow => .Pow | .shl => .LShift | .shr => .RShift | .and => .BitAnd | .or => .BitOr

inductive Cop where
  | eq | ne | lt | le | gt | ge
noncomputable def Cop.op : Cop → CmpOp
  | .eq => .Eq | .ne => .NotEq | .lt => .Lt | .le => .LtE | .gt => .Gt | .ge => .GtE

mutual
inductive ME where
  | loc (i q : Nat)
  | glob (g q : Nat)
  | int (i : Int) (q : Nat)
  | bool (b : Bool) (q : Nat)
  | bin (o : Bop) (a b : ME) (q : Nat)
  | cat (fr : Bool) (a b : ME) (q : Nat)
  | rep (fr : Bool) (a b : ME) (q : Nat)
  | neg (a : ME) (q : Nat)
  | not (a : ME) (q : Nat)
  | cmp (o : Cop) (a b : ME) (q : Nat)
  | cmp2 (o1 o2 : Cop) (a b c : ME) (q : Nat)
  | logic (isAnd : Bool) (e : ME) (es : MEs) (q : Nat)
  | ife (t a b : ME) (q : Nat)
  | len (e : ME) (q : Nat)
  | abs (e : ME) (q : Nat)
  | call (g : Nat) (e : ME) (es : MEs) (q : Nat)
  | callv (i : Nat) (e : ME) (es : MEs) (q : Nat)
  | mont (a b c d : ME) (q : Nat)
  | item (e ix : ME) (q : Nat)
  | slTo (e hi : ME) (q : Nat)
  | slFr (e lo : ME) (q : Nat)
  | nil (fr : Bool) (q : Nat)
  | one (e : ME) (q : Nat)
  | mkbox (a b c : ME) (q : Nat)
  | attr (e : ME) (f : Nat) (q : Nat)
  | comp (e : ME) (q : Nat)
inductive MEs where
  | nil
  | cons (e : ME) (r : MEs)
end

mutual
inductive MS where
  | asg (i : Nat) (e : ME) (q : Nat)
  | asg2 (i j : Nat) (a b : ME) (q : Nat)
  | asg3 (i j k : Nat) (a b c : ME) (q : Nat)
  | asgI (b : Nat) (ix e : ME) (q : Nat)
  | aug (i : Nat) (o : Bop) (e : ME) (q : Nat)
  | ifs (t : ME) (b o : MSs) (q : Nat)
  | forR (i : Nat) (e : ME) (es : MEs) (b : MSs) (q : Nat)
  | forL (i : Nat) (e : ME) (b : MSs) (q : Nat)
  | forV (i : Nat) (e : ME) (b : MSs) (q : Nat)
  | whl (t : ME) (b : MSs) (q : Nat)
  | ret (e : ME) (q : Nat)
  | raise (c : Nat) (msg : Str) (q : Nat)
  | app (i : Nat) (e : ME) (q : Nat)
  | exp (e : ME) (q : Nat)
inductive MSs where
  | nil
  | cons (s : MS) (r : MSs)
end

/-- what a term stands for: the slots' names, the places -/
structure DC where
  names : List Str
  pf : Nat → Pos
noncomputable def DC.nm (D : DC) (i : Nat) : Str := D.names.getD i (Str.ofString "")

noncomputable def gnames : List Str := ["normal", "is_even", "compare", "add", "sub", "lifted", "mul_limb", "shift_left", "inverse_limb", "doubled_rest", "mont_make", "add_row", "taken_once", "redc", "to_mont", "from_mont", "mont_mul", "mont_rows", "scaled_rest", "check_mont", "_law_row", "_law_number", "_law_mul", "_law_draw", "_law_size", "_law_box", "_law_told_right", "_law_reduced_right"]
noncomputable def gname (g : Nat) : Str := gnames.getD g (Str.ofString "")
noncomputable def anames : List Str := ["modulus", "minus", "one", "square"]
noncomputable def aname (f : Nat) : Str := anames.getD f (Str.ofString "")
noncomputable def cname (c : Nat) : Str := if c = 0 then "OutOfRange" else "NoInverse"
noncomputable def compScope : Scope := { kind := .function, names := [(Str.ofString ".0", .local), (Str.ofString "cell", .local), (Str.ofString "int", .globalImplicit)], isGenerator := false, isCoroutine := false, more := [] }

mutual
noncomputable def dE (D : DC) : ME → Expr
  | .loc i q => .Name (D.nm i) (D.pf q)
  | .glob g q => .Name (gname g) (D.pf q)
  | .int i q => .Constant (.int i) 0 (D.pf q)
  | .bool b q => .Constant (.bool b) 0 (D.pf q)
  | .bin o a b q => .BinOp (dE D a) o.op (dE D b) (D.pf q)
  | .cat _ a b q => .BinOp (dE D a) .Add (dE D b) (D.pf q)
  | .rep _ a b q => .BinOp (.List [dE D a] (D.pf q)) .Mult (dE D b) (D.pf (q + 1))
  | .neg a q => .UnaryOp .USub (dE D a) (D.pf q)
  | .not a q => .UnaryOp .Not (dE D a) (D.pf q)
  | .cmp o a b q => .Compare (dE D a) [o.op] [dE D b] (D.pf q)
  | .cmp2 o1 o2 a b c q => .Compare (dE D a) [o1.op, o2.op] [dE D b, dE D c] (D.pf q)
  | .logic isAnd e es q => .BoolOp (if isAnd then .And else .Or) (dE D e :: dEs D es) (D.pf q)
  | .ife t a b q => .IfExp (dE D t) (dE D a) (dE D b) (D.pf q)
  | .len e q => .Call (.Name "len" (D.pf q)) [dE D e] [] (D.pf (q + 1))
  | .abs e q => .Call (.Name "abs" (D.pf q)) [dE D e] [] (D.pf (q + 1))
  | .call g e es q => .Call (.Name (gname g) (D.pf q)) (dE D e :: dEs D es) [] (D.pf (q + 1))
  | .callv i e es q => .Call (.Name (D.nm i) (D.pf q)) (dE D e :: dEs D es) [] (D.pf (q + 1))
  | .mont a b c d q => .Call (.Name "Montgomery" (D.pf q)) [dE D a, dE D b, dE D c, dE D d] [] (D.pf (q + 1))
  | .item e ix q => .Subscript (dE D e) (dE D ix) (D.pf q)
  | .slTo e hi q => .Subscript (dE D e) (.Slice none (some (dE D hi)) none (D.pf q)) (D.pf (q + 1))
  | .slFr e lo q => .Subscript (dE D e) (.Slice (some (dE D lo)) none none (D.pf q)) (D.pf (q + 1))
  | .nil _ q => .List [] (D.pf q)
  | .one e q => .List [dE D e] (D.pf q)
  | .mkbox a b c q => .List [dE D a, dE D b, dE D c] (D.pf q)
  | .attr e f q => .Attribute (dE D e) (aname f) (D.pf q)
  | .comp e q => .ListComp (.Call (.Name "int" (D.pf q)) [.Name "cell" (D.pf (q + 1))] [] (D.pf (q + 2))) [{ target := .Name "cell" (D.pf (q + 3)), iter := dE D e, ifs := [], is_async := 0 }] compScope (D.pf (q + 4))
noncomputable def dEs (D : DC) : MEs → List Expr
  | .nil => []
  | .cons e r => dE D e :: dEs D r
end

mutual
noncomputable def dS (D : DC) : MS → Stmt
  | .asg i e q => .Assign [.Name (D.nm i) (D.pf q)] (dE D e) (D.pf (q + 1))
  | .asg2 i j a b q => .Assign [.Tuple [.Name (D.nm i) (D.pf q), .Name (D.nm j) (D.pf (q + 1))] 0 (D.pf (q + 2))] (.Tuple [dE D a, dE D b] 0 (D.pf (q + 3))) (D.pf (q + 4))
  | .asg3 i j k a b c q => .Assign [.Tuple [.Name (D.nm i) (D.pf q), .Name (D.nm j) (D.pf (q + 1)), .Name (D.nm k) (D.pf (q + 2))] 0 (D.pf (q + 3))] (.Tuple [dE D a, dE D b, dE D c] 0 (D.pf (q + 4))) (D.pf (q + 5))
  | .asgI b ix e q => .Assign [.Subscript (.Name (D.nm b) (D.pf q)) (dE D ix) (D.pf (q + 1))] (dE D e) (D.pf (q + 2))
  | .aug i o e q => .AugAssign (.Name (D.nm i) (D.pf q)) o.op (dE D e) (D.pf (q + 1))
  | .ifs t b o q => .If (dE D t) (dSs D b) (dSs D o) (D.pf q)
  | .forR i e es b q => .For (.Name (D.nm i) (D.pf q)) (.Call (.Name "range" (D.pf (q + 1))) (dE D e :: dEs D es) [] (D.pf (q + 2))) (dSs D b) [] (D.pf (q + 3))
  | .forL i e b q => .For (.Name (D.nm i) (D.pf q)) (dE D e) (dSs D b) [] (D.pf (q + 1))
  | .forV i e b q => .For (.Name (D.nm i) (D.pf q)) (.Call (.Name "reversed" (D.pf (q + 1))) [dE D e] [] (D.pf (q + 2))) (dSs D b) [] (D.pf (q + 3))
  | .whl t b q => .While (dE D t) (dSs D b) [] (D.pf q)
  | .ret e q => .Return (some (dE D e)) (D.pf q)
  | .raise c msg q => .Raise (some (.Call (.Name (cname c) (D.pf q)) [.Constant (.str msg) 0 (D.pf (q + 1))] [] (D.pf (q + 2)))) none (D.pf (q + 3))
  | .app i e q => .Expr (.Call (.Attribute (.Name (D.nm i) (D.pf q)) "append" (D.pf (q + 1))) [dE D e] [] (D.pf (q + 2))) (D.pf (q + 3))
  | .exp e q => .Expr (dE D e) (D.pf q)
noncomputable def dSs (D : DC) : MSs → List Stmt
  | .nil => []
  | .cons s r => dS D s :: dSs D r
end

end Mine

namespace Mine

/-! the interpreter -/
noncomputable def items (H : Hp) : V → Option (List Int)
  | .lst xs => some xs
  | .hnd k => H.ms[k]?
  | _ => none

noncomputable def okM (x : Int) : Bool := decide (x.natAbs < 2 ^ 256)

noncomputable def arith : Bop → Int → Int → Option Int
  | .add, a, b => some (a + b)
  | .sub, a, b => some (a - b)
  | .mul, a, b => if okM a = true ∧ okM b = true then some (a * b) else none
  | .fdiv, a, b => if 0 < b ∧ okM b = true then some (a / b) else none
  | .mod, a, b => if 0 < b then some (a % b) else none
  | .pow, a, b => if 0 ≤ b ∧ b ≤ 1000 ∧ okM a = true then some (a ^ b.toNat) else none
  | .shl, a, b => if 0 ≤ b ∧ b ≤ 1000 ∧ okM a = true then some (a * 2 ^ b.toNat) else none
  | .shr, a, b => if 0 ≤ b then some (a / 2 ^ b.toNat) else none
  | .and, a, b => some (Builtin.bitAnd a b)
  | .or, a, b => some (Builtin.bitOr a b)

noncomputable def cmpI : Cop → Int → Int → Bool
  | .eq, a, b => decide (a = b)
  | .ne, a, b => !decide (a = b)
  | .lt, a, b => decide (a < b)
  | .le, a, b => decide (a ≤ b)
  | .gt, a, b => decide (b < a)
  | .ge, a, b => decide (b ≤ a)

noncomputable def cmpV (H : Hp) (o : Cop) : V → V → Option Bool
  | .int a, .int b => some (cmpI o a b)
  | x, y => match o, items H x, items H y with
    | .eq, some xs, some ys => some (decide (xs = ys))
    | .ne, some xs, some ys => some (!decide (xs = ys))
    | _, _, _ => none

noncomputable def mkL (fr : Bool) (xs : List Int) (H : Hp) : Option (V × Hp) :=
  if xs.length ≤ 1048576 then some (if fr then (.hnd H.ms.length, ⟨H.ms ++ [xs], H.bx⟩) else (.lst xs, H)) else none

noncomputable def itemV (H : Hp) : V → Int → Option V
  | .box, k => match H.bx with
    | some (i, cs, st) => if k = 0 then some (.int i) else if k = 1 then some (.lst cs) else if k = 2 then some (.int st) else none
    | none => none
  | v, k => match items H v with
    | some xs => if 0 ≤ k then (xs[k.toNat]?).map .int else none
    | none => none

noncomputable def attrV : V → Nat → Option V
  | .mont m q o s, f => match f with
    | 0 => some (.lst m) | 1 => some (.int q) | 2 => some (.lst o) | 3 => some (.lst s) | _ => none
  | _, _ => none

mutual
noncomputable def ev (cl : Cl) (loc : List V) : ME → Hp → Option (V × Hp)
  | .loc i _, H => match loc[i]? with
    | some .unset => none
    | some v => some (v, H)
    | none => none
  | .glob g _, H => some (.fn g, H)
  | .int i _, H => some (.int i, H)
  | .bool b _, H => some (.bool b, H)
  | .bin o a b _, H => match ev cl loc a H with
    | some (.int x, H1) => match ev cl loc b H1 with
      | some (.int y, H2) => match arith o x y with
        | some z => some (.int z, H2)
        | none => none
      | _ => none
    | _ => none
  | .cat fr a b _, H => match ev cl loc a H with
    | some (x, H1) => match ev cl loc b H1 with
      | some (y, H2) => match items H2 x, items H2 y with
        | some xs, some ys => mkL fr (xs ++ ys) H2
        | _, _ => none
      | none => none
    | none => none
  | .rep fr a b _, H => match ev cl loc a H with
    | some (.int z, H1) => match ev cl loc b H1 with
      | some (.int y, H2) => if 0 ≤ y ∧ y ≤ 1048576 then mkL fr (List.replicate y.toNat z) H2 else none
      | _ => none
    | _ => none
  | .neg a _, H => match ev cl loc a H with
    | some (.int x, H1) => some (.int (-x), H1)
    | _ => none
  | .not a _, H => match ev cl loc a H with
    | some (.bool x, H1) => some (.bool (!x), H1)
    | _ => none
  | .cmp o a b _, H => match ev cl loc a H with
    | some (x, H1) => match ev cl loc b H1 with
      | some (y, H2) => match cmpV H2 o x y with
        | some c => some (.bool c, H2)
        | none => none
      | none => none
    | none => none
  | .cmp2 o1 o2 a b c _, H => match ev cl loc a H with
    | some (.int x, H1) => match ev cl loc b H1 with
      | some (.int y, H2) => if cmpI o1 x y = true then (match ev cl loc c H2 with
        | some (.int z, H3) => some (.bool (cmpI o2 y z), H3)
        | _ => none) else some (.bool false, H2)
      | _ => none
    | _ => none
  | .logic isAnd e es _, H => match ev cl loc e H with
    | some (.bool b, H1) => if b = isAnd then evl cl loc isAnd es H1 else some (.bool b, H1)
    | _ => none
  | .ife t a b _, H => match ev cl loc t H with
    | some (.bool c, H1) => if c = true then ev cl loc a H1 else ev cl loc b H1
    | _ => none
  | .len e _, H => match ev cl loc e H with
    | some (x, H1) => match items H1 x with
      | some xs => some (.int xs.length, H1)
      | none => none
    | none => none
  | .abs e _, H => match ev cl loc e H with
    | some (.int x, H1) => some (.int (if x < 0 then -x else x), H1)
    | _ => none
  | .call g e es _, H => match ev cl loc e H with
    | some (v, H1) => match evs cl loc es H1 with
      | some (vs, H2) => match cl g (v :: vs) H2 with
        | some (.val r H3) => some (r, H3)
        | _ => none
      | none => none
    | none => none
  | .callv i e es _, H => match loc[i]? with
    | some (.fn g) => match ev cl loc e H with
      | some (v, H1) => match evs cl loc es H1 with
        | some (vs, H2) => match cl g (v :: vs) H2 with
          | some (.val r H3) => some (r, H3)
          | _ => none
        | none => none
      | none => none
    | _ => none
  | .mont a b c d _, H => match ev cl loc a H with
    | some (.lst m, H1) => match ev cl loc b H1 with
      | some (.int q, H2) => match ev cl loc c H2 with
        | some (.lst o, H3) => match ev cl loc d H3 with
          | some (.lst sq, H4) => some (.mont m q o sq, H4)
          | _ => none
        | _ => none
      | _ => none
    | _ => none
  | .item e ix _, H => match ev cl loc e H with
    | some (v, H1) => match ev cl loc ix H1 with
      | some (.int k, H2) => match itemV H2 v k with
        | some r => some (r, H2)
        | none => none
      | _ => none
    | none => none
  | .slTo e hi _, H => match ev cl loc e H with
    | some (v, H1) => match ev cl loc hi H1 with
      | some (.int k, H2) => match items H2 v with
        | some xs => if 0 ≤ k then some (.lst (xs.take k.toNat), H2) else none
        | none => none
      | _ => none
    | none => none
  | .slFr e lo _, H => match ev cl loc e H with
    | some (v, H1) => match ev cl loc lo H1 with
      | some (.int k, H2) => match items H2 v with
        | some xs => if 0 ≤ k then some (.lst (xs.drop k.toNat), H2) else none
        | none => none
      | _ => none
    | none => none
  | .nil fr _, H => mkL fr [] H
  | .one e _, H => match ev cl loc e H with
    | some (.int x, H1) => some (.lst [x], H1)
    | _ => none
  | .mkbox a b c _, H => match ev cl loc a H with
    | some (.int i, H1) => match ev cl loc b H1 with
      | some (.lst cs, H2) => match ev cl loc c H2 with
        | some (.int st, H3) => match H3.bx with
          | none => some (.box, ⟨H3.ms, some (i, cs, st)⟩)
          | some _ => none
        | _ => none
      | _ => none
    | _ => none
  | .attr e f _, H => match ev cl loc e H with
    | some (v, H1) => match attrV v f with
      | some r => some (r, H1)
      | none => none
    | none => none
  | .comp e _, H => match ev cl loc e H with
    | some (.lst xs, H1) => some (.lst xs, H1)
    | _ => none
noncomputable def evs (cl : Cl) (loc : List V) : MEs → Hp → Option (List V × Hp)
  | .nil, H => some ([], H)
  | .cons e r, H => match ev cl loc e H with
    | some (v, H1) => match evs cl loc r H1 with
      | some (vs, H2) => some (v :: vs, H2)
      | none => none
    | none => none
noncomputable def evl (cl : Cl) (loc : List V) (isAnd : Bool) : MEs → Hp → Option (V × Hp)
  | .nil, H => some (.bool isAnd, H)
  | .cons e r, H => match ev cl loc e H with
    | some (.bool b, H1) => if b = isAnd then evl cl loc isAnd r H1 else some (.bool b, H1)
    | _ => none
end

inductive Fl where
  | next
  | ret (v : V)
  | exc

/-- a loop over values: the slot i takes each -/
noncomputable def runL (i : Nat) (body : List V → Hp → Option (Fl × List V × Hp)) : List V → List V → Hp → Option (Fl × List V × Hp)
  | [], loc, H => some (.next, loc, H)
  | v :: vs, loc, H => match body (loc.set i v) H with
    | some (.next, loc', H') => runL i body vs loc' H'
    | some (.ret r, loc', H') => some (.ret r, loc', H')
    | _ => none

noncomputable def runW (test : List V → Hp → Option (V × Hp)) (body : List V → Hp → Option (Fl × List V × Hp)) : Nat → List V → Hp → Option (Fl × List V × Hp)
  | 0, _, _ => none
  | n + 1, loc, H => match test loc H with
    | some (.bool true, H1) => (match body loc H1 with
      | some (.next, loc', H') => runW test body n loc' H'
      | some (.ret r, loc', H') => some (.ret r, loc', H')
      | _ => none)
    | some (.bool false, H1) => some (.next, loc, H1)
    | _ => none

noncomputable def wfuel : Nat := 100000

noncomputable def rangeN (a b c : Int) : Nat := if c = 1 then (b - a).toNat else (a - b).toNat
noncomputable def rangeV (a b c : Int) : List V := (List.range (rangeN a b c)).map fun (k : Nat) => V.int (a + (k : Int) * c)
noncomputable def okR (x : Int) : Bool := decide (x.natAbs < 1099511627776)
noncomputable def rangeOf : List V → Option (List V)
  | [.int b] => if okR b = true then some (rangeV 0 b 1) else none
  | [.int a, .int b] => if okR a = true ∧ okR b = true then some (rangeV a b 1) else none
  | [.int a, .int b, .int c] => if (c = 1 ∨ c = -1) ∧ okR a = true ∧ okR b = true then some (rangeV a b c) else none
  | _ => none

/-- what a fresh value that is no handle is: such a value may be kept when the handles go -/
noncomputable def setI (H : Hp) (v : V) (k : Int) (x : V) : Option Hp := match v, x with
  | .hnd j, .int z => match H.ms[j]? with
    | some xs => if 0 ≤ k ∧ k < xs.length then some ⟨H.ms.set j (xs.set k.toNat z), H.bx⟩ else none
    | none => none
  | .box, .int z => match H.bx with
    | some (i, cs, st) => if k = 0 then some ⟨H.ms, some (z, cs, st)⟩ else if k = 2 then some ⟨H.ms, some (i, cs, z)⟩ else none
    | none => none
  | _, _ => none

mutual
noncomputable def ex (cl : Cl) : MS → List V → Hp → Option (Fl × List V × Hp)
  | .asg i e _, loc, H => match ev cl loc e H with
    | some (v, H1) => some (.next, loc.set i v, H1)
    | none => none
  | .asg2 i j a b _, loc, H => match ev cl loc a H with
    | some (x, H1) => match ev cl loc b H1 with
      | some (y, H2) => some (.next, (loc.set j y).set i x, H2)
      | none => none
    | none => none
  | .asg3 i j k a b c _, loc, H => match ev cl loc a H with
    | some (x, H1) => match ev cl loc b H1 with
      | some (y, H2) => match ev cl loc c H2 with
        | some (z, H3) => some (.next, ((loc.set k z).set j y).set i x, H3)
        | none => none
      | none => none
    | none => none
  | .asgI b ix e _, loc, H => match ev cl loc e H with
    | some (x, H1) => match loc[b]? with
      | some bv => match ev cl loc ix H1 with
        | some (.int k, H2) => match setI H2 bv k x with
          | some H3 => some (.next, loc, H3)
          | none => none
        | _ => none
      | none => none
    | none => none
  | .aug i o e _, loc, H => match loc[i]? with
    | some (.int x) => match ev cl loc e H with
      | some (.int y, H1) => match arith o x y with
        | some z => some (.next, loc.set i (.int z), H1)
        | none => none
      | _ => none
    | _ => none
  | .ifs t b o _, loc, H => match ev cl loc t H with
    | some (.bool c, H1) => if c = true then exs cl b loc H1 else exs cl o loc H1
    | _ => none
  | .forR i e es b _, loc, H => match ev cl loc e H with
    | some (v, H1) => match evs cl loc es H1 with
      | some (vs, H2) => match rangeOf (v :: vs) with
        | some xs => runL i (exs cl b) xs loc H2
        | none => none
      | none => none
    | none => none
  | .forL i e b _, loc, H => match ev cl loc e H with
    | some (.lst xs, H1) => runL i (exs cl b) (xs.map .int) loc H1
    | _ => none
  | .forV i e b _, loc, H => match ev cl loc e H with
    | some (.lst xs, H1) => runL i (exs cl b) (xs.reverse.map .int) loc H1
    | _ => none
  | .whl t b _, loc, H => runW (fun loc H => ev cl loc t H) (exs cl b) wfuel loc H
  | .ret e _, loc, H => match ev cl loc e H with
    | some (v, H1) => some (.ret v, loc, H1)
    | none => none
  | .raise c _ _, loc, H => if c = 0 then some (.exc, loc, H) else none
  | .app i e _, loc, H => match loc[i]? with
    | some (.hnd k) => match ev cl loc e H with
      | some (.int z, H1) => match H1.ms[k]? with
        | some xs => if xs.length < 1048576 then some (.next, loc, ⟨H1.ms.set k (xs ++ [z]), H1.bx⟩) else none
        | none => none
      | _ => none
    | _ => none
  | .exp e _, loc, H => match ev cl loc e H with
    | some (.none, H1) => some (.next, loc, H1)
    | _ => none
noncomputable def exs (cl : Cl) : MSs → List V → Hp → Option (Fl × List V × Hp)
  | .nil, loc, H => some (.next, loc, H)
  | .cons s r, loc, H => match ex cl s loc H with
    | some (.next, loc', H') => exs cl r loc' H'
    | some (.ret v, loc', H') => some (.ret v, loc', H')
    | some (.exc, loc', H') => some (.exc, loc', H')
    | none => none
end

structure FDef where
  np : Nat
  D : DC
  body : MSs

noncomputable def fin (v : V) (n : Nat) (H : Hp) : Option CR := match v with
  | .hnd k => if k < n then some (.val (.hnd k) ⟨H.ms.take n, H.bx⟩) else match H.ms[k]? with
    | some xs => some (.val (.lst xs) ⟨H.ms.take n, H.bx⟩)
    | none => none
  | .unset => none
  | v => some (.val v ⟨H.ms.take n, H.bx⟩)

noncomputable def runB (cl : Cl) (F : FDef) (vs : List V) (H : Hp) : Option CR :=
  if vs.length = F.np then match exs cl F.body (vs ++ List.replicate (F.D.names.length - F.np) .unset) H with
    | some (.ret v, _, H') => fin v H.ms.length H'
    | some (.next, _, H') => fin .none H.ms.length H'
    | some (.exc, _, _) => some .exc
    | none => none
  else none

noncomputable def callM (P : Nat → Option FDef) : Nat → Cl
  | 0 => fun _ _ _ => none
  | d + 1 => fun g vs H => match P g with
    | some F => runB (callM P d) F vs H
    | none => none
end Mine

namespace Mine

/-- what is fixed: the two classes' addresses, the functions' addresses, the base heap -/
structure Fix where
  CM : Addr
  CX : Addr
  ga : Nat → Addr
  base : Heap

/-- the ledger's three parts: what stays, the handles, the box -/
structure Wd where
  fz : Led
  mu : Led
  bl : Led
noncomputable def Wd.all (W : Wd) : Led := W.bl ++ (W.mu ++ W.fz)

structure WLe (W W' : Wd) : Prop where
  fz : ∀ p ∈ W.fz, p ∈ W'.fz
  mu : ∀ (k : Nat) (a : Addr), (W.mu.map (·.1))[k]? = some a → (W'.mu.map (·.1))[k]? = some a
  bl : ∀ a, (W.bl.map (·.1)).head? = some a → (W'.bl.map (·.1)).head? = some a
theorem WLe.refl (W : Wd) : WLe W W := ⟨fun _ h => h, fun _ _ h => h, fun _ h => h⟩
theorem WLe.trans {W W' W'' : Wd} (h : WLe W W') (h' : WLe W' W'') : WLe W W'' := ⟨fun p hp => h'.fz p (h.fz p hp), fun k a e => h'.mu k a (h.mu k a e), fun a e => h'.bl a (h.bl a e)⟩

noncomputable def IsL (base : Heap) (fz : Led) (l : Addr) (xs : List Int) : Prop :=
  xs.length ≤ 1048576 ∧ ∃ vs, IntsAre vs xs ∧ ((∃ n, (l, listOf vs.toArray n) ∈ fz) ∨ base.IsList l vs.toArray)
theorem IsL.mono {base : Heap} {fz fz' : Led} {l : Addr} {xs : List Int} (h : IsL base fz l xs) (hs : ∀ p ∈ fz, p ∈ fz') : IsL base fz' l xs := by
  obtain ⟨h0, vs, hi, h | h⟩ := h
  · obtain ⟨n, hn⟩ := h; exact ⟨h0, vs, hi, .inl ⟨n, hs _ hn⟩⟩
  · exact ⟨h0, vs, hi, .inr h⟩

noncomputable def MontR (C : Addr) (base : Heap) (fz : Led) (v : Value) (m : List Int) (q : Int) (o sq : List Int) : Prop :=
  ∃ x dx es n l1 l2 l3 t, v = .ref x ∧ (x, instObj C dx) ∈ fz ∧ (dx, dictOf es n) ∈ fz ∧ getL "modulus" es = some (some (.ref l1)) ∧ IsL base fz l1 m ∧
    getL "minus" es = some (some (.int q t)) ∧ getL "one" es = some (some (.ref l2)) ∧ IsL base fz l2 o ∧ getL "square" es = some (some (.ref l3)) ∧ IsL base fz l3 sq

noncomputable def VR (G : Fix) (W : Wd) : V → Value → Prop
  | .unset, _ => False
  | .int i, v => ∃ t, v = .int i t
  | .bool b, v => v = .bool b
  | .none, v => v = .none
  | .lst xs, v => ∃ l, v = .ref l ∧ IsL G.base W.fz l xs
  | .hnd k, v => ∃ a, v = .ref a ∧ (W.mu.map (·.1))[k]? = some a
  | .box, v => ∃ a, v = .ref a ∧ (W.bl.map (·.1)).head? = some a
  | .mont m q o sq, v => MontR G.CM G.base W.fz v m q o sq
  | .fn g, v => v = .ref (G.ga g)
theorem VR.mono {G : Fix} {W W' : Wd} (hW : WLe W W') : ∀ {v : V} {vr : Value}, VR G W v vr → VR G W' v vr
  | .unset, _, h => h
  | .int _, _, h => h
  | .bool _, _, h => h
  | .none, _, h => h
  | .lst _, _, ⟨l, e, h⟩ => ⟨l, e, h.mono hW.fz⟩
  | .hnd k, _, ⟨a, e, h⟩ => ⟨a, e, hW.mu k a h⟩
  | .box, _, ⟨a, e, h⟩ => ⟨a, e, hW.bl a h⟩
  | .mont .., _, ⟨x, dx, es, n, l1, l2, l3, t, e, a1, a2, a3, a4, a5, a6, a7, a8, a9⟩ => ⟨x, dx, es, n, l1, l2, l3, t, e, hW.fz _ a1, hW.fz _ a2, a3, a4.mono hW.fz, a5, a6, a7.mono hW.fz, a8, a9.mono hW.fz⟩
  | .fn _, _, h => h

noncomputable def VRs (G : Fix) (W : Wd) : List V → List Value → Prop
  | [], [] => True
  | v :: vs, r :: rs => VR G W v r ∧ VRs G W vs rs
  | _, _ => False
theorem VRs.mono {G : Fix} {W W' : Wd} (hW : WLe W W') : ∀ {vs : List V} {rs : List Value}, VRs G W vs rs → VRs G W' vs rs
  | [], [], _ => trivial
  | _ :: _, _ :: _, ⟨h, r⟩ => ⟨h.mono hW, VRs.mono hW r⟩
theorem VRs.length {G : Fix} {W : Wd} : ∀ {vs : List V} {rs : List Value}, VRs G W vs rs → vs.length = rs.length
  | [], [], _ => rfl
  | _ :: _, _ :: _, ⟨_, r⟩ => congrArg (· + 1) (VRs.length r)

noncomputable def MuR (mu : Led) (ms : List (List Int)) : Prop :=
  mu.length = ms.length ∧ ∀ (k : Nat) (xs : List Int), ms[k]? = some xs → xs.length ≤ 1048576 ∧ ∃ a vs n, mu[k]? = some (a, listOf vs.toArray n) ∧ IntsAre vs xs

noncomputable def BxR (base : Heap) (bl fz : Led) : Option (Int × List Int × Int) → Prop
  | none => bl = []
  | some (i, cs, st) => ∃ a l t u n, bl = [(a, listOf #[.int i t, .ref l, .int st u] n)] ∧ IsL base fz l cs
theorem BxR.mono {base : Heap} {bl fz fz' : Led} (hs : ∀ p ∈ fz, p ∈ fz') : ∀ {b}, BxR base bl fz b → BxR base bl fz' b
  | none, h => h
  | some (_, _, _), ⟨a, l, t, u, n, e, h⟩ => ⟨a, l, t, u, n, e, h.mono hs⟩

/-- an object that no value of the small language is laid as -/
noncomputable def NoDat (o : Obj) : Prop := (∀ (its : Array Value) (n : Nat), o ≠ PySem.W.listOf its n) ∧ (∀ (es : List DictEntry) (n : Nat), o ≠ dictOf es n) ∧ ∀ C dx : Addr, o ≠ instObj C dx
theorem noDat_cell {o : Obj} {v₀ : Option Value} (h : o.data = .cell v₀) : NoDat o :=
  ⟨fun _ _ e => by (rw [e] at h; cases h), fun _ _ e => by (rw [e] at h; cases h), fun _ _ e => by (rw [e] at h; cases h)⟩
theorem noDat_fields {o : Obj} {vs : Array Value} (h : o.data = .fields vs) : NoDat o :=
  ⟨fun _ _ e => by (rw [e] at h; cases h), fun _ _ e => by (rw [e] at h; cases h), fun _ _ e => by (rw [e] at h; cases h)⟩
noncomputable def CellsOnly (cs : Led) : Prop := ∀ p ∈ cs, NoDat p.2
structure CsLe (cs cs' : Led) : Prop where
  adr : cs'.map (·.1) = cs.map (·.1)
  keep : ∀ p ∈ cs, (∀ v₀, p.2.data ≠ .cell v₀) → p ∈ cs'
theorem CsLe.refl (cs : Led) : CsLe cs cs := ⟨rfl, fun _ h _ => h⟩
theorem CsLe.trans {a b c : Led} (h : CsLe a b) (h' : CsLe b c) : CsLe a c := ⟨h'.adr.trans h.adr, fun p hp hn => h'.keep p (h.keep p hp hn) hn⟩

/-- the state: the ledger in the heap -/
structure SR (G : Fix) (h₀ : Heap) (L : Addr) (h : Heap) (cs : Led) (W : Wd) (H : Hp) : Prop where
  N : News h₀ L h (cs ++ W.all)
  nd : ((cs ++ W.all).map (·.1)).Nodup
  ms : MuR W.mu H.ms
  bx : BxR G.base W.bl W.fz H.bx
  cells : CellsOnly cs

/-- a frame -/
structure FX where
  A : Around
  A₀ : Around
  outer : List Env
  h₀ : Heap
  L : Addr
  a : Addr
  cn : Str
  cs : Scope
  ccd : Value
  cls : List (Str × Addr)
noncomputable abbrev FX.env (x : FX) : Env := envX x.cn x.cs x.L x.a x.ccd x.cls

structure Glo where
  prog : Program
  w : World
  K : Frag
  p : Program
  loose : List Str
  mean : ExcName → Option Value
  mg : Str → Option Value
  mb : Str → Option Value

structure FX.OK (x : FX) (S : Glo) (G : Fix) (d : Nat) : Prop where
  B : Below x.A₀ G.base x.outer x.h₀
  X : S.K.In x.h₀
  T : Top S.p S.loose S.mean S.mg S.mb x.h₀
  kf : x.cs.kind = .function
  hA : x.A.frames = some (x.env :: x.outer)
  hh : x.A.handled = none
  dep : x.A.depth + d < recursionLimit
  uni : x.A.units + 4 * d + 200 < cLine
  cells0 : (∀ y ∈ x.cs.names, y.2 ≠ .cell ∧ y.2 ≠ .free) → x.cls = []
  inj : ∀ y y' c, x.cls.lookup y = some c → x.cls.lookup y' = some c → y = y'

/-- a name that lives in a cell: the frame's own, or one of a frame around -/
noncomputable def isC (cs : Scope) (y : Str) : Prop := cs.names.lookup y = some .cell ∨ cs.names.lookup y = some .free
noncomputable def VarAt (x : FX) (m : Str → Option Value) (cs : Led) (y : Str) (vr : Value) : Prop :=
  (x.cs.names.lookup y = some .local ∧ m y = some vr) ∨ (isC x.cs y ∧ ∃ c o, x.cls.lookup y = some c ∧ (c, o) ∈ cs ∧ o.data = .cell (some vr))

structure VarsR (G : Fix) (x : FX) (D : DC) (m : Str → Option Value) (cs : Led) (W : Wd) (loc : List V) : Prop where
  len : loc.length = D.names.length
  kinds : ∀ (i : Nat), i < D.names.length → x.cs.names.lookup (D.nm i) = some .local ∨ (isC x.cs (D.nm i) ∧ ∃ c o v₀, x.cls.lookup (D.nm i) = some c ∧ (c, o) ∈ cs ∧ o.data = .cell v₀)
  vars : ∀ (i : Nat) (v : V), loc[i]? = some v → v ≠ .unset → ∃ vr, VarAt x m cs (D.nm i) vr ∧ VR G W v vr
theorem VarsR.mono {G : Fix} {x : FX} {D : DC} {m : Str → Option Value} {cs : Led} {W W' : Wd} {loc : List V} (h : VarsR G x D m cs W loc) (hW : WLe W W') : VarsR G x D m cs W' loc :=
  ⟨h.len, h.kinds, fun i v e hv => let ⟨vr, a, b⟩ := h.vars i v e hv; ⟨vr, a, b.mono hW⟩⟩

/-- what is wanted of the program's fragment -/
structure Facts (S : Glo) (G : Fix) : Prop where
  fn : ∀ g, g < gnames.length → nsIn S.K mainGlobals (gname g) = some (some (.ref (G.ga g))) ∧ keepIn S.K (.ref (G.ga g)) = true
  bn : ∀ y ∈ [("len" : Str), "abs", "range", "reversed", "int", "Exception"], nsIn S.K mainGlobals y = some none
  cm : nsIn S.K mainGlobals "Montgomery" = some (some (.ref G.CM)) ∧ keepIn S.K (.ref G.CM) = true
  cx : nsIn S.K mainGlobals "OutOfRange" = some (some (.ref G.CX))
  ce : excIn S.K G.CX [.type "Exception", .type "BaseException", .type "object"] "Exception.__new__" = true

theorem SR.isList {S : Glo} {G : Fix} {x : FX} {d : Nat} (hx : x.OK S G d) {h : Heap} {cs : Led} {W : Wd} {H : Hp} {m : Str → Option Value} (F : Fr x.h₀ x.L h m) (R : SR G x.h₀ x.L h cs W H) {l : Addr} {xs : List Int}
    (hl : IsL G.base W.fz l xs) : xs.length ≤ 1048576 ∧ ∃ vs, IntsAre vs xs ∧ h.IsList l vs.toArray ∧ ∃ o, h.get? l = some o := by
  obtain ⟨h0, vs, hi, h1 | h1⟩ := hl
  · obtain ⟨n, hn⟩ := h1
    have e := (R.N (l, listOf vs.toArray n) (by simp [Wd.all, hn])).1
    exact ⟨h0, vs, hi, ⟨_, e, rfl, n, rfl⟩, _, e⟩
  · obtain ⟨o, ho, r⟩ := h1
    have e := F.keep _ _ (hx.B.stays _ _ ho)
    exact ⟨h0, vs, hi, ⟨o, e, r⟩, o, e⟩

theorem SR.items {S : Glo} {G : Fix} {x : FX} {d : Nat} (hx : x.OK S G d) {h : Heap} {cs : Led} {W : Wd} {H : Hp} {m : Str → Option Value} (F : Fr x.h₀ x.L h m) (R : SR G x.h₀ x.L h cs W H) {v : V} {vr : Value} {xs : List Int}
    (hv : VR G W v vr) (hi : items H v = some xs) : ∃ l vs, vr = .ref l ∧ IntsAre vs xs ∧ h.IsList l vs.toArray ∧ xs.length ≤ 1048576 := by
  cases v with
  | lst ys =>
    obtain ⟨l, rfl, hl⟩ := hv
    cases hi
    obtain ⟨h0, vs, a, b, _⟩ := R.isList hx F hl
    exact ⟨l, vs, rfl, a, b, h0⟩
  | hnd k =>
    obtain ⟨a, rfl, ha⟩ := hv
    have hk : H.ms[k]? = some xs := hi
    obtain ⟨h0, a', vs, n, e, hi'⟩ := R.ms.2 k xs hk
    have : a' = a := by rw [List.getElem?_map, e] at ha; exact Option.some.inj ha
    subst this
    have e2 := (R.N (a', listOf vs.toArray n) (by simp [Wd.all, List.mem_of_getElem? e])).1
    exact ⟨_, vs, rfl, hi', ⟨_, e2, rfl, n, rfl⟩, h0⟩
  | _ => cases hi

/-- an entry's address is below the heap's size -/
theorem SR.lt {G : Fix} {h₀ : Heap} {L : Addr} {h : Heap} {cs : Led} {W : Wd} {H : Hp} (R : SR G h₀ L h cs W H) : ∀ p ∈ cs ++ W.all, p.1 < h.objs.size := fun p hp => Heap.lt_size (R.N p hp).1

theorem nodup_cons_new {cs : Led} {A B : Led} {l : Addr} {o : Obj} (nd : ((cs ++ (A ++ B)).map (·.1)).Nodup) (hl : ∀ p ∈ cs ++ (A ++ B), p.1 ≠ l) : ((cs ++ (A ++ (l, o) :: B)).map (·.1)).Nodup := by
  have e : ((l, o) :: (cs ++ (A ++ B))).Perm (cs ++ (A ++ (l, o) :: B)) := by
    have := (List.perm_middle (a := (l, o)) (l₁ := cs ++ A) (l₂ := B)).symm
    simpa [List.append_assoc] using this
  refine (List.Perm.nodup_iff (e.map (·.1))).mp ?_
  simp only [List.map_cons, List.nodup_cons]
  refine ⟨fun hm => ?_, nd⟩
  obtain ⟨p, hp, e⟩ := List.mem_map.mp hm
  exact hl p hp e

theorem SR.addFz {G : Fix} {h₀ : Heap} {L : Addr} {h h' : Heap} {cs : Led} {W : Wd} {H : Hp} (R : SR G h₀ L h cs W H) {l : Addr} {o : Obj} (N : News h₀ L h' ((l, o) :: (cs ++ W.all))) (hl : ∀ p ∈ cs ++ W.all, p.1 ≠ l) :
    SR G h₀ L h' cs ⟨(l, o) :: W.fz, W.mu, W.bl⟩ H ∧ WLe W ⟨(l, o) :: W.fz, W.mu, W.bl⟩ := by
  refine ⟨⟨fun p hp => N p ?_, ?_, R.ms, R.bx.mono fun p hp => .tail _ hp, R.cells⟩, ⟨fun p hp => .tail _ hp, fun _ _ e => e, fun _ e => e⟩⟩
  · simp only [Wd.all, List.mem_append, List.mem_cons] at hp ⊢
    rcases hp with h | h | h | h | h <;> simp [h]
  · have := nodup_cons_new (A := W.bl ++ W.mu) (B := W.fz) (o := o) (by simpa [Wd.all, List.append_assoc] using R.nd) (fun p hp => hl p (by simpa [Wd.all, List.append_assoc] using hp))
    simpa [Wd.all, List.append_assoc] using this

theorem SR.addMu {G : Fix} {h₀ : Heap} {L : Addr} {h h' : Heap} {cs : Led} {W : Wd} {H : Hp} (R : SR G h₀ L h cs W H) {l : Addr} {vs : List Value} {xs : List Int} {n : Nat} (hi : IntsAre vs xs) (h0 : xs.length ≤ 1048576)
    (N : News h₀ L h' ((l, listOf vs.toArray n) :: (cs ++ W.all))) (hl : ∀ p ∈ cs ++ W.all, p.1 ≠ l) :
    SR G h₀ L h' cs ⟨W.fz, W.mu ++ [(l, listOf vs.toArray n)], W.bl⟩ ⟨H.ms ++ [xs], H.bx⟩ ∧ WLe W ⟨W.fz, W.mu ++ [(l, listOf vs.toArray n)], W.bl⟩ ∧
      ((W.mu ++ [(l, listOf vs.toArray n)]).map (·.1))[H.ms.length]? = some l := by
  have hlen := R.ms.1
  refine ⟨⟨fun p hp => N p ?_, ?_, ⟨by simp [hlen], fun k ys e => ?_⟩, R.bx, R.cells⟩, ⟨fun p hp => hp, fun k a e => ?_, fun _ e => e⟩, ?_⟩
  · simp only [Wd.all, List.mem_append, List.mem_cons, List.not_mem_nil, or_false] at hp ⊢
    rcases hp with h | h | (h | h) | h <;> simp [h]
  · have := nodup_cons_new (A := W.bl ++ W.mu) (B := W.fz) (o := listOf vs.toArray n) (by simpa [Wd.all, List.append_assoc] using R.nd) (fun p hp => hl p (by simpa [Wd.all, List.append_assoc] using hp))
    simpa [Wd.all, List.append_assoc] using this
  · by_cases hk : k < H.ms.length
    · rw [List.getElem?_append_left hk] at e
      obtain ⟨b0, a, us, j, e1, e2⟩ := R.ms.2 k ys e
      exact ⟨b0, a, us, j, by rw [List.getElem?_append_left (by omega)]; exact e1, e2⟩
    · rw [List.getElem?_append_right (by omega)] at e
      have hk0 : k - H.ms.length = 0 := by
        by_cases hz : k - H.ms.length = 0
        · exact hz
        · rw [List.getElem?_eq_none (by simp; omega)] at e; cases e
      rw [hk0] at e; cases e
      refine ⟨h0, l, vs, n, ?_, hi⟩
      rw [List.getElem?_append_right (by omega), hlen, hk0]; rfl
  · rw [List.map_append, List.getElem?_append_left]
    · exact e
    · by_cases q : k < (W.mu.map (·.1)).length
      · exact q
      · rw [List.getElem?_eq_none (by omega)] at e; cases e
  · rw [List.map_append, List.getElem?_append_right (by simp [hlen])]
    simp [hlen]
end Mine

namespace Mine

/-! ints -/
theorem okM_lt {x : Int} (h : okM x = true) : x.natAbs < 2 ^ 256 := of_decide_eq_true h
theorem okM_bits {x : Int} (h : okM x = true) : Builtin.Int.intBits x ≤ 256 := intBits_le (okM_lt h)
theorem mulOk {a b : Int} (ha : okM a = true) (hb : okM b = true) : IntMulOk a b := by
  have h1 := okM_bits ha
  have h2 := okM_bits hb
  unfold IntMulOk
  intro h
  simp only [Bool.and_eq_true, decide_eq_true_eq] at h
  have h3 := h.2
  unfold Builtin.Int.intTooBig at h3
  have h4 := of_decide_eq_true h3
  have : bitsLine = 2 ^ 27 := rfl
  omega
theorem noPy {a b : Int} (hb : okM b = true) : Builtin.divisionGoesByPylong a b = false := by
  refine PyProof.noPylong_of_log2 ?_
  have := okM_lt hb
  by_cases h0 : b.natAbs = 0
  · rw [h0]; decide +kernel
  · have h30 : b.natAbs.log2 < 256 := (Nat.log2_lt h0).mpr this
    omega
theorem two_pow_pos (n : Nat) : (0 : Int) < 2 ^ n := Int.pow_pos (by decide)

section
variable {prog : Program} {w : World} {A : Around} {E : Value → Shared → Prop} {s : Shared} {a b z : Int} {t u : Tok} {Q : Value → Shared → Prop}

theorem bits_mul {n : Int} (ha : Builtin.Int.intBits a ≤ 256) (h0 : 0 ≤ n) (hn : n ≤ 1000) : (Builtin.Int.intBits a : Int) * n ≤ 2 ^ 27 := by
  have h1 : (Builtin.Int.intBits a : Int) * n ≤ 256 * n := Int.mul_le_mul_of_nonneg_right (by omega) h0
  omega

theorem arith_ok (o : Bop) (he : arith o a b = some z) (h : ∀ t', Q (.int z t') { s with toks := s.toks + 1 }) : wpAny (model prog w) A (binaryOp o.op (.int a t) (.int b u)) Q E s := by
  cases o with
  | add => cases he; exact P.add_int (h _)
  | sub => cases he; exact P.sub_int (h _)
  | mul =>
    simp only [arith] at he
    split at he
    · rename_i hc; cases he; exact P.mul_int (h _) (mulOk hc.1 hc.2)
    · cases he
  | fdiv =>
    simp only [arith] at he
    split at he
    · rename_i hc
      cases he
      have hb : b ≠ 0 := by omega
      have e : a / b = a.fdiv b := (Int.fdiv_eq_ediv_of_nonneg a (by omega)).symm
      rw [e] at h
      exact floordiv_int hb (h _) (.inl (noPy hc.2))
    · cases he
  | mod =>
    simp only [arith] at he
    split at he
    · rename_i hc
      cases he
      have hb : b ≠ 0 := by omega
      have e : a % b = a.fmod b := (Int.fmod_eq_emod_of_nonneg a (by omega)).symm
      rw [e] at h
      exact mod_int' hb (h _)
    · cases he
  | pow =>
    simp only [arith] at he
    split at he
    · rename_i hc; cases he; exact pow_int hc.1 (bits_mul (okM_bits hc.2.2) hc.1 hc.2.1) (h _)
    · cases he
  | shl =>
    simp only [arith] at he
    split at he
    · rename_i hc; cases he; exact lshift_int hc.1 (by have := okM_bits hc.2.2; omega) (h _)
    · cases he
  | shr =>
    simp only [arith] at he
    split at he
    · rename_i hc
      cases he
      have e : a / 2 ^ b.toNat = a.fdiv (2 ^ b.toNat) := (Int.fdiv_eq_ediv_of_nonneg a (Int.le_of_lt (two_pow_pos _))).symm
      rw [e] at h
      exact rshift_int hc (h _)
    · cases he
  | and => cases he; exact and_int (h _)
  | or => cases he; exact or_int (h _)

theorem iarith_ok (o : Bop) (he : arith o a b = some z) (h : ∀ t', Q (.int z t') { s with toks := s.toks + 1 }) : wpAny (model prog w) A (inplaceOp o.op (.int a t) (.int b u)) Q E s := by
  cases o with
  | add => cases he; exact P.iadd_int (h _)
  | sub => cases he; exact P.isub_int (h _)
  | mul =>
    simp only [arith] at he
    split at he
    · rename_i hc; cases he; exact P.imul_int (h _) (mulOk hc.1 hc.2)
    · cases he
  | fdiv =>
    simp only [arith] at he
    split at he
    · rename_i hc
      cases he
      have hb : b ≠ 0 := by omega
      have e : a / b = a.fdiv b := (Int.fdiv_eq_ediv_of_nonneg a (by omega)).symm
      rw [e] at h
      exact ifloordiv_int hb (h _) (.inl (noPy hc.2))
    · cases he
  | mod =>
    simp only [arith] at he
    split at he
    · rename_i hc
      cases he
      have hb : b ≠ 0 := by omega
      have e : a % b = a.fmod b := (Int.fmod_eq_emod_of_nonneg a (by omega)).symm
      rw [e] at h
      exact imod_int hb (h _)
    · cases he
  | pow =>
    simp only [arith] at he
    split at he
    · rename_i hc; cases he; exact ipow_int hc.1 (bits_mul (okM_bits hc.2.2) hc.1 hc.2.1) (h _)
    · cases he
  | shl =>
    simp only [arith] at he
    split at he
    · rename_i hc; cases he; exact ilshift_int hc.1 (by have := okM_bits hc.2.2; omega) (h _)
    · cases he
  | shr =>
    simp only [arith] at he
    split at he
    · rename_i hc
      cases he
      have e : a / 2 ^ b.toNat = a.fdiv (2 ^ b.toNat) := (Int.fdiv_eq_ediv_of_nonneg a (Int.le_of_lt (two_pow_pos _))).symm
      rw [e] at h
      exact irshift_int hc (h _)
    · cases he
  | and => cases he; exact iand_int (h _)
  | or => cases he; exact ior_int (h _)

theorem cmp_ok (o : Cop) (h : Q (.bool (cmpI o a b)) s) : wpAny (model prog w) A (compareOp o.op (.int a t) (.int b u)) Q E s := by
  cases o with
  | eq => exact P.eq_int (by have e : (a == b) = decide (a = b) := rfl; rw [e]; exact h)
  | ne => exact P.ne_int (by have e : (a != b) = !decide (a = b) := rfl; rw [e]; exact h)
  | lt => exact P.lt_int h
  | le => exact P.le_int h
  | gt => exact P.gt_int h
  | ge => exact P.ge_int h
end
end Mine

namespace Mine

noncomputable def DC.good (D : DC) : Prop := D.names.Nodup ∧ (∀ x ∈ D.names, (x == ("__debug__" : Str)) = false) ∧ (∀ x ∈ D.names, (x == ("__classdict__" : Str)) = false)

noncomputable def glo (cs : Scope) (y : Str) : Prop := cs.names.lookup y = some .globalImplicit

mutual
noncomputable def wfE (cs : Scope) (n : Nat) : ME → Prop
  | .loc i _ => i < n
  | .glob g _ => g < gnames.length ∧ glo cs (gname g)
  | .int _ _ => True
  | .bool _ _ => True
  | .bin _ a b _ => wfE cs n a ∧ wfE cs n b
  | .cat _ a b _ => wfE cs n a ∧ wfE cs n b
  | .rep _ a b _ => wfE cs n a ∧ wfE cs n b
  | .neg a _ => wfE cs n a
  | .not a _ => wfE cs n a
  | .cmp _ a b _ => wfE cs n a ∧ wfE cs n b
  | .cmp2 _ _ a b c _ => wfE cs n a ∧ wfE cs n b ∧ wfE cs n c
  | .logic _ e es _ => wfE cs n e ∧ wfEs cs n es
  | .ife t a b _ => wfE cs n t ∧ wfE cs n a ∧ wfE cs n b
  | .len e _ => wfE cs n e ∧ glo cs "len"
  | .abs e _ => wfE cs n e ∧ glo cs "abs"
  | .call g e es _ => (g < gnames.length ∧ glo cs (gname g)) ∧ wfE cs n e ∧ wfEs cs n es
  | .callv i e es _ => i < n ∧ wfE cs n e ∧ wfEs cs n es
  | .mont a b c d _ => wfE cs n a ∧ wfE cs n b ∧ wfE cs n c ∧ wfE cs n d ∧ glo cs "Montgomery"
  | .item e ix _ => wfE cs n e ∧ wfE cs n ix
  | .slTo e hi _ => wfE cs n e ∧ wfE cs n hi
  | .slFr e lo _ => wfE cs n e ∧ wfE cs n lo
  | .nil _ _ => True
  | .one e _ => wfE cs n e
  | .mkbox a b c _ => wfE cs n a ∧ wfE cs n b ∧ wfE cs n c
  | .attr e f _ => wfE cs n e ∧ f < 4
  | .comp e _ => wfE cs n e
noncomputable def wfEs (cs : Scope) (n : Nat) : MEs → Prop
  | .nil => True
  | .cons e r => wfE cs n e ∧ wfEs cs n r
end

noncomputable abbrev EPost (G : Fix) (x : FX) (m : Str → Option Value) (cs : Led) (W : Wd) (H' : Hp) (s : Shared) (P : Wd → Value → Prop) (Q : Value → Shared → Prop) : Prop :=
  ∀ vr h' tk' W', Fr x.h₀ x.L h' m → SR G x.h₀ x.L h' cs W' H' → WLe W W' → P W' vr → Q vr { s with heap := h', toks := tk' }

noncomputable def EOK (S : Glo) (G : Fix) (d : Nat) (cl : Cl) (D : DC) (e : ME) : Prop :=
  ∀ (x : FX), x.OK S G d → wfE x.cs D.names.length e → ∀ (E Q : Value → Shared → Prop) (s : Shared) (m : Str → Option Value) (cs : Led) (W : Wd) (loc : List V) (H : Hp) (v : V) (H' : Hp),
    ev cl loc e H = some (v, H') → Fr x.h₀ x.L s.heap m → SR G x.h₀ x.L s.heap cs W H → VarsR G x D m cs W loc →
    EPost G x m cs W H' s (fun W' => VR G W' v) Q → wpAny (model S.prog S.w) x.A (eval (dE D e) x.env) Q E s

/-- tests: the same, a bool -/
noncomputable def TOK (S : Glo) (G : Fix) (d : Nat) (cl : Cl) (D : DC) (e : ME) : Prop :=
  ∀ (x : FX), x.OK S G d → wfE x.cs D.names.length e → ∀ (E : Value → Shared → Prop) (Q : Bool → Shared → Prop) (s : Shared) (m : Str → Option Value) (cs : Led) (W : Wd) (loc : List V) (H : Hp) (c : Bool) (H' : Hp),
    ev cl loc e H = some (.bool c, H') → Fr x.h₀ x.L s.heap m → SR G x.h₀ x.L s.heap cs W H → VarsR G x D m cs W loc →
    (∀ h' tk' W', Fr x.h₀ x.L h' m → SR G x.h₀ x.L h' cs W' H' → WLe W W' → Q c { s with heap := h', toks := tk' }) → wpAny (model S.prog S.w) x.A (isTrue (dE D e) x.env (eval (dE D e) x.env)) Q E s

section
variable {S : Glo} {G : Fix} {d : Nat} {cl : Cl} {D : DC}

theorem tok_plain {e : ME} (h : EOK S G d cl D e) (hp : ∀ env whole, isTrue (dE D e) env whole = (do let v ← whole; standAt (dE D e).pos; holding [v] (truthy v))) : TOK S G d cl D e := by
  intro x hx hw E Q s m cs W loc H c H' he F R VV post
  refine isTrue_plain (h x hx hw E _ s m cs W loc H _ H' he F R VV ?_) (hp _ _)
  intro vr h' tk' W' F' R' L' V'
  cases V'
  exact wpAny_truthy_bool (post _ _ _ F' R' L')

theorem nm_eq {i : Nat} (hi : i < D.names.length) : D.nm i = D.names[i] := by
  unfold DC.nm
  simp [List.getD, hi]
theorem nm_debug (hD : D.good) (i : Nat) (hi : i < D.names.length) : (D.nm i == ("__debug__" : Str)) = false := by
  refine hD.2.1 _ ?_
  rw [nm_eq hi]
  exact List.getElem_mem hi

theorem nm_cdict (hD : D.good) (i : Nat) (hi : i < D.names.length) : (D.nm i == ("__classdict__" : Str)) = false := by
  refine hD.2.2 _ ?_
  rw [nm_eq hi]
  exact List.getElem_mem hi

theorem nm_inj (hD : D.good) {i j : Nat} (hi : i < D.names.length) (hj : j < D.names.length) (h : D.nm i = D.nm j) : i = j := by
  rw [nm_eq hi, nm_eq hj] at h
  have hp := List.pairwise_iff_getElem.mp hD.1
  rcases Nat.lt_trichotomy i j with q | q | q
  · exact absurd h (hp i j hi hj q)
  · exact q
  · exact absurd h.symm (hp j i hj hi q)

/-- a name of the frame -/
theorem load_ok (hD : D.good) {x : FX} (hx : x.OK S G d) {i : Nat} (hi : i < D.names.length) {E Q : Value → Shared → Prop} {s : Shared} {m : Str → Option Value} {cs : Led} {W : Wd} {H : Hp} {vr : Value} {pos : Pos}
    (F : Fr x.h₀ x.L s.heap m) (R : SR G x.h₀ x.L s.heap cs W H) (hv : VarAt x m cs (D.nm i) vr) (h : Q vr s) : wpAny (model S.prog S.w) x.A (eval (.Name (D.nm i) pos) x.env) Q E s := by
  rcases hv with ⟨h1, h2⟩ | ⟨h1, c, o, h2, h3, h4⟩
  · exact nameX_L F h2 h hx.kf h1 (nm_debug hD i hi)
  · rcases h1 with h1 | h1
    · exact nameX_C R.N h2 (List.mem_append_left _ h3) h4 h hx.kf h1 (nm_debug hD i hi)
    · exact nameX_F R.N h2 (List.mem_append_left _ h3) h4 h hx.kf h1 (nm_debug hD i hi) (nm_cdict hD i hi)

theorem ok_loc (hD : D.good) (i q : Nat) : EOK S G d cl D (.loc i q) := by
  intro x hx hw E Q s m cs W loc H v H' he F R VV post
  simp only [ev] at he
  split at he
  · cases he
  · rename_i v' hv hne
    cases he
    obtain ⟨vr, ha, hr⟩ := VV.vars i _ hne (fun e => hv e)
    exact load_ok hD hx hw F R ha (post vr s.heap s.toks W F R (.refl W) hr)
  · cases he

theorem ok_glob (hf : Facts S G) (g q : Nat) : EOK S G d cl D (.glob g q) := by
  intro x hx hw E Q s m cs W loc H v H' he F R VV post
  cases he
  have hg : (gname g == ("__debug__" : Str)) = false := by
    have : ∀ g < gnames.length, (gname g == ("__debug__" : Str)) = false := by decide
    exact this g hw.1
  exact nameX_K F hx.X (topRead_of hx.T) (hf.fn g hw.1).1 (post _ s.heap s.toks W F R (.refl W) rfl) hx.kf hw.2 hg

theorem ok_int (i : Int) (q : Nat) : EOK S G d cl D (.int i q) := by
  intro x hx hw E Q s m cs W loc H v H' he F R VV post
  cases he
  exact wpAny_Constant_int (post _ s.heap _ W F R (.refl W) ⟨_, rfl⟩)

theorem ok_bool (b : Bool) (q : Nat) : EOK S G d cl D (.bool b q) := by
  intro x hx hw E Q s m cs W loc H v H' he F R VV post
  cases he
  show wpAny _ _ (constValue x.env (.bool b)) _ _ _
  exact wpAny_pure (post _ s.heap _ W F R (.refl W) rfl)

theorem ok_bin {a b : ME} (ha : EOK S G d cl D a) (hb : EOK S G d cl D b) (o : Bop) (q : Nat) : EOK S G d cl D (.bin o a b q) := by
  intro x hx hw E Q s m cs W loc H v H' he F R VV post
  simp only [ev] at he
  split at he
  · rename_i va H1 hA
    split at he
    · rename_i vb H2 hB
      split at he
      · rename_i z hz
        cases he
        refine wpAny_BinOp (ha x hx hw.1 E _ s m cs W loc H _ H1 hA F R VV ?_)
        intro v1 h1 t1 W1 F1 R1 L1 V1
        obtain ⟨u1, rfl⟩ := V1
        refine hb x hx hw.2 E _ { s with heap := h1, toks := t1 } m cs W1 loc H1 _ _ hB F1 R1 (VV.mono L1) ?_
        intro v2 h2 t2 W2 F2 R2 L2 V2
        obtain ⟨u2, rfl⟩ := V2
        have K := fun t' => post (.int _ t') h2 (t2 + 1) W2 F2 R2 (L1.trans L2) ⟨_, rfl⟩
        exact @arith_ok S.prog S.w x.A E { s with heap := h2, toks := t2 } va vb z u1 u2 Q o hz K
      · cases he
    · cases he
  · cases he

theorem ok_neg {a : ME} (ha : EOK S G d cl D a) (q : Nat) : EOK S G d cl D (.neg a q) := by
  intro x hx hw E Q s m cs W loc H v H' he F R VV post
  simp only [ev] at he
  split at he
  · rename_i va H1 hA
    cases he
    refine wpAny_UnaryOp (ha x hx hw E _ s m cs W loc H _ _ hA F R VV ?_)
    intro v1 h1 t1 W1 F1 R1 L1 V1
    obtain ⟨u1, rfl⟩ := V1
    exact P.neg_int (prog := S.prog) (w := S.w) (s := { s with heap := h1, toks := t1 }) (post _ h1 _ W1 F1 R1 L1 ⟨_, rfl⟩)
  · cases he

theorem ok_not {a : ME} (ha : EOK S G d cl D a) (q : Nat) : EOK S G d cl D (.not a q) := by
  intro x hx hw E Q s m cs W loc H v H' he F R VV post
  simp only [ev] at he
  split at he
  · rename_i va H1 hA
    cases he
    refine wpAny_UnaryOp (ha x hx hw E _ s m cs W loc H _ _ hA F R VV ?_)
    intro v1 h1 t1 W1 F1 R1 L1 V1
    cases V1
    exact not_of (wpAny_truthy_bool (post _ h1 _ W1 F1 R1 L1 rfl))
  · cases he
theorem tok_not {a : ME} (ha : TOK S G d cl D a) (q : Nat) : TOK S G d cl D (.not a q) := by
  intro x hx hw E Q s m cs W loc H c H' he F R VV post
  simp only [ev] at he
  split at he
  · rename_i va H1 hA
    cases he
    exact isTrue_not (ha x hx hw E _ s m cs W loc H _ _ hA F R VV fun h1 t1 W1 F1 R1 L1 => post h1 t1 W1 F1 R1 L1)
  · cases he

theorem bim (o : Cop) (e : Expr) : behindInMarks o.op e = false := by
  unfold behindInMarks
  split
  · cases o <;> simp [Cop.op]
  · rfl

theorem units_eq {x : FX} (hx : x.OK S G d) : x.A.units + 64 < cLine := by have := hx.uni; omega

theorem cmpV_ok {x : FX} (hx : x.OK S G d) {m : Str → Option Value} {cs : Led} {W : Wd} {H : Hp} {s : Shared} (F : Fr x.h₀ x.L s.heap m) (R : SR G x.h₀ x.L s.heap cs W H) {o : Cop} {v1 v2 : V} {r1 r2 : Value} {c : Bool}
    (V1 : VR G W v1 r1) (V2 : VR G W v2 r2) (hc : cmpV H o v1 v2 = some c) {E Q : Value → Shared → Prop} (h : Q (.bool c) s) : wpAny (model S.prog S.w) x.A (compareOp o.op r1 r2) Q E s := by
  unfold cmpV at hc
  split at hc
  · obtain ⟨t1, rfl⟩ := V1
    obtain ⟨t2, rfl⟩ := V2
    cases hc
    exact cmp_ok o h
  · split at hc
    · rename_i hx1 hx2
      cases hc
      obtain ⟨l1, vs1, rfl, i1, b1, _⟩ := R.items hx F V1 hx1
      obtain ⟨l2, vs2, rfl, i2, b2, _⟩ := R.items hx F V2 hx2
      exact eq_intsK b1 i1 b2 i2 (units_eq hx) h
    · rename_i hx1 hx2
      cases hc
      obtain ⟨l1, vs1, rfl, i1, b1, _⟩ := R.items hx F V1 hx1
      obtain ⟨l2, vs2, rfl, i2, b2, _⟩ := R.items hx F V2 hx2
      exact ne_intsK b1 i1 b2 i2 (units_eq hx) h
    · cases hc

theorem ok_cmp {a b : ME} (ha : EOK S G d cl D a) (hb : EOK S G d cl D b) (o : Cop) (q : Nat) : EOK S G d cl D (.cmp o a b q) := by
  intro x hx hw E Q s m cs W loc H v H' he F R VV post
  simp only [ev] at he
  split at he
  · rename_i va H1 hA
    split at he
    · rename_i vb H2 hB
      split at he
      · rename_i c hc
        cases he
        refine wpAny_Compare1 (ha x hx hw.1 E _ s m cs W loc H _ H1 hA F R VV ?_) (bim o _)
        intro v1 h1 t1 W1 F1 R1 L1 V1
        refine hb x hx hw.2 E _ { s with heap := h1, toks := t1 } m cs W1 loc H1 _ _ hB F1 R1 (VV.mono L1) ?_
        intro v2 h2 t2 W2 F2 R2 L2 V2
        exact cmpV_ok hx F2 R2 (V1.mono L2) V2 hc (post _ h2 _ W2 F2 R2 (L1.trans L2) rfl)
      · cases he
    · cases he
  · cases he
theorem tok_cmp {a b : ME} (ha : EOK S G d cl D a) (hb : EOK S G d cl D b) (o : Cop) (q : Nat) : TOK S G d cl D (.cmp o a b q) := by
  intro x hx hw E Q s m cs W loc H v H' he F R VV post
  simp only [ev] at he
  split at he
  · rename_i va H1 hA
    split at he
    · rename_i vb H2 hB
      split at he
      · rename_i c hc
        cases he
        refine wpAny_isTrue_Compare1 (ha x hx hw.1 E _ s m cs W loc H _ H1 hA F R VV ?_) (bim o _)
        intro v1 h1 t1 W1 F1 R1 L1 V1
        refine hb x hx hw.2 E _ { s with heap := h1, toks := t1 } m cs W1 loc H1 _ _ hB F1 R1 (VV.mono L1) ?_
        intro v2 h2 t2 W2 F2 R2 L2 V2
        exact cmpV_ok hx F2 R2 (V1.mono L2) V2 hc (wpAny_truthy_bool (post h2 _ W2 F2 R2 (L1.trans L2)))
      · cases he
    · cases he
  · cases he

theorem ok_ife {t a b : ME} (ht : TOK S G d cl D t) (ha : EOK S G d cl D a) (hb : EOK S G d cl D b) (q : Nat) : EOK S G d cl D (.ife t a b q) := by
  intro x hx hw E Q s m cs W loc H v H' he F R VV post
  simp only [ev] at he
  split at he
  · rename_i c H1 hT
    refine wpAny_IfExp (ht x hx hw.1 E _ s m cs W loc H _ _ hT F R VV ?_)
    intro h1 t1 W1 F1 R1 L1
    cases c
    · exact hb x hx hw.2.2 E _ { s with heap := h1, toks := t1 } m cs W1 loc H1 _ _ he F1 R1 (VV.mono L1) fun v2 h2 t2 W2 F2 R2 L2 V2 => post v2 h2 t2 W2 F2 R2 (L1.trans L2) V2
    · exact ha x hx hw.2.1 E _ { s with heap := h1, toks := t1 } m cs W1 loc H1 _ _ he F1 R1 (VV.mono L1) fun v2 h2 t2 W2 F2 R2 L2 V2 => post v2 h2 t2 W2 F2 R2 (L1.trans L2) V2
  · cases he
theorem tok_ife {t a b : ME} (ht : TOK S G d cl D t) (ha : TOK S G d cl D a) (hb : TOK S G d cl D b) (q : Nat) : TOK S G d cl D (.ife t a b q) := by
  intro x hx hw E Q s m cs W loc H v H' he F R VV post
  simp only [ev] at he
  split at he
  · rename_i c H1 hT
    refine isTrue_IfExp (ht x hx hw.1 E _ s m cs W loc H _ _ hT F R VV ?_)
    intro h1 t1 W1 F1 R1 L1
    cases c
    · exact hb x hx hw.2.2 E _ { s with heap := h1, toks := t1 } m cs W1 loc H1 _ _ he F1 R1 (VV.mono L1) fun h2 t2 W2 F2 R2 L2 => post h2 t2 W2 F2 R2 (L1.trans L2)
    · exact ha x hx hw.2.1 E _ { s with heap := h1, toks := t1 } m cs W1 loc H1 _ _ he F1 R1 (VV.mono L1) fun h2 t2 W2 F2 R2 L2 => post h2 t2 W2 F2 R2 (L1.trans L2)
  · cases he
end
end Mine

namespace Mine

section
variable {S : Glo} {G : Fix} {d : Nat} {cl : Cl} {D : DC}

theorem ints_rep (z : Int) (t : Tok) : ∀ n : Nat, IntsAre (List.replicate n (.int z t)) (List.replicate n z)
  | 0 => .nil
  | n + 1 => .cons z t (ints_rep z t n)
theorem ints_len {vs : List Value} {xs : List Int} (h : IntsAre vs xs) : vs.length = xs.length := by
  induction h with
  | nil => rfl
  | cons _ _ _ ih => simp [ih]
theorem ints_at {vs : List Value} {xs : List Int} (h : IntsAre vs xs) : ∀ (k : Nat) (z : Int), xs[k]? = some z → ∃ t, vs[k]? = some (.int z t) := by
  induction h with
  | nil => intro k z e; simp at e
  | cons n t _ ih =>
    intro k z e
    cases k with
    | zero => simp at e; exact ⟨t, by simp [e]⟩
    | succ k => simpa using ih k z (by simpa using e)
theorem ints_set {vs : List Value} {xs : List Int} (h : IntsAre vs xs) : ∀ (k : Nat) (z : Int) (t : Tok), IntsAre (vs.set k (.int z t)) (xs.set k z) := by
  induction h with
  | nil => intro k z t; exact .nil
  | cons n u _ ih =>
    intro k z t
    cases k with
    | zero => exact .cons z t (by assumption)
    | succ k => exact .cons n u (ih k z t)

/-- a new list laid down: as one that stays, or as a handle -/
theorem newL_ok {x : FX} {m : Str → Option Value} {cs : Led} {W : Wd} {H H' : Hp} {h h' : Heap} {fr : Bool} {xs : List Int} {v : V} {vs : List Value} {l : Addr}
    (he : mkL fr xs H = some (v, H')) (R : SR G x.h₀ x.L h cs W H) (hi : IntsAre vs xs) (F' : Fr x.h₀ x.L h' m) {n : Nat} (N' : News x.h₀ x.L h' ((l, listOf vs.toArray n) :: (cs ++ W.all))) (hl : ∀ p ∈ cs ++ W.all, p.1 ≠ l)
    {Q : Prop} (k : ∀ W', SR G x.h₀ x.L h' cs W' H' → WLe W W' → VR G W' v (.ref l) → Q) : Q := by
  unfold mkL at he
  split at he
  · rename_i h0
    cases fr
    · cases he
      obtain ⟨R', L'⟩ := R.addFz N' hl
      exact k _ R' L' ⟨l, rfl, h0, vs, hi, .inl ⟨n, .head _⟩⟩
    · cases he
      obtain ⟨R', L', e⟩ := R.addMu hi h0 N' hl
      exact k _ R' L' ⟨l, rfl, e⟩
  · cases he

theorem mkL_len {fr : Bool} {xs : List Int} {H : Hp} {r : V × Hp} (he : mkL fr xs H = some r) : xs.length ≤ 1048576 := by
  unfold mkL at he
  split at he
  · assumption
  · cases he

theorem ok_cat {a b : ME} (ha : EOK S G d cl D a) (hb : EOK S G d cl D b) (fr : Bool) (q : Nat) : EOK S G d cl D (.cat fr a b q) := by
  intro x hx hw E Q s m cs W loc H v H' he F R VV post
  simp only [ev] at he
  split at he
  · rename_i va H1 hA
    split at he
    · rename_i vb H2 hB
      split at he
      · rename_i xs ys hxs hys
        refine wpAny_BinOp (ha x hx hw.1 E _ s m cs W loc H _ H1 hA F R VV ?_)
        intro v1 h1 t1 W1 F1 R1 L1 V1
        refine hb x hx hw.2 E _ { s with heap := h1, toks := t1 } m cs W1 loc H1 _ _ hB F1 R1 (VV.mono L1) ?_
        intro v2 h2 t2 W2 F2 R2 L2 V2
        obtain ⟨l1, vs1, rfl, i1, b1, n1⟩ := R2.items hx F2 (V1.mono L2) hxs
        obtain ⟨l2, vs2, rfl, i2, b2, n2⟩ := R2.items hx F2 V2 hys
        have hlen := mkL_len he
        refine add_arrays (s := { s with heap := h2, toks := t2 }) F2 R2.N b1 b2 (fun h3 F3 N3 => ?_) ?_
        · refine newL_ok he R2 (IntsAre.append i1 i2) F3 (n := 0) N3 (fun p hp => Nat.ne_of_lt (R2.lt p hp)) fun W3 R3 L3 V3 => ?_
          exact post _ h3 t2 W3 F3 R3 ((L1.trans L2).trans L3) V3
        · have := ints_len i1; have := ints_len i2
          simp only [List.size_toArray, sizeLine_eq]
          simp only [List.length_append] at hlen
          omega
      · cases he
    · cases he
  · cases he


theorem ok_rep {a b : ME} (ha : EOK S G d cl D a) (hb : EOK S G d cl D b) (fr : Bool) (q : Nat) : EOK S G d cl D (.rep fr a b q) := by
  intro x hx hw E Q s m cs W loc H v H' he F R VV post
  simp only [ev] at he
  split at he
  · rename_i z H1 hA
    split at he
    · rename_i y H2 hB
      split at he
      · rename_i hy
        refine wpAny_BinOp (List_ (spliced_more (ha x hx hw.1 E _ s m cs W loc H _ H1 hA F R VV ?_) ?_))
        · intro v1 h1 t1 W1 F1 R1 L1 V1
          obtain ⟨u, rfl⟩ := V1
          refine spliced_none (newList_K (s := { s with heap := h1, toks := t1 }) F1 R1.N (fun l h2 F2 N2 hlt => ?_) (by simp [sizeLine_eq]))
          obtain ⟨R2, L2⟩ := R1.addFz N2 (fun p hp => Nat.ne_of_lt (hlt p hp))
          refine hb x hx hw.2 E _ { s with heap := h2, toks := t1 } m cs _ loc H1 _ _ hB F2 R2 (VV.mono (L1.trans L2)) ?_
          intro v3 h3 t3 W3 F3 R3 L3 V3
          obtain ⟨u3, rfl⟩ := V3
          have hm := L3.fz _ (List.Mem.head _)
          refine mul_list (s := { s with heap := h3, toks := t3 }) F3 R3.N (R3.N (l, listOf [Value.int z u].toArray 0) (by simp only [Wd.all, List.mem_append]; exact .inr (.inr (.inr hm)))).1 (by omega) (by omega) (by simp; omega) (fun h4 F4 N4 => ?_)
          rw [listMul_foldl_if] at N4
          have e : (List.replicate y.toNat [Value.int z u].toArray.toList).flatten = List.replicate y.toNat (Value.int z u) := by simp
          rw [e] at N4
          refine newL_ok he R3 (ints_rep z u y.toNat) F4 (n := 0) N4 (fun p hp => Nat.ne_of_lt (R3.lt p hp)) fun W4 R4 L4 V4 => ?_
          exact post _ h4 t3 W4 F4 R4 (((L1.trans L2).trans L3).trans L4) V4
        · cases a <;> rfl
      · cases he
    · cases he
  · cases he
end
end Mine

namespace Mine

/-- what a call that raises leaves -/
noncomputable abbrev ExcPost (G : Fix) (x : FX) (m : Str → Option Value) (nw : Led) (s : Shared) (E : Value → Shared → Prop) : Prop :=
  ∀ (e t : Addr) (vs : List Value) (g h' : Heap) (tk' : Nat), Fr x.h₀ x.L g m → g.UpToSlots h' → RaisedK G.base (x.env :: x.outer) e (.ref G.CX) t vs nw h' → E (.ref e) { s with heap := h', toks := tk' }

/-- what is said of the oracle -/
noncomputable def CallOK (S : Glo) (G : Fix) (d : Nat) (cl : Cl) : Prop :=
  ∀ (x : FX), x.OK S G d → ∀ (E Q : Value → Shared → Prop) (s : Shared) (m : Str → Option Value) (cs : Led) (W : Wd) (H : Hp) (g : Nat) (vs : List V) (vrs : List Value) (r : CR),
    cl g vs H = some r → Fr x.h₀ x.L s.heap m → SR G x.h₀ x.L s.heap cs W H → VRs G W vs vrs →
    (∀ v H', r = .val v H' → EPost G x m cs W H' s (fun W' => VR G W' v) Q) → (r = .exc → ExcPost G x m (cs ++ W.fz) s E) →
    wpAny (model S.prog S.w) x.A (call (.ref (G.ga g)) vrs) Q E s

noncomputable def ESOK (S : Glo) (G : Fix) (d : Nat) (cl : Cl) (D : DC) (es : MEs) : Prop :=
  ∀ (x : FX), x.OK S G d → wfEs x.cs D.names.length es → ∀ (pos : Pos) (E : Value → Shared → Prop) (Q : List Value → Shared → Prop) (s : Shared) (m : Str → Option Value) (cs : Led) (W : Wd) (loc : List V) (H : Hp) (vs : List V) (H' : Hp),
    evs cl loc es H = some (vs, H') → Fr x.h₀ x.L s.heap m → SR G x.h₀ x.L s.heap cs W H → VarsR G x D m cs W loc →
    (∀ vrs h' tk' W', Fr x.h₀ x.L h' m → SR G x.h₀ x.L h' cs W' H' → WLe W W' → VRs G W' vs vrs → Q vrs { s with heap := h', toks := tk' }) →
    wpAny (model S.prog S.w) x.A (spliced (backTo pos (starEach (dEs D es) x.env))) Q E s

section
variable {S : Glo} {G : Fix} {d : Nat} {cl : Cl} {D : DC}

theorem star_dE (e : ME) (rest : List Expr) (env : Env) : starEach (dE D e :: rest) env = (false, eval (dE D e) env) :: starEach rest env := by cases e <;> rfl
theorem plain_dEs (pos : Pos) (env : Env) : ∀ es : MEs, (backTo pos (starEach (dEs D es) env)).any (·.1) = false
  | .nil => rfl
  | .cons e r => by
    have ih := plain_dEs pos env r
    simp only [dEs, star_dE]
    show (false || (backTo pos (starEach (dEs D r) env)).any (·.1)) = false
    rw [ih]; rfl

theorem ok_nil (fr : Bool) (q : Nat) : EOK S G d cl D (.nil fr q) := by
  intro x hx hw E Q s m cs W loc H v H' he F R VV post
  simp only [ev] at he
  refine List_ (spliced_none (newList_K F R.N (fun l h2 F2 N2 hlt => ?_) (by simp [sizeLine_eq])))
  refine newL_ok he R IntsAre.nil F2 (n := 0) N2 (fun p hp => Nat.ne_of_lt (hlt p hp)) fun W4 R4 L4 V4 => ?_
  exact post _ h2 s.toks W4 F2 R4 L4 V4

theorem ok_one {a : ME} (ha : EOK S G d cl D a) (q : Nat) : EOK S G d cl D (.one a q) := by
  intro x hx hw E Q s m cs W loc H v H' he F R VV post
  simp only [ev] at he
  split at he
  · rename_i z H1 hA
    cases he
    refine List_ (spliced_more (ha x hx hw E _ s m cs W loc H _ _ hA F R VV ?_) (star_dE a [] _))
    intro v1 h1 t1 W1 F1 R1 L1 V1
    obtain ⟨u, rfl⟩ := V1
    refine spliced_none (newList_K (s := { s with heap := h1, toks := t1 }) F1 R1.N (fun l h2 F2 N2 hlt => ?_) (by simp [sizeLine_eq]))
    refine newL_ok (fr := false) (xs := [z]) (H := H') (v := .lst [z]) (H' := H') rfl R1 (IntsAre.cons z u IntsAre.nil) F2 (n := 0) N2 (fun p hp => Nat.ne_of_lt (hlt p hp)) fun W4 R4 L4 V4 => ?_
    exact post _ h2 t1 W4 F2 R4 (L1.trans L4) V4
  · cases he

theorem ok_len (hf : Facts S G) {a : ME} (ha : EOK S G d cl D a) (q : Nat) : EOK S G d cl D (.len a q) := by
  intro x hx hw E Q s m cs W loc H v H' he F R VV post
  simp only [ev] at he
  split at he
  · rename_i va H1 hA
    split at he
    · rename_i xs hxs
      cases he
      refine wpAny_Call_NameR (nameX_B F hx.X (topRead_of hx.T) (hf.bn "len" (by simp)) PyProof.Rows.Boot.«len» (by decide) ?_ hx.kf hw.2)
      refine callWith_builtin1 (spliced_more (ha x hx hw.1 E _ s m cs W loc H _ _ hA F R VV ?_) (star_dE a [] _)) (star_dE a [] _)
      intro v1 h1 t1 W1 F1 R1 L1 V1
      obtain ⟨l, vs, rfl, i1, b1, n1⟩ := R1.items hx F1 V1 hxs
      have hsz : (vs.toArray.size : Int) = (xs.length : Int) := by rw [List.size_toArray, ints_len i1]
      refine spliced_none (len_list (s := { s with heap := h1, toks := t1 }) b1 (by rw [hsz]; omega) ?_)
      rw [hsz]
      exact post _ h1 _ W1 F1 R1 L1 ⟨_, rfl⟩
    · cases he
  · cases he

theorem ok_abs (hf : Facts S G) {a : ME} (ha : EOK S G d cl D a) (q : Nat) : EOK S G d cl D (.abs a q) := by
  intro x hx hw E Q s m cs W loc H v H' he F R VV post
  simp only [ev] at he
  split at he
  · rename_i va H1 hA
    cases he
    refine wpAny_Call_NameR (nameX_B F hx.X (topRead_of hx.T) (hf.bn "abs" (by simp)) PyProof.Rows.Boot.«abs» (by decide) ?_ hx.kf hw.2)
    refine callWith_builtin1 (spliced_more (ha x hx hw.1 E _ s m cs W loc H _ _ hA F R VV ?_) (star_dE a [] _)) (star_dE a [] _)
    intro v1 h1 t1 W1 F1 R1 L1 V1
    obtain ⟨u, rfl⟩ := V1
    refine spliced_none (call_abs_int (s := { s with heap := h1, toks := t1 }) fun u' tk => ?_)
    exact post _ h1 _ W1 F1 R1 L1 ⟨_, rfl⟩
  · cases he

theorem eok_nil : ESOK S G d cl D .nil := by
  intro x hx hw pos E Q s m cs W loc H vs H' he F R VV post
  cases he
  exact spliced_none (post [] s.heap s.toks W F R (.refl W) trivial)
theorem eok_cons {e : ME} {es : MEs} (h : EOK S G d cl D e) (hs : ESOK S G d cl D es) : ESOK S G d cl D (.cons e es) := by
  intro x hx hw pos E Q s m cs W loc H vs H' he F R VV post
  simp only [evs] at he
  split at he
  · rename_i v H1 hA
    split at he
    · rename_i vs' H2 hB
      cases he
      refine spliced_more (h x hx hw.1 E _ s m cs W loc H _ _ hA F R VV ?_) (star_dE e _ _)
      intro v1 h1 t1 W1 F1 R1 L1 V1
      refine hs x hx hw.2 pos E _ { s with heap := h1, toks := t1 } m cs W1 loc H1 _ _ hB F1 R1 (VV.mono L1) ?_
      intro vrs h2 t2 W2 F2 R2 L2 V2
      exact post (v1 :: vrs) h2 t2 W2 F2 R2 (L1.trans L2) ⟨V1.mono L2, V2⟩
    · cases he
  · cases he

/-- arguments, then a call of a def of the program's -/
theorem callArgs_ok (hf : Facts S G) (hc : CallOK S G d cl) {e : ME} {es : MEs} (h : EOK S G d cl D e) (hs : ESOK S G d cl D es) {x : FX} (hx : x.OK S G d) (hw : wfE x.cs D.names.length e ∧ wfEs x.cs D.names.length es)
    {pos : Pos} {E Q : Value → Shared → Prop} {s : Shared} {m : Str → Option Value} {cs : Led} {W : Wd} {loc : List V} {H H1 H2 H3 : Hp} {v r : V} {vs : List V} {g : Nat} (hg : g < gnames.length)
    (hA : ev cl loc e H = some (v, H1)) (hB : evs cl loc es H1 = some (vs, H2)) (hC : cl g (v :: vs) H2 = some (.val r H3)) (F : Fr x.h₀ x.L s.heap m) (R : SR G x.h₀ x.L s.heap cs W H) (VV : VarsR G x D m cs W loc)
    (post : EPost G x m cs W H3 s (fun W' => VR G W' r) Q) :
    wpAny (model S.prog S.w) x.A (callWith pos (.ref (G.ga g)) [] (backTo pos (starEach (dE D e :: dEs D es) x.env)) []) Q E s := by
  refine callWith_K hx.X (hf.fn g hg).2 (spliced_more (h x hx hw.1 E _ s m cs W loc H _ _ hA F R VV ?_) (star_dE e _ _)) (star_dE e _ _) (plain_dEs pos _ es)
  intro v1 h1 t1 W1 F1 R1 L1 V1
  refine hs x hx hw.2 pos E _ { s with heap := h1, toks := t1 } m cs W1 loc H1 _ _ hB F1 R1 (VV.mono L1) ?_
  intro vrs h2 t2 W2 F2 R2 L2 V2
  refine ⟨hx.X.keeps F2.keep, ?_⟩
  refine hc x hx E Q { s with heap := h2, toks := t2 } m cs W2 H2 g (v :: vs) (v1 :: vrs) _ hC F2 R2 ⟨V1.mono L2, V2⟩ (fun v' H' e => ?_) (fun e => by cases e)
  cases e
  intro vr h' tk' W' F' R' L' V'
  exact post vr h' tk' W' F' R' ((L1.trans L2).trans L') V'

theorem gname_debug {g : Nat} (h : g < gnames.length) : (gname g == ("__debug__" : Str)) = false := by
  have : ∀ g < gnames.length, (gname g == ("__debug__" : Str)) = false := by decide
  exact this g h

theorem ok_call (hf : Facts S G) (hc : CallOK S G d cl) {e : ME} {es : MEs} (h : EOK S G d cl D e) (hs : ESOK S G d cl D es) (g q : Nat) : EOK S G d cl D (.call g e es q) := by
  intro x hx hw E Q s m cs W loc H v H' he F R VV post
  simp only [ev] at he
  split at he
  · rename_i va H1 hA
    split at he
    · rename_i vs H2 hB
      split at he
      · rename_i r H3 hC
        cases he
        refine wpAny_Call_NameR (nameX_K F hx.X (topRead_of hx.T) (hf.fn g hw.1.1).1 ?_ hx.kf hw.1.2 (gname_debug hw.1.1))
        exact callArgs_ok hf hc h hs hx hw.2 hw.1.1 hA hB hC F R VV post
      · cases he
    · cases he
  · cases he

theorem ok_callv (hD : D.good) (hf : Facts S G) (hc : CallOK S G d cl) {e : ME} {es : MEs} (h : EOK S G d cl D e) (hs : ESOK S G d cl D es) (i q : Nat) (hgl : ∀ g vs H r, cl g vs H = some r → g < gnames.length) : EOK S G d cl D (.callv i e es q) := by
  intro x hx hw E Q s m cs W loc H v H' he F R VV post
  simp only [ev] at he
  split at he
  · rename_i g hi
    split at he
    · rename_i va H1 hA
      split at he
      · rename_i vs H2 hB
        split at he
        · rename_i r H3 hC
          cases he
          obtain ⟨vr, ha, hr⟩ := VV.vars i _ hi (fun e => nomatch e)
          have hr' : vr = .ref (G.ga g) := hr
          subst hr'
          exact wpAny_Call_NameR (load_ok hD hx hw.1 F R ha (callArgs_ok hf hc h hs hx hw.2 (hgl _ _ _ _ hC) hA hB hC F R VV post))
        · cases he
      · cases he
    · cases he
  · cases he

theorem sub_item (e : ME) (o i : Value) : subscripted (dE D e) false o i = operate [o, i] (getItem o i) := by cases e <;> rfl

theorem ok_item {a b : ME} (ha : EOK S G d cl D a) (hb : EOK S G d cl D b) (q : Nat) : EOK S G d cl D (.item a b q) := by
  intro x hx hw E Q s m cs W loc H v H' he F R VV post
  simp only [ev] at he
  split at he
  · rename_i va H1 hA
    split at he
    · rename_i k H2 hB
      split at he
      · rename_i r hr
        cases he
        refine Subscript_ (ha x hx hw.1 E _ s m cs W loc H _ H1 hA F R VV ?_)
        intro v1 h1 t1 W1 F1 R1 L1 V1
        refine hb x hx hw.2 E _ { s with heap := h1, toks := t1 } m cs W1 loc H1 _ _ hB F1 R1 (VV.mono L1) ?_
        intro v2 h2 t2 W2 F2 R2 L2 V2
        obtain ⟨u2, rfl⟩ := V2
        have V1' := V1.mono L2
        have key : ∀ (xs : List Int), items H' va = some xs → (if 0 ≤ k then (xs[k.toNat]?).map V.int else none) = some v →
            wpAny (model S.prog S.w) x.A (subscriptTail (dE D a) (dE D b) v1 (.int k u2)) Q E { s with heap := h2, toks := t2 } := by
          intro xs hxs hr
          obtain ⟨l1, vs1, rfl, i1, b1, n1⟩ := R2.items hx F2 V1' hxs
          by_cases h0 : 0 ≤ k
          · rw [if_pos h0] at hr
            obtain ⟨z, hz, rfl⟩ := Option.map_eq_some_iff.mp hr
            obtain ⟨tz, ez⟩ := ints_at i1 _ _ hz
            have hlt : k.toNat < xs.length := by
              by_cases q : k.toNat < xs.length
              · exact q
              · rw [List.getElem?_eq_none (by omega)] at hz; cases hz
            refine tail_any (s := { s with heap := h2, toks := t2 }) b1.typeIs slot_list_getitem.lookup (wpAny_getItem_list (x := .int z tz) b1 h0 (by omega) (by simpa using ez) ?_) (sub_item b _ _)
            exact post _ h2 t2 W2 F2 R2 (L1.trans L2) ⟨_, rfl⟩
          · rw [if_neg h0] at hr; cases hr
        cases va with
        | lst ys => exact key ys rfl hr
        | hnd j =>
          simp only [itemV] at hr
          split at hr
          · rename_i xs hxs; exact key xs hxs hr
          · cases hr
        | box =>
          obtain ⟨ab, rfl, hab⟩ := V1'
          simp only [itemV] at hr
          split at hr
          · rename_i i0 cs0 st0 hbx
            have hB' := R2.bx
            rw [hbx] at hB'
            obtain ⟨a', l, t, u, n, eb, hl⟩ := hB'
            rw [eb] at hab
            cases hab
            have hobj := (R2.N (a', PySem.W.listOf #[.int i0 t, .ref l, .int st0 u] n) (by simp [Wd.all, eb])).1
            have hlist : h2.IsList a' #[.int i0 t, .ref l, .int st0 u] := ⟨_, hobj, rfl, n, rfl⟩
            split at hr
            · rename_i hk; subst hk; cases hr
              refine tail_any (s := { s with heap := h2, toks := t2 }) hlist.typeIs slot_list_getitem.lookup (wpAny_getItem_list (x := .int i0 t) hlist (by decide) (by decide) rfl ?_) (sub_item b _ _)
              exact post _ h2 t2 W2 F2 R2 (L1.trans L2) ⟨_, rfl⟩
            · split at hr
              · rename_i hk; subst hk; cases hr
                refine tail_any (s := { s with heap := h2, toks := t2 }) hlist.typeIs slot_list_getitem.lookup (wpAny_getItem_list (x := .ref l) hlist (by decide) (by decide) rfl ?_) (sub_item b _ _)
                exact post _ h2 t2 W2 F2 R2 (L1.trans L2) ⟨l, rfl, hl⟩
              · split at hr
                · rename_i hk; subst hk; cases hr
                  refine tail_any (s := { s with heap := h2, toks := t2 }) hlist.typeIs slot_list_getitem.lookup (wpAny_getItem_list (x := .int st0 u) hlist (by decide) (by decide) rfl ?_) (sub_item b _ _)
                  exact post _ h2 t2 W2 F2 R2 (L1.trans L2) ⟨_, rfl⟩
                · cases hr
          · cases hr
        | _ => cases hr
      · cases he
    · cases he
  · cases he
end
end Mine

namespace Mine

section
variable {S : Glo} {G : Fix} {d : Nat} {cl : Cl} {D : DC}

theorem slice_size {xs : Array Value} (h : xs.size ≤ 1048576) : xs.size ≤ sizeLine := by rw [sizeLine_eq]; omega

/-- a slice: the new list -/
theorem slice_ok {x : FX} (hx : x.OK S G d) {value slice : Expr} {m : Str → Option Value} {cs : Led} {W : Wd} {H : Hp} {s : Shared} (F : Fr x.h₀ x.L s.heap m) (R : SR G x.h₀ x.L s.heap cs W H) {l : Addr} {vs : List Value} {xs ys : List Int}
    (hi : IntsAre vs xs) (hl : s.heap.IsList l vs.toArray) (h0 : xs.length ≤ 1048576) {vl vu : Value} {lo hi' : Option Int} (pl : IsPart vl lo) (pu : IsPart vu hi')
    (hy : IntsAre (slicePick vs.toArray lo hi' none).toList ys) (hyl : ys.length ≤ 1048576) {E Q : Value → Shared → Prop}
    (hs : subscripted slice false (.ref l) (.ref s.heap.objs.size) = operate [.ref s.heap.objs.size, .ref l] (getItem (.ref l) (.ref s.heap.objs.size)))
    (post : EPost G x m cs W H s (fun W' => VR G W' (.lst ys)) Q) :
    wpAny (model S.prog S.w) x.A (subscriptTail value slice (.ref l) (.ref s.heap.objs.size)) Q E { s with heap := s.heap.push { cls := .type "slice", data := .fields #[vl, vu, .none] } } := by
  refine tail_any (s := { s with heap := s.heap.push { cls := .type "slice", data := .fields #[vl, vu, .none] } }) (hl.push _).typeIs list_getitem_lookup
    (wpAny_getItem_list_slice (hl.push _) (Heap.IsSliceOf.new ..) pl pu .none (by simp) ?_ (slice_size (by rw [List.size_toArray, ints_len hi]; exact h0))) hs
  have F1 := F.push { cls := .type "slice", data := .fields #[vl, vu, .none] }
  have N1 : News x.h₀ x.L (s.heap.push { cls := .type "slice", data := .fields #[vl, vu, .none] }) (cs ++ W.all) := R.N.grown fun _ _ e => Heap.get?_push_of_some _ e
  have N2 := News.push F1 N1 { cls := .type "list", data := .seq (slicePick vs.toArray lo hi' none) }
  have F2 := F1.push { cls := .type "list", data := .seq (slicePick vs.toArray lo hi' none) }
  have R1 : SR G x.h₀ x.L (s.heap.push { cls := .type "slice", data := .fields #[vl, vu, .none] }) cs W H := ⟨N1, R.nd, R.ms, R.bx, R.cells⟩
  refine newL_ok (fr := false) (xs := ys) (H := H) (v := .lst ys) (H' := H) (vs := (slicePick vs.toArray lo hi' none).toList) (n := 0) (by simp only [mkL]; rw [if_pos hyl]; rfl) R1 hy F2 N2 (fun p hp => Nat.ne_of_lt (R1.lt p hp)) fun W4 R4 L4 V4 => ?_
  exact post _ _ s.toks W4 F2 R4 L4 V4

theorem ok_slTo {a b : ME} (ha : EOK S G d cl D a) (hb : EOK S G d cl D b) (q : Nat) : EOK S G d cl D (.slTo a b q) := by
  intro x hx hw E Q s m cs W loc H v H' he F R VV post
  simp only [ev] at he
  split at he
  · rename_i va H1 hA
    split at he
    · rename_i k H2 hB
      split at he
      · rename_i xs hxs
        split at he
        · rename_i h0
          cases he
          refine Subscript_ (ha x hx hw.1 E _ s m cs W loc H _ H1 hA F R VV ?_)
          intro v1 h1 t1 W1 F1 R1 L1 V1
          refine wpAny_Slice (evalPart_none_step (evalPart_some_step (hb x hx hw.2 E _ { s with heap := h1, toks := t1 } m cs W1 loc H1 _ _ hB F1 R1 (VV.mono L1) ?_)))
          intro v2 h2 t2 W2 F2 R2 L2 V2
          obtain ⟨u2, rfl⟩ := V2
          obtain ⟨l1, vs1, rfl, i1, b1, n1⟩ := R2.items hx F2 (V1.mono L2) hxs
          refine evalPart_none_step ?_
          refine slice_ok (s := { s with heap := h2, toks := t2 }) hx F2 R2 i1 b1 n1 .none (.int k u2) (slice_ints_uptoW i1 h0) (by rw [List.length_take]; omega) rfl ?_
          intro vr h' tk' W' F' R' L' V'
          exact post vr h' tk' W' F' R' ((L1.trans L2).trans L') V'
        · cases he
      · cases he
    · cases he
  · cases he

theorem ok_slFr {a b : ME} (ha : EOK S G d cl D a) (hb : EOK S G d cl D b) (q : Nat) : EOK S G d cl D (.slFr a b q) := by
  intro x hx hw E Q s m cs W loc H v H' he F R VV post
  simp only [ev] at he
  split at he
  · rename_i va H1 hA
    split at he
    · rename_i k H2 hB
      split at he
      · rename_i xs hxs
        split at he
        · rename_i h0
          cases he
          refine Subscript_ (ha x hx hw.1 E _ s m cs W loc H _ H1 hA F R VV ?_)
          intro v1 h1 t1 W1 F1 R1 L1 V1
          refine wpAny_Slice (evalPart_some_step (hb x hx hw.2 E _ { s with heap := h1, toks := t1 } m cs W1 loc H1 _ _ hB F1 R1 (VV.mono L1) ?_))
          intro v2 h2 t2 W2 F2 R2 L2 V2
          obtain ⟨u2, rfl⟩ := V2
          obtain ⟨l1, vs1, rfl, i1, b1, n1⟩ := R2.items hx F2 (V1.mono L2) hxs
          refine evalPart_none_step (evalPart_none_step ?_)
          refine slice_ok (s := { s with heap := h2, toks := t2 }) hx F2 R2 i1 b1 n1 (.int k u2) .none (slice_ints_fromW i1 h0) (by rw [List.length_drop]; omega) rfl ?_
          intro vr h' tk' W' F' R' L' V'
          exact post vr h' tk' W' F' R' ((L1.trans L2).trans L') V'
        · cases he
      · cases he
    · cases he
  · cases he

theorem lm2 (o1 o2 : Cop) (b c : Expr) : lastMarks [o1.op, o2.op] [b, c] = false := by
  simp only [lastMarks]
  exact bim o2 c

theorem ok_cmp2 {a b c : ME} (ha : EOK S G d cl D a) (hb : EOK S G d cl D b) (hc : EOK S G d cl D c) (o1 o2 : Cop) (q : Nat) : EOK S G d cl D (.cmp2 o1 o2 a b c q) := by
  intro x hx hw E Q s m cs W loc H v H' he F R VV post
  simp only [ev] at he
  split at he
  · rename_i va H1 hA
    split at he
    · rename_i vb H2 hB
      refine Compare_chain (rs := []) (ops := []) (ha x hx hw.1 E _ s m cs W loc H _ H1 hA F R VV ?_) (lm2 _ _ _ _)
      intro v1 h1 t1 W1 F1 R1 L1 V1
      obtain ⟨u1, rfl⟩ := V1
      refine chain_link (hb x hx hw.2.1 E _ { s with heap := h1, toks := t1 } m cs W1 loc H1 _ _ hB F1 R1 (VV.mono L1) ?_)
      intro v2 h2 t2 W2 F2 R2 L2 V2
      obtain ⟨u2, rfl⟩ := V2
      refine cmp_ok o1 (wpAny_truthy_bool ?_)
      split at he
      · rename_i hc1
        rw [if_pos hc1]
        split at he
        · rename_i vc H3 hC
          cases he
          refine chain_last (hc x hx hw.2.2 E _ { s with heap := h2, toks := t2 } m cs W2 loc H2 _ _ hC F2 R2 (VV.mono (L1.trans L2)) ?_)
          intro v3 h3 t3 W3 F3 R3 L3 V3
          obtain ⟨u3, rfl⟩ := V3
          exact cmp_ok o2 (post _ h3 t3 W3 F3 R3 ((L1.trans L2).trans L3) rfl)
        · cases he
      · rename_i hc1
        rw [if_neg hc1]
        cases he
        have e : cmpI o1 va vb = false := by simpa using hc1
        rw [e]
        exact post _ h2 t2 W2 F2 R2 (L1.trans L2) rfl
    · cases he
  · cases he

theorem tok_cmp2 {a b c : ME} (ha : EOK S G d cl D a) (hb : EOK S G d cl D b) (hc : EOK S G d cl D c) (o1 o2 : Cop) (q : Nat) : TOK S G d cl D (.cmp2 o1 o2 a b c q) := by
  intro x hx hw E Q s m cs W loc H v H' he F R VV post
  simp only [ev] at he
  split at he
  · rename_i va H1 hA
    split at he
    · rename_i vb H2 hB
      refine isTrue_chain (rs := []) (ops := []) (ha x hx hw.1 E _ s m cs W loc H _ H1 hA F R VV ?_) (lm2 _ _ _ _)
      intro v1 h1 t1 W1 F1 R1 L1 V1
      obtain ⟨u1, rfl⟩ := V1
      refine test_link (hb x hx hw.2.1 E _ { s with heap := h1, toks := t1 } m cs W1 loc H1 _ _ hB F1 R1 (VV.mono L1) ?_)
      intro v2 h2 t2 W2 F2 R2 L2 V2
      obtain ⟨u2, rfl⟩ := V2
      refine cmp_ok o1 (wpAny_truthy_bool ?_)
      split at he
      · rename_i hc1
        rw [if_pos hc1]
        split at he
        · rename_i vc H3 hC
          cases he
          refine test_last (hc x hx hw.2.2 E _ { s with heap := h2, toks := t2 } m cs W2 loc H2 _ _ hC F2 R2 (VV.mono (L1.trans L2)) ?_)
          intro v3 h3 t3 W3 F3 R3 L3 V3
          obtain ⟨u3, rfl⟩ := V3
          exact cmp_ok o2 (wpAny_truthy_bool (post h3 t3 W3 F3 R3 ((L1.trans L2).trans L3)))
        · cases he
      · rename_i hc1
        rw [if_neg hc1]
        cases he
        exact post h2 t2 W2 F2 R2 (L1.trans L2)
    · cases he
  · cases he

/-- and, or: the rest -/
noncomputable def LOK (S : Glo) (G : Fix) (d : Nat) (cl : Cl) (D : DC) (isAnd : Bool) (es : MEs) : Prop :=
  ∀ (x : FX), x.OK S G d → wfEs x.cs D.names.length es → ∀ (pos : Pos) (E Q : Value → Shared → Prop) (s : Shared) (m : Str → Option Value) (cs : Led) (W : Wd) (loc : List V) (H : Hp) (e : ME) (v : V) (H' : Hp),
    wfE x.cs D.names.length e → EOK S G d cl D e → ev cl loc (.logic isAnd e es 0) H = some (v, H') → Fr x.h₀ x.L s.heap m → SR G x.h₀ x.L s.heap cs W H → VarsR G x D m cs W loc →
    EPost G x m cs W H' s (fun W' => VR G W' v) Q → wpAny (model S.prog S.w) x.A (eval (.BoolOp (if isAnd then .And else .Or) (dE D e :: dEs D es) pos) x.env) Q E s

theorem lok_nil (isAnd : Bool) : LOK S G d cl D isAnd .nil := by
  intro x hx hw pos E Q s m cs W loc H e v H' hwe hE he F R VV post
  simp only [ev] at he
  split at he
  · rename_i b H1 hA
    have hv : (V.bool b, H1) = (v, H') := by
      split at he
      · rename_i hb; simp only [evl] at he; cases he; rw [hb]
      · cases he; rfl
    cases hv
    exact BoolOp_one (hE x hx hwe E _ s m cs W loc H _ _ hA F R VV post)
  · cases he
theorem lok_cons {e' : ME} {es : MEs} (isAnd : Bool) (he' : EOK S G d cl D e') (hs : LOK S G d cl D isAnd es) : LOK S G d cl D isAnd (.cons e' es) := by
  intro x hx hw pos E Q s m cs W loc H e v H' hwe hE he F R VV post
  simp only [ev] at he
  split at he
  · rename_i b H1 hA
    cases isAnd with
    | true =>
      refine BoolOp_and (hE x hx hwe E _ s m cs W loc H _ _ hA F R VV ?_)
      intro v1 h1 t1 W1 F1 R1 L1 V1
      cases V1
      refine wpAny_truthy_bool ?_
      cases b with
      | true =>
        refine hs x hx hw.2 pos E Q { s with heap := h1, toks := t1 } m cs W1 loc H1 e' v H' hw.1 he' (by simpa [ev, evl] using he) F1 R1 (VV.mono L1) ?_
        intro vr h' tk' W' F' R' L' V'
        exact post vr h' tk' W' F' R' (L1.trans L') V'
      | false => cases he; exact post _ h1 t1 W1 F1 R1 L1 rfl
    | false =>
      refine BoolOp_or (hE x hx hwe E _ s m cs W loc H _ _ hA F R VV ?_)
      intro v1 h1 t1 W1 F1 R1 L1 V1
      cases V1
      refine wpAny_truthy_bool ?_
      cases b with
      | false =>
        refine hs x hx hw.2 pos E Q { s with heap := h1, toks := t1 } m cs W1 loc H1 e' v H' hw.1 he' (by simpa [ev, evl] using he) F1 R1 (VV.mono L1) ?_
        intro vr h' tk' W' F' R' L' V'
        exact post vr h' tk' W' F' R' (L1.trans L') V'
      | true => cases he; exact post _ h1 t1 W1 F1 R1 L1 rfl
  · cases he
theorem ok_logic {e : ME} {es : MEs} (isAnd : Bool) (he : EOK S G d cl D e) (hs : LOK S G d cl D isAnd es) (q : Nat) : EOK S G d cl D (.logic isAnd e es q) := by
  intro x hx hw E Q s m cs W loc H v H' hev F R VV post
  exact hs x hx hw.2 _ E Q s m cs W loc H e v H' hw.1 he (by simpa [ev] using hev) F R VV post

/-- the same for tests -/
noncomputable def TsOK (S : Glo) (G : Fix) (d : Nat) (cl : Cl) (D : DC) (isAnd : Bool) (es : MEs) : Prop :=
  ∀ (x : FX), x.OK S G d → wfEs x.cs D.names.length es → ∀ (pos : Pos) (whole : Sem Value) (E : Value → Shared → Prop) (Q : Bool → Shared → Prop) (s : Shared) (m : Str → Option Value) (cs : Led) (W : Wd) (loc : List V) (H : Hp) (c : Bool) (H' : Hp),
    evl cl loc isAnd es H = some (.bool c, H') → Fr x.h₀ x.L s.heap m → SR G x.h₀ x.L s.heap cs W H → VarsR G x D m cs W loc →
    (∀ h' tk' W', Fr x.h₀ x.L h' m → SR G x.h₀ x.L h' cs W' H' → WLe W W' → Q c { s with heap := h', toks := tk' }) →
    wpAny (model S.prog S.w) x.A (isTrue (.BoolOp (if isAnd then .And else .Or) (dEs D es) pos) x.env whole) Q E s
theorem tsok_nil (isAnd : Bool) : TsOK S G d cl D isAnd .nil := by
  intro x hx hw pos whole E Q s m cs W loc H c H' he F R VV post
  simp only [evl] at he
  cases he
  cases isAnd
  · exact isTrue_or_nil (post s.heap s.toks W F R (.refl W))
  · exact isTrue_and_nil (post s.heap s.toks W F R (.refl W))
theorem tsok_cons {e : ME} {es : MEs} (isAnd : Bool) (hE : TOK S G d cl D e) (hs : TsOK S G d cl D isAnd es) : TsOK S G d cl D isAnd (.cons e es) := by
  intro x hx hw pos whole E Q s m cs W loc H c H' he F R VV post
  simp only [evl] at he
  split at he
  · rename_i b H1 hA
    cases isAnd with
    | true =>
      refine isTrue_and (hE x hx hw.1 E _ s m cs W loc H _ _ hA F R VV ?_)
      intro h1 t1 W1 F1 R1 L1
      cases b with
      | true =>
        refine hs x hx hw.2 pos whole E Q { s with heap := h1, toks := t1 } m cs W1 loc H1 c H' (by simpa using he) F1 R1 (VV.mono L1) ?_
        intro h' tk' W' F' R' L'
        exact post h' tk' W' F' R' (L1.trans L')
      | false => cases he; exact post h1 t1 W1 F1 R1 L1
    | false =>
      refine isTrue_or (hE x hx hw.1 E _ s m cs W loc H _ _ hA F R VV ?_)
      intro h1 t1 W1 F1 R1 L1
      cases b with
      | false =>
        refine hs x hx hw.2 pos whole E Q { s with heap := h1, toks := t1 } m cs W1 loc H1 c H' (by simpa using he) F1 R1 (VV.mono L1) ?_
        intro h' tk' W' F' R' L'
        exact post h' tk' W' F' R' (L1.trans L')
      | true => cases he; exact post h1 t1 W1 F1 R1 L1
  · cases he
theorem tok_logic {e : ME} {es : MEs} (isAnd : Bool) (hE : TOK S G d cl D e) (hs : TsOK S G d cl D isAnd es) (q : Nat) : TOK S G d cl D (.logic isAnd e es q) := by
  intro x hx hw E Q s m cs W loc H c H' he F R VV post
  simp only [ev] at he
  exact tsok_cons isAnd hE hs x hx hw (D.pf q) _ E Q s m cs W loc H c H' (by simpa [evl] using he) F R VV post
end
end Mine

namespace Mine

section
variable {S : Glo} {G : Fix} {d : Nat} {cl : Cl} {D : DC}

theorem folded_dE (e : ME) (env : Env) (v : Value) : foldedSetIterable (dE D e) env v = pure v := by cases e <;> rfl
theorem swaps_dE (e : ME) (t : Option Expr) (line : Nat) (env : Env) (he : ∀ a q, e ≠ .comp a q) : swapsWith (dE D e) t line env = pure false := by
  cases e <;> first | rfl | exact absurd rfl (he _ _)

theorem ok_mkbox {a b c : ME} (ha : EOK S G d cl D a) (hb : EOK S G d cl D b) (hc : EOK S G d cl D c) (q : Nat) : EOK S G d cl D (.mkbox a b c q) := by
  intro x hx hw E Q s m cs W loc H v H' he F R VV post
  simp only [ev] at he
  split at he
  · rename_i i H1 hA
    split at he
    · rename_i cs1 H2 hB
      split at he
      · rename_i st H3 hC
        split at he
        · rename_i hbx
          cases he
          refine List_ (spliced_more (ha x hx hw.1 E _ s m cs W loc H _ _ hA F R VV ?_) (star_dE a _ _))
          intro v1 h1 t1 W1 F1 R1 L1 V1
          obtain ⟨u1, rfl⟩ := V1
          refine spliced_more (hb x hx hw.2.1 E _ { s with heap := h1, toks := t1 } m cs W1 loc H1 _ _ hB F1 R1 (VV.mono L1) ?_) (star_dE b _ _)
          intro v2 h2 t2 W2 F2 R2 L2 V2
          refine spliced_more (hc x hx hw.2.2 E _ { s with heap := h2, toks := t2 } m cs W2 loc H2 _ _ hC F2 R2 (VV.mono (L1.trans L2)) ?_) (star_dE c _ _)
          intro v3 h3 t3 W3 F3 R3 L3 V3
          obtain ⟨u3, rfl⟩ := V3
          obtain ⟨l, rfl, hl⟩ := V2.mono L3
          have hb0 : W3.bl = [] := by have := R3.bx; rw [hbx] at this; exact this
          refine spliced_none (newList_K (s := { s with heap := h3, toks := t3 }) F3 R3.N (fun l' h4 F4 N4 hlt => ?_) (by simp [sizeLine_eq]))
          refine post (.ref l') h4 t3 ⟨W3.fz, W3.mu, [(l', PySem.W.listOf #[.int i u1, .ref l, .int st u3] 0)]⟩ F4 ⟨fun p hp => N4 p ?_, ?_, R3.ms, ⟨l', l, u1, u3, 0, rfl, hl⟩, R3.cells⟩ ⟨fun p hp => (L1.trans (L2.trans L3)).fz p hp, (L1.trans (L2.trans L3)).mu, fun a e => ?_⟩ ⟨l', rfl, rfl⟩
          · simp only [Wd.all, hb0, List.nil_append, List.mem_append, List.mem_cons, List.not_mem_nil, or_false] at hp ⊢
            rcases hp with h | h | h | h <;> simp [h]
          · have := nodup_cons_new (cs := cs) (A := []) (B := W3.mu ++ W3.fz) (l := l') (o := PySem.W.listOf #[.int i u1, .ref l, .int st u3] 0) (by simpa [Wd.all, hb0] using R3.nd) (fun p hp => Nat.ne_of_lt (hlt p (by simpa [Wd.all, hb0] using hp)))
            simpa [Wd.all] using this
          · have := (L1.trans (L2.trans L3)).bl a e
            rw [hb0] at this; cases this
        · cases he
      · cases he
    · cases he
  · cases he

/-- what is asked of the class of the told things -/
structure MontFacts (S : Glo) (G : Fix) : Prop where
  get : ∀ f < 4, plainGet S.K G.CM (aname f) = true ∧ hasDictIn S.K G.CM = true ∧ findIn S.K (.ref G.CM) (aname f) = some none

theorem attr_ok (hm : MontFacts S G) {x : FX} (hx : x.OK S G d) {m : Str → Option Value} {cs : Led} {W : Wd} {H : Hp} {s : Shared} (F : Fr x.h₀ x.L s.heap m) (R : SR G x.h₀ x.L s.heap cs W H) {v r : V} {vr : Value} {f : Nat}
    (V1 : VR G W v vr) (hr : attrV v f = some r) {E Q : Value → Shared → Prop} {b : Bool} (post : EPost G x m cs W H s (fun W' => VR G W' r) Q) : wpAny (model S.prog S.w) x.A (getAttr vr (aname f) b) Q E s := by
  cases v with
  | mont mm q o sq =>
    obtain ⟨a, dx, es, n, l1, l2, l3, t, rfl, h1, h2, g1, i1, g2, g3, i3, g4, i4⟩ := V1
    have hI : InstAt s.heap a (instObj G.CM dx) G.CM (some (dictOf es n)) := InstAt.of_news R.N (by simp [Wd.all, h1]) (by simp [Wd.all, h2])
    have key : ∀ f < 4, ∀ v', getL (aname f) es = some (some v') → handedIn v' = true → Q v' { s with toks := s.toks + 1 } → wpAny (model S.prog S.w) x.A (getAttr (.ref a) (aname f) b) Q E s := by
      intro f hf v' hg hv hq
      obtain ⟨e1, e2, e3⟩ := hm.get f hf
      exact get_own F hx.X hI e1 e2 e3 rfl hg hv hq
    match f, hr with
    | 0, hr => cases hr; exact key 0 (by decide) _ g1 rfl (post _ s.heap _ W F R (.refl W) ⟨l1, rfl, i1⟩)
    | 1, hr => cases hr; exact key 1 (by decide) _ g2 rfl (post _ s.heap _ W F R (.refl W) ⟨t, rfl⟩)
    | 2, hr => cases hr; exact key 2 (by decide) _ g3 rfl (post _ s.heap _ W F R (.refl W) ⟨l2, rfl, i3⟩)
    | 3, hr => cases hr; exact key 3 (by decide) _ g4 rfl (post _ s.heap _ W F R (.refl W) ⟨l3, rfl, i4⟩)
    | n + 4, hr => cases hr
  | _ => cases hr

theorem attrBase_dE (a : ME) (attr : Str) (env : Env) (whole : Sem Value) : attributeBase (dE D a) attr env whole = whole := by cases a <;> rfl

theorem ok_attr (hm : MontFacts S G) {a : ME} (ha : EOK S G d cl D a) (f q : Nat) : EOK S G d cl D (.attr a f q) := by
  intro x hx hw E Q s m cs W loc H v H' he F R VV post
  simp only [ev] at he
  split at he
  · rename_i va H1 hA
    split at he
    · rename_i r hr
      cases he
      refine Attribute_any_ (ha x hx hw.1 E _ s m cs W loc H _ _ hA F R VV ?_) ?_
      · intro v1 h1 t1 W1 F1 R1 L1 V1
        refine attr_ok (s := { s with heap := h1, toks := t1 }) hm hx F1 R1 V1 hr ?_
        intro vr h' tk' W' F' R' L' V'
        exact post vr h' tk' W' F' R' (L1.trans L') V'
      · show (do let o ← attributeBase (dE D a) (aname f) x.env (eval (dE D a) x.env); standAt _; let r ← holding [o] (getAttr o (aname f) true); letTemporaryGo (dE D a) o r; pure r) = _
        rw [attrBase_dE]
    · cases he
  · cases he

theorem comp_el (hf : Facts S G) {x : FX} (hx : x.OK S G d) {m m₂ : Str → Option Value} {s : Shared} {I C D' : Addr} {oI oC : Obj} {ys : List Value} {nw : Led} {k : Int} {t : Tok} {q1 q2 q3 : Pos} {E' : Value → Shared → Prop} {SS : List (Addr × Obj) → Prop}
    (hS : SS nw) (hC : LCg.NsObj oC m₂) (hv : m₂ "cell" = some (.int k t)) (F : Fr x.h₀ x.L s.heap m) (N : News x.h₀ x.L s.heap ((I, oI) :: (C, oC) :: (D', LCg.lst ys) :: nw)) (off : LCg.Off3 I C D' nw) :
    wpAny (model S.prog S.w) x.A (eval (.Call (.Name "int" q1) [.Name "cell" q2] [] q3) (compEnvC compScope [] C x.env)) (LCg.CompEnd x.h₀ x.L m s I oI C oC D' (LCg.lst ys) SS (fun y news' => KCfEl nw k y news')) E' s := by
  refine wpAny_Call_NameR (LCgL.ld_built F hx.X hx.T (hf.bn "int" (by simp)) PyProof.Rows.Boot.«int» (by decide) ?_ rfl rfl rfl rfl)
  refine PyProof.Rows.callWith_type1 (spliced_more ?_ rfl) rfl rfl
  refine LCgL.ld_own N (.tail _ (.head _)) hC hv ?_ rfl rfl
  refine spliced_none (call_int_int ?_)
  exact LCg.CompEnd.intro F N nw (fun p hp => hp) off hS ⟨rfl, t, rfl⟩

theorem off1_mem {D' : Addr} : ∀ {l : Led}, LCg.Off1 D' l → ∀ p ∈ l, p.1 ≠ D'
  | [], _, _, h => nomatch h
  | _ :: _, x, p, h => by
    rcases List.mem_cons.mp h with rfl | h
    · exact x.1
    · exact off1_mem x.2 p h

theorem ok_comp (hf : Facts S G) {a : ME} (ha : EOK S G d cl D a) (q : Nat) : EOK S G d cl D (.comp a q) := by
  intro x hx hw E Q s m cs W loc H v H' he F R VV post
  simp only [ev] at he
  split at he
  · rename_i xs H1 hA
    cases he
    refine LCg.ListComp_U (F₀ := F) (cl := []) rfl (by decide) rfl (by decide) rfl (ha x hx hw E _ s m cs W loc H _ _ hA F R VV ?_) (folded_dE a _)
    intro v1 h1 t1 W1 F1 R1 L1 V1
    obtain ⟨l, rfl, h0, vs, hi, hl⟩ := V1
    refine .inl ⟨l, vs.toArray, cs ++ W1.all, rfl, hx.hh, F1, R1.N, ?_, ?_, ?_⟩
    · rcases hl with ⟨n, hn⟩ | ⟨o, ho, r⟩
      · exact .inr ⟨_, by simp only [Wd.all, List.mem_append]; exact .inr (.inr (.inr hn)), rfl, n, rfl⟩
      · exact .inl ⟨o, hx.B.stays _ _ ho, r⟩
    · rw [List.size_toArray, ints_len hi, sizeLine_eq]; omega
    · rintro s₂ ⟨g, rfl⟩
      refine kcf_list (fun k => k) hi ?_ ?_
      · intro k t I oI C oC D' m₂ ys h tk E' _ hC hv F' N' off _ _
        have hS : LCg.SrcAt x.h₀ l vs.toArray (cs ++ W1.all) := by
          rcases hl with ⟨n, hn⟩ | ⟨o, ho, r⟩
          · exact .inr ⟨_, by simp only [Wd.all, List.mem_append]; exact .inr (.inr (.inr hn)), rfl, n, rfl⟩
          · exact .inl ⟨o, hx.B.stays _ _ ho, r⟩
        exact comp_el hf hx hS hC hv F' N' off
      · intro ys hys D' h tk F' N' off
        rw [List.map_id'] at hys
        have Rg : SR G x.h₀ x.L h1 cs W1 H' := R1
        refine newL_ok (fr := false) (xs := xs) (H := H') (v := .lst xs) (H' := H') (by simp only [mkL]; rw [if_pos h0]; rfl) Rg hys F' N' (off1_mem off) fun W4 R4 L4 V4 => ?_
        exact post _ h tk W4 F' R4 (L1.trans L4) V4
  · cases he

noncomputable def initStmt (pf : Nat → Pos) (f q : Nat) : Stmt := .Assign [.Attribute (.Name "self" (pf q)) (aname f) (pf (q + 1))] (.Name (aname f) (pf (q + 2))) (pf (q + 3))
noncomputable def initBody (pf : Nat → Pos) : List Stmt := [initStmt pf 0 0, initStmt pf 1 4, initStmt pf 2 8, initStmt pf 3 12]

structure InitFacts (S : Glo) (G : Fix) : Prop where
  makes : makesIn S.K G.CM = true
  keep : keepIn S.K (.ref G.CM) = true
  setat : findIn S.K (.ref G.CM) "__setattr__" = some (some (.builtin "object.__setattr__"))
  plain : plainOver S.K G.CM = true
  taker : ∀ f < 4, takerIn S.K G.CM (aname f) = some none
  dict : hasDictIn S.K G.CM = true
  init : ∃ (fI : Addr) (oc : Value) (od : Option Addr) (osl : Array (Option Value)) (name qual : Str) (params : Arguments) (scope : Scope) (dV kV doc pm : Value) (an : Option Addr) (cdv ct : Value) (pf : Nat → Pos),
    findIn S.K (.ref G.CM) "__init__" = some (some (.ref fI)) ∧ isFn S.K (.ref fI) = true ∧ S.K.lookup fI = some ⟨oc, od, .func (fnOf name qual params (initBody pf) scope dV kV doc pm an cdv ct), osl⟩ ∧ codeIn S.K cdv qual = true ∧
    (∀ s a b c d' e, BindsTo s (fnOf name qual params (initBody pf) scope dV kV doc pm an cdv ct) ⟨[a, b, c, d', e], []⟩ [("self", a), ("modulus", b), ("minus", c), ("one", d'), ("square", e)]) ∧
    scope.isCoroutine = false ∧ scope.isGenerator = false ∧ scope.kind = .function ∧ (∀ y ∈ scope.names, y.2 ≠ .cell) ∧ (∀ y ∈ [("self" : Str), "modulus", "minus", "one", "square"], scope.names.lookup y = some .local)

/-- one store of the maker's -/
theorem init_step (hI : InitFacts S G) {x : FX} (hX : S.K.In x.h₀) (hk : x.cs.kind = .function) (hls : x.cs.names.lookup ("self" : Str) = some .local) {m : Str → Option Value} {s : Shared} {f q : Nat} (hfl : f < 4) (hlf : x.cs.names.lookup (aname f) = some .local) (pf : Nat → Pos) {o dx : Addr} {v : Value} {es : List DictEntry} {n : Nat} {nw : Led}
    (hself : m "self" = some (.ref o)) (hv : m (aname f) = some v) (F : Fr x.h₀ x.L s.heap m) (N : News x.h₀ x.L s.heap ((o, instObj G.CM dx) :: (dx, dictOf es n) :: nw)) (hne : o ≠ dx) (hnw : ∀ p ∈ nw, p.1 ≠ dx)
    (hl : (getL (aname f) es).isSome = true) (hz : es.length ≤ 10) (hput : ∀ h k, putL (aname f) h k v es = es ++ [⟨h, k, v⟩]) (hpn : putN (aname f) es n = n + 1) {E : Value → Shared → Prop} {Q : Flow → Shared → Prop}
    (h : ∀ h' hs tk, Fr x.h₀ x.L h' m → News x.h₀ x.L h' ((o, instObj G.CM dx) :: (dx, dictOf (es ++ [⟨hs, .str (aname f) tk, v⟩]) (n + 1)) :: nw) → Q .next { s with heap := h', toks := s.toks + 2 }) :
    wpAny (model S.prog S.w) x.A (exec (initStmt pf f q) x.env) Q E s := by
  have hd : ∀ f < 4, (aname f == ("__debug__" : Str)) = false := by decide
  refine plainObj_wpAny_Assign_Attribute (nameX_L F hv (nameX_L F hself ?_ hk hls (by decide)) hk hlf (hd f hfl)) rfl
  have hInst : InstAt s.heap o (instObj G.CM dx) G.CM (some (dictOf es n)) := InstAt.of_news N (.head _) (.tail _ (.head _))
  refine set_dict F hX N hInst rfl hI.setat hI.plain (hI.taker f hfl) hI.dict hl (by rw [hput, hpn]) (Upd.tail hne (Upd.head hnw)) (by rw [List.length_append, List.length_singleton]; omega) (fun h' F' N' => ?_)
  exact h h' _ _ F' N'

theorem mont_call (hI : InitFacts S G) {x : FX} (hx : x.OK S G (d + 1)) {m : Str → Option Value} {cs : Led} {W : Wd} {H : Hp} {s : Shared} (F : Fr x.h₀ x.L s.heap m) (R : SR G x.h₀ x.L s.heap cs W H)
    {l1 l2 l3 : Addr} {t : Tok} {qv : Int} {mm oo sq : List Int} (i1 : IsL G.base W.fz l1 mm) (i2 : IsL G.base W.fz l2 oo) (i3 : IsL G.base W.fz l3 sq) {E Q : Value → Shared → Prop}
    (post : EPost G x m cs W H s (fun W' => VR G W' (.mont mm qv oo sq)) Q) : wpAny (model S.prog S.w) x.A (call (.ref G.CM) [.ref l1, .int qv t, .ref l2, .ref l3]) Q E s := by
  obtain ⟨fI, oc, od, osl, name, qual, params, scope, dV, kV, doc, pm, an, cdv, ct, pf, h1, h2, h3, h4, h5, h6, h7, h8, h9, h10⟩ := hI.init
  refine call_cls F hx.X R.N hI.makes h1 h2 fun o dx h' F' N' lt1 lt2 => ?_
  have hdep : (x.A.under (.builtin "type.__call__" ⟨.ref G.CM :: [.ref l1, .int qv t, .ref l2, .ref l3], []⟩)).depth < recursionLimit := by
    have := hx.dep
    rw [depth_under_make]
    omega
  refine code_def (s := { s with heap := h' }) hx.B F' hx.X N' hx.T hx.hA rfl hx.kf h3 h4 hdep (h5 _ _ _ _ _ _) (fun y hy => ?_) ?_ h6 h7 h8 h9
  · refine h10 y.1 ?_
    simp only [List.mem_cons, List.not_mem_nil, or_false] at hy ⊢
    rcases hy with rfl | rfl | rfl | rfl | rfl <;> simp
  · intro g L' h₁ FG F1 N1 B1 X1 T1
    have ne1 : o ≠ dx := Nat.ne_of_gt lt2
    have ne2 : ∀ p ∈ cs ++ W.all, p.1 ≠ dx := fun p hp => Nat.ne_of_lt (lt1 p hp)
    let y : FX := ⟨(x.A.under (.builtin "type.__call__" ⟨.ref G.CM :: [.ref l1, .int qv t, .ref l2, .ref l3], []⟩)).deeper (envOf qual scope L' fI cdv), x.A, x.outer, g, L', fI, qual, scope, cdv, []⟩
    have hk : y.cs.kind = .function := h8
    have ls : ∀ f < 4, y.cs.names.lookup (aname f) = some .local := fun f hf => h10 _ (by
      have : ∀ f < 4, aname f ∈ [("self" : Str), "modulus", "minus", "one", "square"] := by decide
      exact this f hf)
    refine wpAny_execs_cons (init_step (x := y) hI X1 hk (h10 _ (by simp)) (f := 0) (q := 0) (by decide) (ls 0 (by decide)) pf (v := .ref l1) rfl rfl F1 N1 ne1 ne2 rfl (by simp) (fun _ _ => rfl) rfl fun ha hs0 tk0 Fa Na => ?_)
    refine wpAny_execs_cons (init_step (x := y) hI X1 hk (h10 _ (by simp)) (f := 1) (q := 4) (by decide) (ls 1 (by decide)) pf (v := .int qv t) rfl rfl Fa Na ne1 ne2 rfl (by simp) (fun _ _ => rfl) rfl fun hb hs1 tk1 Fb Nb => ?_)
    refine wpAny_execs_cons (init_step (x := y) hI X1 hk (h10 _ (by simp)) (f := 2) (q := 8) (by decide) (ls 2 (by decide)) pf (v := .ref l2) rfl rfl Fb Nb ne1 ne2 rfl (by simp) (fun _ _ => rfl) rfl fun hc hs2 tk2 Fc Nc => ?_)
    refine wpAny_execs_cons (init_step (x := y) hI X1 hk (h10 _ (by simp)) (f := 3) (q := 12) (by decide) (ls 3 (by decide)) pf (v := .ref l3) rfl rfl Fc Nc ne1 ne2 rfl (by simp) (fun _ _ => rfl) rfl fun he hs3 tk3 Fe Ne => ?_)
    refine wpAny_execs_nil (leaveK_ Fe Ne fun Fz Nz => ⟨rfl, ?_⟩)
    have Nz1 : News x.h₀ x.L he ((dx, dictOf ([] ++ [⟨hs0, .str (aname 0) tk0, .ref l1⟩] ++ [⟨hs1, .str (aname 1) tk1, .int qv t⟩] ++ [⟨hs2, .str (aname 2) tk2, .ref l2⟩] ++ [⟨hs3, .str (aname 3) tk3, .ref l3⟩]) (0 + 1 + 1 + 1 + 1)) :: (cs ++ W.all)) := fun p hp => Nz p (.tail _ hp)
    obtain ⟨R1, L1⟩ := R.addFz Nz1 ne2
    have Nz2 : News x.h₀ x.L he ((o, instObj G.CM dx) :: (cs ++ (Wd.mk ((dx, dictOf ([] ++ [⟨hs0, .str (aname 0) tk0, .ref l1⟩] ++ [⟨hs1, .str (aname 1) tk1, .int qv t⟩] ++ [⟨hs2, .str (aname 2) tk2, .ref l2⟩] ++ [⟨hs3, .str (aname 3) tk3, .ref l3⟩]) (0 + 1 + 1 + 1 + 1)) :: W.fz) W.mu W.bl).all)) := fun p hp => by
      rcases List.mem_cons.mp hp with rfl | hp
      · exact Nz _ (.head _)
      · exact R1.N p hp
    have ne3 : ∀ p ∈ cs ++ (Wd.mk ((dx, dictOf ([] ++ [⟨hs0, .str (aname 0) tk0, .ref l1⟩] ++ [⟨hs1, .str (aname 1) tk1, .int qv t⟩] ++ [⟨hs2, .str (aname 2) tk2, .ref l2⟩] ++ [⟨hs3, .str (aname 3) tk3, .ref l3⟩]) (0 + 1 + 1 + 1 + 1)) :: W.fz) W.mu W.bl).all, p.1 ≠ o := fun p hp => by
      have lt3 : ∀ p ∈ cs ++ W.all, p.1 < o := fun p hp => Nat.lt_trans (lt1 p hp) lt2
      simp only [Wd.all, List.mem_append, List.mem_cons] at hp lt3
      rcases hp with h | h | h | rfl | h
      · exact Nat.ne_of_lt (lt3 p (.inl h))
      · exact Nat.ne_of_lt (lt3 p (.inr (.inl h)))
      · exact Nat.ne_of_lt (lt3 p (.inr (.inr (.inl h))))
      · exact Nat.ne_of_lt lt2
      · exact Nat.ne_of_lt (lt3 p (.inr (.inr (.inr h))))
    obtain ⟨R2, L2⟩ := R1.addFz Nz2 ne3
    refine post (.ref o) he _ _ Fz R2 (L1.trans L2) ?_
    exact ⟨o, dx, _, _, l1, l2, l3, t, rfl, .head _, .tail _ (.head _), rfl, i1.mono (L1.trans L2).fz, rfl, rfl, i2.mono (L1.trans L2).fz, rfl, i3.mono (L1.trans L2).fz⟩

theorem ok_mont (hf : Facts S G) (hI : InitFacts S G) {a b c e : ME} (ha : EOK S G (d + 1) cl D a) (hb : EOK S G (d + 1) cl D b) (hc : EOK S G (d + 1) cl D c) (he' : EOK S G (d + 1) cl D e) (q : Nat) : EOK S G (d + 1) cl D (.mont a b c e q) := by
  intro x hx hw E Q s m cs W loc H v H' he F R VV post
  simp only [ev] at he
  split at he
  · rename_i mm H1 hA
    split at he
    · rename_i qv H2 hB
      split at he
      · rename_i oo H3 hC
        split at he
        · rename_i sq H4 hE
          cases he
          refine wpAny_Call_NameR (nameX_K F hx.X (topRead_of hx.T) hf.cm.1 ?_ hx.kf hw.2.2.2.2 (by decide))
          refine callWith_K hx.X hf.cm.2 (spliced_more (ha x hx hw.1 E _ s m cs W loc H _ _ hA F R VV ?_) (star_dE a _ _)) (star_dE a _ _) (plain_dEs (D.pf (q + 1)) _ (.cons b (.cons c (.cons e .nil))))
          intro v1 h1 t1 W1 F1 R1 L1 V1
          refine spliced_more (hb x hx hw.2.1 E _ { s with heap := h1, toks := t1 } m cs W1 loc H1 _ _ hB F1 R1 (VV.mono L1) ?_) (star_dE b _ _)
          intro v2 h2 t2 W2 F2 R2 L2 V2
          refine spliced_more (hc x hx hw.2.2.1 E _ { s with heap := h2, toks := t2 } m cs W2 loc H2 _ _ hC F2 R2 (VV.mono (L1.trans L2)) ?_) (star_dE c _ _)
          intro v3 h3 t3 W3 F3 R3 L3 V3
          refine spliced_more (he' x hx hw.2.2.2.1 E _ { s with heap := h3, toks := t3 } m cs W3 loc H3 _ _ hE F3 R3 (VV.mono (L1.trans (L2.trans L3))) ?_) (star_dE e _ _)
          intro v4 h4 t4 W4 F4 R4 L4 V4
          refine spliced_none ⟨hx.X.keeps F4.keep, ?_⟩
          obtain ⟨l1, rfl, i1⟩ := V1.mono (L2.trans (L3.trans L4))
          obtain ⟨u, rfl⟩ := V2
          obtain ⟨l2, rfl, i2⟩ := V3.mono L4
          obtain ⟨l3, rfl, i3⟩ := V4
          refine mont_call (s := { s with heap := h4, toks := t4 }) hI hx F4 R4 i1 i2 i3 ?_
          intro vr h' tk' W' F' R' L' V'
          exact post vr h' tk' W' F' R' ((L1.trans (L2.trans (L3.trans L4))).trans L') V'
        · cases he
      · cases he
    · cases he
  · cases he
end
end Mine

namespace Mine

section
variable {S : Glo} {G : Fix} {d : Nat} {cl : Cl} {D : DC}

mutual
theorem ev_all (hD : D.good) (hf : Facts S G) (hm : MontFacts S G) (hI : InitFacts S G) (hc : CallOK S G (d + 1) cl) (hgl : ∀ g vs H r, cl g vs H = some r → g < gnames.length) :
    ∀ e : ME, EOK S G (d + 1) cl D e ∧ TOK S G (d + 1) cl D e
  | .loc i q => ⟨ok_loc hD i q, tok_plain (ok_loc hD i q) fun _ _ => rfl⟩
  | .glob g q => ⟨ok_glob hf g q, tok_plain (ok_glob hf g q) fun _ _ => rfl⟩
  | .int i q => ⟨ok_int i q, tok_plain (ok_int i q) fun _ _ => rfl⟩
  | .bool b q => ⟨ok_bool b q, tok_plain (ok_bool b q) fun _ _ => rfl⟩
  | .bin o a b q =>
    have h := ok_bin (ev_all hD hf hm hI hc hgl a).1 (ev_all hD hf hm hI hc hgl b).1 o q
    ⟨h, tok_plain h fun _ _ => rfl⟩
  | .cat fr a b q =>
    have h := ok_cat (ev_all hD hf hm hI hc hgl a).1 (ev_all hD hf hm hI hc hgl b).1 fr q
    ⟨h, tok_plain h fun _ _ => rfl⟩
  | .rep fr a b q =>
    have h := ok_rep (ev_all hD hf hm hI hc hgl a).1 (ev_all hD hf hm hI hc hgl b).1 fr q
    ⟨h, tok_plain h fun _ _ => rfl⟩
  | .neg a q =>
    have h := ok_neg (ev_all hD hf hm hI hc hgl a).1 q
    ⟨h, tok_plain h fun _ _ => rfl⟩
  | .not a q => ⟨ok_not (ev_all hD hf hm hI hc hgl a).1 q, tok_not (ev_all hD hf hm hI hc hgl a).2 q⟩
  | .cmp o a b q => ⟨ok_cmp (ev_all hD hf hm hI hc hgl a).1 (ev_all hD hf hm hI hc hgl b).1 o q, tok_cmp (ev_all hD hf hm hI hc hgl a).1 (ev_all hD hf hm hI hc hgl b).1 o q⟩
  | .cmp2 o1 o2 a b c q => ⟨ok_cmp2 (ev_all hD hf hm hI hc hgl a).1 (ev_all hD hf hm hI hc hgl b).1 (ev_all hD hf hm hI hc hgl c).1 o1 o2 q, tok_cmp2 (ev_all hD hf hm hI hc hgl a).1 (ev_all hD hf hm hI hc hgl b).1 (ev_all hD hf hm hI hc hgl c).1 o1 o2 q⟩
  | .logic isAnd e es q => ⟨ok_logic isAnd (ev_all hD hf hm hI hc hgl e).1 ((evs_all hD hf hm hI hc hgl es).2 isAnd).1 q, tok_logic isAnd (ev_all hD hf hm hI hc hgl e).2 ((evs_all hD hf hm hI hc hgl es).2 isAnd).2 q⟩
  | .ife t a b q => ⟨ok_ife (ev_all hD hf hm hI hc hgl t).2 (ev_all hD hf hm hI hc hgl a).1 (ev_all hD hf hm hI hc hgl b).1 q, tok_ife (ev_all hD hf hm hI hc hgl t).2 (ev_all hD hf hm hI hc hgl a).2 (ev_all hD hf hm hI hc hgl b).2 q⟩
  | .len e q =>
    have h := ok_len hf (ev_all hD hf hm hI hc hgl e).1 q
    ⟨h, tok_plain h fun _ _ => rfl⟩
  | .abs e q =>
    have h := ok_abs hf (ev_all hD hf hm hI hc hgl e).1 q
    ⟨h, tok_plain h fun _ _ => rfl⟩
  | .call g e es q =>
    have h := ok_call hf hc (ev_all hD hf hm hI hc hgl e).1 (evs_all hD hf hm hI hc hgl es).1 g q
    ⟨h, tok_plain h fun _ _ => rfl⟩
  | .callv i e es q =>
    have h := ok_callv hD hf hc (ev_all hD hf hm hI hc hgl e).1 (evs_all hD hf hm hI hc hgl es).1 i q hgl
    ⟨h, tok_plain h fun _ _ => rfl⟩
  | .mont a b c e q =>
    have h := ok_mont hf hI (ev_all hD hf hm hI hc hgl a).1 (ev_all hD hf hm hI hc hgl b).1 (ev_all hD hf hm hI hc hgl c).1 (ev_all hD hf hm hI hc hgl e).1 q
    ⟨h, tok_plain h fun _ _ => rfl⟩
  | .item e ix q =>
    have h := ok_item (ev_all hD hf hm hI hc hgl e).1 (ev_all hD hf hm hI hc hgl ix).1 q
    ⟨h, tok_plain h fun _ _ => rfl⟩
  | .slTo e hi q =>
    have h := ok_slTo (ev_all hD hf hm hI hc hgl e).1 (ev_all hD hf hm hI hc hgl hi).1 q
    ⟨h, tok_plain h fun _ _ => rfl⟩
  | .slFr e lo q =>
    have h := ok_slFr (ev_all hD hf hm hI hc hgl e).1 (ev_all hD hf hm hI hc hgl lo).1 q
    ⟨h, tok_plain h fun _ _ => rfl⟩
  | .nil fr q => ⟨ok_nil fr q, tok_plain (ok_nil fr q) fun _ _ => rfl⟩
  | .one e q =>
    have h := ok_one (ev_all hD hf hm hI hc hgl e).1 q
    ⟨h, tok_plain h fun _ _ => rfl⟩
  | .mkbox a b c q =>
    have h := ok_mkbox (ev_all hD hf hm hI hc hgl a).1 (ev_all hD hf hm hI hc hgl b).1 (ev_all hD hf hm hI hc hgl c).1 q
    ⟨h, tok_plain h fun _ _ => rfl⟩
  | .attr e f q =>
    have h := ok_attr hm (ev_all hD hf hm hI hc hgl e).1 f q
    ⟨h, tok_plain h fun _ _ => rfl⟩
  | .comp e q =>
    have h := ok_comp hf (ev_all hD hf hm hI hc hgl e).1 q
    ⟨h, tok_plain h fun _ _ => rfl⟩
theorem evs_all (hD : D.good) (hf : Facts S G) (hm : MontFacts S G) (hI : InitFacts S G) (hc : CallOK S G (d + 1) cl) (hgl : ∀ g vs H r, cl g vs H = some r → g < gnames.length) :
    ∀ es : MEs, ESOK S G (d + 1) cl D es ∧ ∀ isAnd, LOK S G (d + 1) cl D isAnd es ∧ TsOK S G (d + 1) cl D isAnd es
  | .nil => ⟨eok_nil, fun b => ⟨lok_nil b, tsok_nil b⟩⟩
  | .cons e r => ⟨eok_cons (ev_all hD hf hm hI hc hgl e).1 (evs_all hD hf hm hI hc hgl r).1, fun b => ⟨lok_cons b (ev_all hD hf hm hI hc hgl e).1 ((evs_all hD hf hm hI hc hgl r).2 b).1, tsok_cons b (ev_all hD hf hm hI hc hgl e).2 ((evs_all hD hf hm hI hc hgl r).2 b).2⟩⟩
end

/-! stores -/
theorem updF_of {c : Addr} {o : Obj} {post : Led} (h2 : ∀ p ∈ post, p.1 ≠ c) : ∀ pre : Led, (∀ p ∈ pre, p.1 ≠ c) → UpdF c o (pre ++ (c, o) :: post) (fun o' => pre ++ (c, o') :: post)
  | [], _ => UpdF.head h2
  | p :: r, h => UpdF.tail (h p (.head _)) (updF_of h2 r fun q hq => h q (.tail _ hq))

theorem nodup_split {pre post : Led} {c : Addr} {o : Obj} (nd : ((pre ++ (c, o) :: post).map (·.1)).Nodup) : (∀ p ∈ pre, p.1 ≠ c) ∧ ∀ p ∈ post, p.1 ≠ c := by
  rw [List.map_append, List.map_cons] at nd
  have h := List.nodup_append.mp nd
  refine ⟨fun p hp e => ?_, fun p hp e => ?_⟩
  · exact h.2.2 p.1 (List.mem_map_of_mem hp) c (.head _) e
  · have := (List.nodup_cons.mp h.2.1).1
    exact this (List.mem_map.mpr ⟨p, hp, e⟩)

/-- a store to a name of a frame around: as to a cell of the frame's own -/
theorem storeX_Fr {M : Model} {A : Around} {E : Value → Shared → Prop} {s : Shared} {h₀ : Heap} {L a : Addr} {m : Str → Option Value} {cn : Str} {cs : Scope} {ccd : Value} {cl : List (Str × Addr)} {x : Str} {v : Value} {Q : Unit → Shared → Prop} {news : List (Addr × Obj)} {g : Obj → List (Addr × Obj)} {c : Addr} {o : Obj} {v₀ : Option Value}
    (F : Fr h₀ L s.heap m) (N : News h₀ L s.heap news) (hc : cl.lookup x = some c) (U : UpdF c o news g) (hd : o.data = .cell v₀)
    (h : ∀ h' o', Fr h₀ L h' m → News h₀ L h' (g o') → o'.data = .cell (some v) → Q () { s with heap := h' })
    (hk : cs.kind = .function) (hx : (envX cn cs L a ccd cl).kindOf x = some .free) : wpAny M A (storeName (envX cn cs L a ccd cl) x v) Q E s := by
  obtain ⟨own, rest, rfl, hg, h1, h2⟩ := U.split
  have hmem := N (c, o) (List.mem_append_right _ (.head _))
  unfold storeName
  simp only [hx, hk]
  refine wpAny_bind (wpAny_cellOf hc (wpAny_cellSet ⟨o, hmem.1, hd⟩ fun h' hv hs => ?_))
  obtain ⟨o', ho', hd'⟩ := hv
  refine h h' o' ⟨F.ns.sameBut hs (Ne.symm hmem.2.1), fun b ob e => (hs.2 b (fun q => ?_)).trans (F.keep b ob e), F.above⟩ (hg o' ▸ N.setAt h1 h2 hs ho') hd'
  rw [q, hmem.2.2] at e; cases e

theorem store_ok (hD : D.good) {x : FX} (hx : x.OK S G d) {i : Nat} (hi : i < D.names.length) {E : Value → Shared → Prop} {Q : Unit → Shared → Prop} {s : Shared} {m : Str → Option Value} {cs : Led} {W : Wd} {loc : List V} {H : Hp} {v : V} {vr : Value}
    (F : Fr x.h₀ x.L s.heap m) (R : SR G x.h₀ x.L s.heap cs W H) (VV : VarsR G x D m cs W loc) (hv : VR G W v vr)
    (h : ∀ m' cs' h' tk', Fr x.h₀ x.L h' m' → SR G x.h₀ x.L h' cs' W H → VarsR G x D m' cs' W (loc.set i v) → CsLe cs cs' → Q () { s with heap := h', toks := tk' }) :
    wpAny (model S.prog S.w) x.A (storeName x.env (D.nm i) vr) Q E s := by
  have setLen : (loc.set i v).length = D.names.length := by rw [List.length_set]; exact VV.len
  have getSet : ∀ (j : Nat) (v' : V), (loc.set i v)[j]? = some v' → (j = i ∧ v' = v) ∨ (j ≠ i ∧ loc[j]? = some v') := by
    intro j v' e
    by_cases q : j = i
    · subst q
      have hl : j < loc.length := by rw [VV.len]; exact hi
      rw [List.getElem?_set_self hl] at e
      exact .inl ⟨rfl, (Option.some.inj e).symm⟩
    · rw [List.getElem?_set_ne (Ne.symm q)] at e
      exact .inr ⟨q, e⟩
  have jlt : ∀ (j : Nat) (v' : V), loc[j]? = some v' → j < D.names.length := fun j v' e => by
    rw [← VV.len]
    by_cases q : j < loc.length
    · exact q
    · rw [List.getElem?_eq_none (by omega)] at e; cases e
  rcases VV.kinds i hi with hk | ⟨hk, c, o, v₀, hc, hm, hd⟩
  · refine storeX_L F R.N (fun h' F' N' => ?_) hx.kf hk
    refine h _ cs h' _ F' ⟨N', R.nd, R.ms, R.bx, R.cells⟩ ⟨setLen, VV.kinds, fun j v' e hne => ?_⟩ (.refl cs)
    rcases getSet j v' e with ⟨rfl, rfl⟩ | ⟨hji, e'⟩
    · exact ⟨vr, .inl ⟨hk, by simp⟩, hv⟩
    · obtain ⟨vr', ha, hr⟩ := VV.vars j v' e' hne
      refine ⟨vr', ?_, hr⟩
      rcases ha with ⟨h1, h2⟩ | ha
      · refine .inl ⟨h1, ?_⟩
        show (if D.nm j = D.nm i then some vr else m (D.nm j)) = some vr'
        rw [if_neg (fun q => hji (nm_inj hD (jlt j v' e') hi q))]
        exact h2
      · exact .inr ha
  · obtain ⟨pre, post, rfl⟩ := List.append_of_mem hm
    have nd := R.nd
    rw [List.append_assoc, List.cons_append] at nd
    obtain ⟨n1, n2⟩ := nodup_split nd
    have U : UpdF c o ((pre ++ (c, o) :: post) ++ W.all) (fun o' => (pre ++ (c, o') :: post) ++ W.all) := by
      have := updF_of (o := o) n2 pre n1
      simpa [List.append_assoc] using this
    suffices hh : ∀ h' o', Fr x.h₀ x.L h' m → News x.h₀ x.L h' ((pre ++ (c, o') :: post) ++ W.all) → o'.data = .cell (some vr) → Q () { s with heap := h' } from
      hk.elim (fun hk => storeX_C F R.N hc U hd hh hx.kf hk) (fun hk => storeX_Fr F R.N hc U hd hh hx.kf hk)
    intro h' o' F' N' hd'
    have hcell : CellsOnly (pre ++ (c, o') :: post) := by
      intro p hp
      rcases List.mem_append.mp hp with q | q
      · exact R.cells p (List.mem_append_left _ q)
      · rcases List.mem_cons.mp q with rfl | q
        · exact noDat_cell hd'
        · exact R.cells p (List.mem_append_right _ (.tail _ q))
    have memKeep : ∀ c' o₁, c' ≠ c → (c', o₁) ∈ pre ++ (c, o) :: post → (c', o₁) ∈ pre ++ (c, o') :: post := by
      intro c' o₁ hne hp
      rcases List.mem_append.mp hp with q | q
      · exact List.mem_append_left _ q
      · rcases List.mem_cons.mp q with q | q
        · cases q; exact absurd rfl hne
        · exact List.mem_append_right _ (.tail _ q)
    refine h m _ h' _ F' ⟨N', ?_, R.ms, R.bx, hcell⟩ ⟨setLen, fun j hj => ?_, fun j v' e hne => ?_⟩ ⟨by simp, fun p hp hn => ?_⟩
    · have := R.nd
      simpa using this
    · rcases VV.kinds j hj with q | ⟨q, c', o₁, v₁, e1, e2, e3⟩
      · exact .inl q
      · by_cases hcc : c' = c
        · subst hcc; exact .inr ⟨q, c', o', _, e1, by simp, hd'⟩
        · exact .inr ⟨q, c', o₁, v₁, e1, memKeep c' o₁ hcc e2, e3⟩
    · rcases getSet j v' e with ⟨rfl, rfl⟩ | ⟨hji, e'⟩
      · exact ⟨vr, .inr ⟨hk, c, o', hc, by simp, hd'⟩, hv⟩
      · obtain ⟨vr', ha, hr⟩ := VV.vars j v' e' hne
        refine ⟨vr', ?_, hr⟩
        rcases ha with ha | ⟨h1, c', o₁, h2, h3, h4⟩
        · exact .inl ha
        · have hcc : c' ≠ c := fun q => hji (nm_inj hD (jlt j v' e') hi (hx.inj _ _ c (q ▸ h2) hc))
          exact .inr ⟨h1, c', o₁, h2, memKeep c' o₁ hcc h3, h4⟩
    · rcases List.mem_append.mp hp with q | q
      · exact List.mem_append_left _ q
      · rcases List.mem_cons.mp q with rfl | q
        · exact absurd hd (hn _)
        · exact List.mem_append_right _ (.tail _ q)
end
end Mine

namespace Mine

/-- the statement of two or three names at once: which road it takes -/
noncomputable def Swap2 (cs : Scope) (D : DC) (i j : Nat) (a b : ME) (q : Nat) : Prop :=
  (∀ env : Env, env.scope = cs → swappedStores [.Tuple [.Name (D.nm i) (D.pf q), .Name (D.nm j) (D.pf (q + 1))] 0 (D.pf (q + 2))] (.Tuple [dE D a, dE D b] 0 (D.pf (q + 3))) env = pure (some [D.nm i, D.nm j])) ∨
  (∀ env : Env, env.scope = cs → swappedStores [.Tuple [.Name (D.nm i) (D.pf q), .Name (D.nm j) (D.pf (q + 1))] 0 (D.pf (q + 2))] (.Tuple [dE D a, dE D b] 0 (D.pf (q + 3))) env = pure none)
noncomputable def Swap3 (cs : Scope) (D : DC) (i j k : Nat) (a b c : ME) (q : Nat) : Prop :=
  ∀ env : Env, env.scope = cs → swappedStores [.Tuple [.Name (D.nm i) (D.pf q), .Name (D.nm j) (D.pf (q + 1)), .Name (D.nm k) (D.pf (q + 2))] 0 (D.pf (q + 3))] (.Tuple [dE D a, dE D b, dE D c] 0 (D.pf (q + 4))) env = pure (some [D.nm i, D.nm j, D.nm k])

noncomputable def isComp : ME → Bool
  | .comp _ _ => true
  | _ => false
theorem not_comp {e : ME} (h : isComp e = false) : ∀ a q, e ≠ .comp a q := by
  intro a q he
  subst he
  cases h

mutual
noncomputable def wfS (cs : Scope) (D : DC) : MS → Prop
  | .asg i e _ => i < D.names.length ∧ wfE cs D.names.length e ∧ isComp e = false
  | .asg2 i j a b q => i < D.names.length ∧ j < D.names.length ∧ i ≠ j ∧ wfE cs D.names.length a ∧ wfE cs D.names.length b ∧ Swap2 cs D i j a b q
  | .asg3 i j k a b c q => i < D.names.length ∧ j < D.names.length ∧ k < D.names.length ∧ wfE cs D.names.length a ∧ wfE cs D.names.length b ∧ wfE cs D.names.length c ∧ Swap3 cs D i j k a b c q
  | .asgI b ix e _ => b < D.names.length ∧ wfE cs D.names.length ix ∧ wfE cs D.names.length e ∧ isComp e = false
  | .aug i _ e _ => i < D.names.length ∧ cs.names.lookup (D.nm i) = some .local ∧ wfE cs D.names.length e
  | .ifs t b o _ => wfE cs D.names.length t ∧ wfSs cs D b ∧ wfSs cs D o
  | .forR i e es b _ => i < D.names.length ∧ cs.names.lookup (D.nm i) = some .local ∧ glo cs "range" ∧ wfE cs D.names.length e ∧ wfEs cs D.names.length es ∧ wfSs cs D b
  | .forL i e b _ => i < D.names.length ∧ cs.names.lookup (D.nm i) = some .local ∧ wfE cs D.names.length e ∧ wfSs cs D b
  | .forV i e b _ => i < D.names.length ∧ cs.names.lookup (D.nm i) = some .local ∧ glo cs "reversed" ∧ wfE cs D.names.length e ∧ wfSs cs D b
  | .whl t b _ => wfE cs D.names.length t ∧ wfSs cs D b
  | .ret e _ => wfE cs D.names.length e
  | .raise c _ _ => glo cs (cname c) ∧ ∀ y ∈ cs.names, y.2 ≠ .cell ∧ y.2 ≠ .free
  | .app i e q => i < D.names.length ∧ wfE cs D.names.length e ∧ ((D.pf (q + 1)).endLine == (D.pf (q + 2)).line) = true
  | .exp e _ => wfE cs D.names.length e ∧ isComp e = false
noncomputable def wfSs (cs : Scope) (D : DC) : MSs → Prop
  | .nil => True
  | .cons s r => wfS cs D s ∧ wfSs cs D r
end

noncomputable def SPost (G : Fix) (x : FX) (D : DC) (cs : Led) (W : Wd) (s : Shared) (Q : Flow → Shared → Prop) (E : Value → Shared → Prop) : Fl → List V → Hp → Prop
  | .next, loc', H' => ∀ m' cs' h' tk' W', Fr x.h₀ x.L h' m' → SR G x.h₀ x.L h' cs' W' H' → WLe W W' → CsLe cs cs' → VarsR G x D m' cs' W' loc' → Q .next { s with heap := h', toks := tk' }
  | .ret v, _, H' => ∀ vr m' cs' h' tk' W', Fr x.h₀ x.L h' m' → SR G x.h₀ x.L h' cs' W' H' → WLe W W' → CsLe cs cs' → VR G W' v vr → Q (.ret vr) { s with heap := h', toks := tk' }
  | .exc, _, H' => ∀ e g h' tk' m' cs' W' vs, Fr x.h₀ x.L g m' → SR G x.h₀ x.L g cs' W' H' → WLe W W' → CsLe cs cs' → Heap.MadeExcOf g h' e (.ref G.CX) vs → E (.ref e) { s with heap := h', toks := tk' }

noncomputable def SOK (S : Glo) (G : Fix) (d : Nat) (cl : Cl) (D : DC) (st : MS) : Prop :=
  ∀ (x : FX), x.OK S G d → wfS x.cs D st → ∀ (E : Value → Shared → Prop) (Q : Flow → Shared → Prop) (s : Shared) (m : Str → Option Value) (cs : Led) (W : Wd) (loc : List V) (H : Hp) (fl : Fl) (loc' : List V) (H' : Hp),
    ex cl st loc H = some (fl, loc', H') → Fr x.h₀ x.L s.heap m → SR G x.h₀ x.L s.heap cs W H → VarsR G x D m cs W loc →
    SPost G x D cs W s Q E fl loc' H' → wpAny (model S.prog S.w) x.A (exec (dS D st) x.env) Q E s
noncomputable def SsOK (S : Glo) (G : Fix) (d : Nat) (cl : Cl) (D : DC) (st : MSs) : Prop :=
  ∀ (x : FX), x.OK S G d → wfSs x.cs D st → ∀ (E : Value → Shared → Prop) (Q : Flow → Shared → Prop) (s : Shared) (m : Str → Option Value) (cs : Led) (W : Wd) (loc : List V) (H : Hp) (fl : Fl) (loc' : List V) (H' : Hp),
    exs cl st loc H = some (fl, loc', H') → Fr x.h₀ x.L s.heap m → SR G x.h₀ x.L s.heap cs W H → VarsR G x D m cs W loc →
    SPost G x D cs W s Q E fl loc' H' → wpAny (model S.prog S.w) x.A (execs (dSs D st) x.env) Q E s

section
variable {S : Glo} {G : Fix} {d : Nat} {cl : Cl} {D : DC}

theorem SPost.weaken {x : FX} {cs cs1 : Led} {W W1 : Wd} {s : Shared} {h1 : Heap} {t1 : Nat} {Q : Flow → Shared → Prop} {E : Value → Shared → Prop} {fl : Fl} {loc' : List V} {H' : Hp} (h : SPost G x D cs W s Q E fl loc' H') (hW : WLe W W1) (hC : CsLe cs cs1) :
    SPost G x D cs1 W1 { s with heap := h1, toks := t1 } Q E fl loc' H' := by
  cases fl with
  | next => exact fun m' cs' h' tk' W' a b c c' d => h m' cs' h' tk' W' a b (hW.trans c) (hC.trans c') d
  | ret v => exact fun vr m' cs' h' tk' W' a b c c' d => h vr m' cs' h' tk' W' a b (hW.trans c) (hC.trans c') d
  | exc => exact fun e g h' tk' m' cs' W' vs a b c c' d => h e g h' tk' m' cs' W' vs a b (hW.trans c) (hC.trans c') d

theorem ssok_nil : SsOK S G d cl D .nil := by
  intro x hx hw E Q s m cs W loc H fl loc' H' he F R VV post
  simp only [exs] at he
  cases he
  exact wpAny_execs_nil (post m cs s.heap s.toks W F R (.refl W) (.refl cs) VV)

theorem ssok_cons {st : MS} {r : MSs} (h : SOK S G d cl D st) (hs : SsOK S G d cl D r) : SsOK S G d cl D (.cons st r) := by
  intro x hx hw E Q s m cs W loc H fl loc' H' he F R VV post
  simp only [exs] at he
  refine wpAny_execs_cons ?_
  split at he
  · rename_i loc1 H1 h1
    refine h x hx hw.1 E _ s m cs W loc H _ _ _ h1 F R VV ?_
    intro m1 cs1 hh tk W1 F1 R1 L1 C1 V1
    exact hs x hx hw.2 E Q { s with heap := hh, toks := tk } m1 cs1 W1 loc1 H1 fl loc' H' he F1 R1 V1 (post.weaken L1 C1)
  · rename_i v loc1 H1 h1
    cases he
    refine h x hx hw.1 E _ s m cs W loc H _ _ _ h1 F R VV ?_
    intro vr m1 cs1 hh tk W1 F1 R1 L1 C1 V1
    exact post vr m1 cs1 hh tk W1 F1 R1 L1 C1 V1
  · rename_i loc1 H1 h1
    cases he
    refine h x hx hw.1 E _ s m cs W loc H _ _ _ h1 F R VV ?_
    intro e g hh tk m1 cs1 W1 vs F1 R1 L1 C1 V1
    exact post e g hh tk m1 cs1 W1 vs F1 R1 L1 C1 V1
  · cases he

theorem sok_asg (hD : D.good) {e : ME} (hE : EOK S G d cl D e) (i q : Nat) : SOK S G d cl D (.asg i e q) := by
  intro x hx hw E Q s m cs W loc H fl loc' H' he F R VV post
  simp only [ex] at he
  split at he
  · rename_i v H1 hA
    cases he
    refine wpAny_Assign_Name (hE x hx hw.2.1 E _ s m cs W loc H _ _ hA F R VV ?_) (swaps_dE e _ _ _ (not_comp hw.2.2))
    intro vr h1 t1 W1 F1 R1 L1 V1
    refine store_ok (s := { s with heap := h1, toks := t1 }) hD hx hw.1 F1 R1 (VV.mono L1) V1 ?_
    intro m' cs' h' tk' F' R' VV' C'
    exact post m' cs' h' tk' W1 F' R' L1 C' VV'
  · cases he

theorem sok_ret {e : ME} (hE : EOK S G d cl D e) (q : Nat) : SOK S G d cl D (.ret e q) := by
  intro x hx hw E Q s m cs W loc H fl loc' H' he F R VV post
  simp only [ex] at he
  split at he
  · rename_i v H1 hA
    cases he
    refine wpAny_Return_some (hE x hx hw E _ s m cs W _ H _ _ hA F R VV ?_)
    intro vr h1 t1 W1 F1 R1 L1 V1
    exact post vr m cs h1 t1 W1 F1 R1 L1 (.refl cs) V1
  · cases he

theorem sok_ifs {t : ME} {b o : MSs} (hT : TOK S G d cl D t) (hb : SsOK S G d cl D b) (ho : SsOK S G d cl D o) (q : Nat) : SOK S G d cl D (.ifs t b o q) := by
  intro x hx hw E Q s m cs W loc H fl loc' H' he F R VV post
  simp only [ex] at he
  split at he
  · rename_i c H1 hA
    refine wpAny_If (hT x hx hw.1 E _ s m cs W loc H _ _ hA F R VV ?_)
    intro h1 t1 W1 F1 R1 L1
    cases c with
    | true => exact hb x hx hw.2.1 E Q { s with heap := h1, toks := t1 } m cs W1 loc H1 fl loc' H' (by simpa using he) F1 R1 (VV.mono L1) (post.weaken L1 (.refl cs))
    | false => exact ho x hx hw.2.2 E Q { s with heap := h1, toks := t1 } m cs W1 loc H1 fl loc' H' (by simpa using he) F1 R1 (VV.mono L1) (post.weaken L1 (.refl cs))
  · cases he

theorem iload_ok (hD : D.good) {x : FX} (hx : x.OK S G d) {i : Nat} (hk : x.cs.names.lookup (D.nm i) = some .local) {E Q : Value → Shared → Prop} {s : Shared} {m : Str → Option Value} {cs : Led} {vr : Value}
    (F : Fr x.h₀ x.L s.heap m) (hv : VarAt x m cs (D.nm i) vr) (h : Q vr s) : wpAny (model S.prog S.w) x.A (loadName x.env (D.nm i)) Q E s := by
  rcases hv with ⟨h1, h2⟩ | ⟨h1, _⟩
  · exact wpAny_loadName_local hx.kf h1 F.ns h2 h
  · rcases h1 with h1 | h1 <;> (rw [hk] at h1; cases h1)

theorem sok_aug (hD : D.good) {e : ME} (hE : EOK S G d cl D e) (i : Nat) (o : Bop) (q : Nat) : SOK S G d cl D (.aug i o e q) := by
  intro x hx hw E Q s m cs W loc H fl loc' H' he F R VV post
  simp only [ex] at he
  split at he
  · rename_i a ha
    split at he
    · rename_i b H1 hA
      split at he
      · rename_i z hz
        cases he
        obtain ⟨vr, hva, hr⟩ := VV.vars i _ ha (fun e => nomatch e)
        obtain ⟨ta, rfl⟩ := hr
        refine wpAny_AugAssign_Name (iload_ok hD hx hw.2.1 F hva (hE x hx hw.2.2 E _ s m cs W loc H _ _ hA F R VV ?_))
        intro v1 h1 t1 W1 F1 R1 L1 V1
        obtain ⟨tb, rfl⟩ := V1
        have K : ∀ t', wpAny (model S.prog S.w) x.A (storeName x.env (D.nm i) (.int z t')) (fun _ => Q .next) E { s with heap := h1, toks := t1 + 1 } := fun t' => by
          refine store_ok (s := { s with heap := h1, toks := t1 + 1 }) hD hx hw.1 F1 R1 (VV.mono L1) (v := .int z) ⟨t', rfl⟩ ?_
          intro m' cs' h' tk' F' R' VV' C'
          exact post m' cs' h' tk' W1 F' R' L1 C' VV'
        exact @iarith_ok S.prog S.w x.A E { s with heap := h1, toks := t1 } a b z ta tb _ o hz K
      · cases he
    · cases he
  · cases he

theorem sok_exp {e : ME} (hE : EOK S G d cl D e) (q : Nat) : SOK S G d cl D (.exp e q) := by
  intro x hx hw E Q s m cs W loc H fl loc' H' he F R VV post
  simp only [ex] at he
  split at he
  · rename_i H1 hA
    cases he
    have hi : interactive x.env = false := by
      unfold interactive
      show (x.cs.kind == .module && _) = false
      rw [hx.kf]; rfl
    refine wpAny_Expr (hE x hx hw.1 E _ s m cs W _ H _ _ hA F R VV ?_) hi (swaps_dE e none _ _ (not_comp hw.2))
    intro vr h1 t1 W1 F1 R1 L1 V1
    cases V1
    exact post m cs h1 t1 W1 F1 R1 L1 (.refl cs) (VV.mono L1)
  · cases he

theorem sok_asg2 (hD : D.good) {a b : ME} (ha : EOK S G d cl D a) (hb : EOK S G d cl D b) (i j q : Nat) : SOK S G d cl D (.asg2 i j a b q) := by
  intro x hx hw E Q s m cs W loc H fl loc' H' he F R VV post
  obtain ⟨w1, w2, w3, w4, w5, w6⟩ := hw
  simp only [ex] at he
  split at he
  · rename_i va H1 hA
    split at he
    · rename_i vb H2 hB
      cases he
      have step : ∀ (Q1 : Value → Shared → Prop), (∀ T v1 v2 h2 t2 W2, Fr x.h₀ x.L h2 m → SR G x.h₀ x.L h2 cs W2 H' → WLe W W2 → VR G W2 va v1 → VR G W2 vb v2 → IsTup h2 T #[v1, v2] → Q1 (.ref T) { s with heap := h2, toks := t2 }) →
          wpAny (model S.prog S.w) x.A (eval (.Tuple [dE D a, dE D b] 0 (D.pf (q + 3))) x.env) Q1 E s := by
        intro Q1 k
        refine Tuple_ (spliced_more (ha x hx w4 E _ s m cs W loc H _ _ hA F R VV ?_) (star_dE a _ _))
        intro v1 h1 t1 W1 F1 R1 L1 V1
        refine spliced_more (hb x hx w5 E _ { s with heap := h1, toks := t1 } m cs W1 loc H1 _ _ hB F1 R1 (VV.mono L1) ?_) (star_dE b _ _)
        intro v2 h2 t2 W2 F2 R2 L2 V2
        refine spliced_none (newTuple_N (s := { s with heap := h2, toks := t2 }) F2 R2.N (fun h3 F3 N3 => ?_) (by simp [sizeLine_eq]))
        exact k _ v1 v2 h3 t2 W2 F3 ⟨fun p hp => N3 p (.tail _ hp), R2.nd, R2.ms, R2.bx, R2.cells⟩ (L1.trans L2) (V1.mono L2) V2 ⟨_, (N3 _ (.head _)).1, rfl, _, rfl⟩
      rcases w6 with w6 | w6
      · refine Assign_Tuple_swapped (step _ ?_) rfl (w6 x.env rfl)
        intro T v1 v2 h2 t2 W2 F2 R2 L2 V1 V2 ht
        refine unpackItemsN_ (s := { s with heap := h2, toks := t2 }) F2 R2.N ht hx.hh rfl (fun h3 F3 N3 => ?_)
        have R3 : SR G x.h₀ x.L h3 cs W2 H' := ⟨N3, R2.nd, R2.ms, R2.bx, R2.cells⟩
        refine assignInOrder_cons (bindName_ (store_ok (s := { s with heap := h3, toks := t2 }) hD hx w2 F3 R3 (VV.mono L2) V2 ?_))
        intro m4 cs4 h4 t4 F4 R4 VV4 C4
        refine assignInOrder_cons (bindName_ (store_ok (s := { s with heap := h4, toks := t4 }) hD hx w1 F4 R4 VV4 V1 ?_))
        intro m5 cs5 h5 t5 F5 R5 VV5 C5
        exact assignInOrder_nil (post m5 cs5 h5 t5 W2 F5 R5 L2 (C4.trans C5) VV5)
      · refine Assign_Tuple (step _ ?_) rfl (w6 x.env rfl)
        intro T v1 v2 h2 t2 W2 F2 R2 L2 V1 V2 ht
        refine unpackN_ (s := { s with heap := h2, toks := t2 }) F2 R2.N ht hx.hh rfl rfl (fun h3 F3 N3 => ?_)
        have R3 : SR G x.h₀ x.L h3 cs W2 H' := ⟨N3, R2.nd, R2.ms, R2.bx, R2.cells⟩
        refine assignInOrder_cons (assign_Name (store_ok (s := { s with heap := h3, toks := t2 }) hD hx w1 F3 R3 (VV.mono L2) V1 ?_))
        intro m4 cs4 h4 t4 F4 R4 VV4 C4
        refine assignInOrder_cons (assign_Name (store_ok (s := { s with heap := h4, toks := t4 }) hD hx w2 F4 R4 VV4 V2 ?_))
        intro m5 cs5 h5 t5 F5 R5 VV5 C5
        rw [List.set_comm _ _ w3] at VV5
        exact assignInOrder_nil (post m5 cs5 h5 t5 W2 F5 R5 L2 (C4.trans C5) VV5)
    · cases he
  · cases he

theorem sok_asg3 (hD : D.good) {a b c : ME} (ha : EOK S G d cl D a) (hb : EOK S G d cl D b) (hc : EOK S G d cl D c) (i j k q : Nat) : SOK S G d cl D (.asg3 i j k a b c q) := by
  intro x hx hw E Q s m cs W loc H fl loc' H' he F R VV post
  obtain ⟨w1, w2, w3, w4, w5, w6, w7⟩ := hw
  simp only [ex] at he
  split at he
  · rename_i va H1 hA
    split at he
    · rename_i vb H2 hB
      split at he
      · rename_i vc H3 hC
        cases he
        refine Assign_Tuple_swapped (Tuple_ (spliced_more (ha x hx w4 E _ s m cs W loc H _ _ hA F R VV ?_) (star_dE a _ _))) rfl (w7 x.env rfl)
        intro v1 h1 t1 W1 F1 R1 L1 V1
        refine spliced_more (hb x hx w5 E _ { s with heap := h1, toks := t1 } m cs W1 loc H1 _ _ hB F1 R1 (VV.mono L1) ?_) (star_dE b _ _)
        intro v2 h2 t2 W2 F2 R2 L2 V2
        refine spliced_more (hc x hx w6 E _ { s with heap := h2, toks := t2 } m cs W2 loc H2 _ _ hC F2 R2 (VV.mono (L1.trans L2)) ?_) (star_dE c _ _)
        intro v3 h3 t3 W3 F3 R3 L3 V3
        have L := L1.trans (L2.trans L3)
        refine spliced_none (newTuple_N (s := { s with heap := h3, toks := t3 }) F3 R3.N (fun h4 F4 N4 => ?_) (by simp [sizeLine_eq]))
        refine unpackItemsN_ (s := { s with heap := h4, toks := t3 }) (items := #[v1, v2, v3]) F4 (fun p hp => N4 p (.tail _ hp)) ⟨_, (N4 _ (.head _)).1, rfl, _, rfl⟩ hx.hh rfl (fun h5 F5 N5 => ?_)
        have R5 : SR G x.h₀ x.L h5 cs W3 H' := ⟨N5, R3.nd, R3.ms, R3.bx, R3.cells⟩
        refine assignInOrder_cons (bindName_ (store_ok (s := { s with heap := h5, toks := t3 }) hD hx w3 F5 R5 (VV.mono L) V3 ?_))
        intro m6 cs6 h6 t6 F6 R6 VV6 C6
        refine assignInOrder_cons (bindName_ (store_ok (s := { s with heap := h6, toks := t6 }) hD hx w2 F6 R6 VV6 (V2.mono L3) ?_))
        intro m7 cs7 h7 t7 F7 R7 VV7 C7
        refine assignInOrder_cons (bindName_ (store_ok (s := { s with heap := h7, toks := t7 }) hD hx w1 F7 R7 VV7 (V1.mono (L2.trans L3)) ?_))
        intro m8 cs8 h8 t8 F8 R8 VV8 C8
        exact assignInOrder_nil (post m8 cs8 h8 t8 W3 F8 R8 L (C6.trans (C7.trans C8)) VV8)
      · cases he
    · cases he
  · cases he
end
end Mine

namespace Mine

section
variable {S : Glo} {G : Fix} {d : Nat} {cl : Cl} {D : DC}

theorem upd_of {c : Addr} {o o' : Obj} {post : Led} (h2 : ∀ p ∈ post, p.1 ≠ c) : ∀ pre : Led, (∀ p ∈ pre, p.1 ≠ c) → Upd c o o' (pre ++ (c, o) :: post) (pre ++ (c, o') :: post)
  | [], _ => Upd.head h2
  | p :: r, h => Upd.tail (h p (.head _)) (upd_of h2 r fun q hq => h q (.tail _ hq))

theorem set_split {α : Type} {l : List α} {k : Nat} {y : α} (h : l[k]? = some y) (z : α) : l = l.take k ++ y :: l.drop (k + 1) ∧ l.set k z = l.take k ++ z :: l.drop (k + 1) := by
  have hk : k < l.length := by
    by_cases q : k < l.length
    · exact q
    · rw [List.getElem?_eq_none (by omega)] at h; cases h
  have hy : l[k] = y := by rw [List.getElem?_eq_getElem hk] at h; exact Option.some.inj h
  refine ⟨?_, ?_⟩
  · rw [← hy]
    simp
  · exact List.set_eq_take_append_cons_drop.trans (by rw [if_pos hk])

/-- one handle's list changes -/
theorem SR.setMu {h₀ : Heap} {L : Addr} {h : Heap} {cs : Led} {W : Wd} {H : Hp} (R : SR G h₀ L h cs W H) {k : Nat} {a : Addr} {o : Obj} (hk : W.mu[k]? = some (a, o)) {vs : List Value} {n : Nat} {xs : List Int} (hi : IntsAre vs xs) (h0 : xs.length ≤ 1048576) :
    (∃ pre post, cs ++ W.all = pre ++ (a, o) :: post ∧ cs ++ (Wd.mk W.fz (W.mu.set k (a, listOf vs.toArray n)) W.bl).all = pre ++ (a, listOf vs.toArray n) :: post ∧ (∀ p ∈ pre, p.1 ≠ a) ∧ ∀ p ∈ post, p.1 ≠ a) ∧
    WLe W ⟨W.fz, W.mu.set k (a, listOf vs.toArray n), W.bl⟩ ∧
    ∀ h', News h₀ L h' (cs ++ (Wd.mk W.fz (W.mu.set k (a, listOf vs.toArray n)) W.bl).all) → SR G h₀ L h' cs ⟨W.fz, W.mu.set k (a, listOf vs.toArray n), W.bl⟩ ⟨H.ms.set k xs, H.bx⟩ := by
  obtain ⟨e1, e2⟩ := set_split hk (a, listOf vs.toArray n)
  have f1 : cs ++ W.all = (cs ++ (W.bl ++ W.mu.take k)) ++ (a, o) :: (W.mu.drop (k + 1) ++ W.fz) := by
    simp only [Wd.all]
    conv => lhs; rw [e1]
    simp
  have f2 : cs ++ (Wd.mk W.fz (W.mu.set k (a, listOf vs.toArray n)) W.bl).all = (cs ++ (W.bl ++ W.mu.take k)) ++ (a, listOf vs.toArray n) :: (W.mu.drop (k + 1) ++ W.fz) := by
    simp only [Wd.all]
    rw [e2]
    simp
  have nd := R.nd
  rw [f1] at nd
  obtain ⟨n1, n2⟩ := nodup_split nd
  have adr : (W.mu.set k (a, listOf vs.toArray n)).map (·.1) = W.mu.map (·.1) := by
    rw [e2]; conv => rhs; rw [e1]
    simp
  have klt : k < W.mu.length := by
    by_cases q : k < W.mu.length
    · exact q
    · rw [List.getElem?_eq_none (by omega)] at hk; cases hk
  refine ⟨⟨_, _, f1, f2, n1, n2⟩, ⟨fun p hp => hp, fun j b e => ?_, fun b e => e⟩, fun h' N' => ⟨N', ?_, ⟨?_, fun j ys e => ?_⟩, R.bx, R.cells⟩⟩
  · show ((W.mu.set k (a, listOf vs.toArray n)).map (·.1))[j]? = some b
    rw [adr]; exact e
  · rw [f2]
    simpa using nd
  · show (W.mu.set k _).length = (H.ms.set k xs).length
    rw [List.length_set, List.length_set]; exact R.ms.1
  · by_cases q : j = k
    · subst q
      have hj : j < H.ms.length := by rw [← R.ms.1]; exact klt
      rw [List.getElem?_set_self hj] at e
      cases e
      exact ⟨h0, a, vs, n, List.getElem?_set_self klt, hi⟩
    · rw [List.getElem?_set_ne (Ne.symm q)] at e
      obtain ⟨b0, b, us, i, g1, g2⟩ := R.ms.2 j ys e
      exact ⟨b0, b, us, i, (List.getElem?_set_ne (Ne.symm q)).trans g1, g2⟩

theorem ints_snoc {vs : List Value} {xs : List Int} (h : IntsAre vs xs) (z : Int) (t : Tok) : IntsAre (vs ++ [.int z t]) (xs ++ [z]) := IntsAre.append h (.cons z t .nil)

theorem sok_app (hD : D.good) {e : ME} (hE : EOK S G d cl D e) (i q : Nat) : SOK S G d cl D (.app i e q) := by
  intro x hx hw E Q s m cs W loc H fl loc' H' he F R VV post
  simp only [ex] at he
  split at he
  · rename_i k hi
    split at he
    · rename_i z H1 hA
      split at he
      · rename_i xs hxs
        split at he
        · rename_i hlt
          cases he
          have hint : interactive x.env = false := by
            unfold interactive
            show (x.cs.kind == .module && _) = false
            rw [hx.kf]; rfl
          obtain ⟨vr, hva, hr⟩ := VV.vars i _ hi (fun e => nomatch e)
          obtain ⟨a, rfl, ha⟩ := hr
          refine wpAny_Expr (wpAny_Call_append rfl ?_ hw.2.2 ?_ (load_ok hD hx hw.1 F R hva ?_)) hint rfl
          · rw [star_dE]; rfl
          · rw [star_dE]; rfl
          · have hk : k < W.mu.length := by
              have := List.getElem?_eq_some_iff.mp ha
              obtain ⟨h1, _⟩ := this
              simpa using h1
            obtain ⟨xs0, hxs0⟩ : ∃ xs0, H.ms[k]? = some xs0 := ⟨_, List.getElem?_eq_getElem (by rw [← R.ms.1]; exact hk)⟩
            obtain ⟨b0, a0, us, n0, g1, g2⟩ := R.ms.2 k xs0 hxs0
            have ea : a0 = a := by rw [List.getElem?_map, g1] at ha; exact Option.some.inj ha
            subst ea
            have hob := (R.N (a0, listOf us.toArray n0) (by simp [Wd.all, List.mem_of_getElem? g1])).1
            refine ⟨a0, us.toArray, rfl, ⟨_, n0, hob, rfl, rfl, rfl⟩, ?_⟩
            refine hE x hx hw.2.1 E _ s m cs W _ H _ _ hA F R VV ?_
            intro v1 h1 t1 W1 F1 R1 L1 V1
            obtain ⟨tz, rfl⟩ := V1
            obtain ⟨c0, a1, ws, n1, k1, k2⟩ := R1.ms.2 k xs hxs
            have ha1 := L1.mu k a0 ha
            have ea : a1 = a0 := by rw [List.getElem?_map, k1] at ha1; exact Option.some.inj ha1
            subst ea
            obtain ⟨⟨pre, post', f1, f2, n1', n2'⟩, L2, mk⟩ := R1.setMu (n := n1 + 1) k1 (ints_snoc k2 z tz) (by rw [List.length_append, List.length_singleton]; omega)
            refine append_K (s := { s with heap := h1, toks := t1 }) (its := ws.toArray) (n := n1) F1 (news := pre ++ (a1, PySem.W.listOf ws.toArray n1) :: post') (by rw [← f1]; exact R1.N) (upd_of n2' pre n1') (fun h2 F2 N2 => ?_) ?_
            · have e3 : ws.toArray.push (.int z tz) = (ws ++ [Value.int z tz]).toArray := by simp
              rw [e3, ← f2] at N2
              exact post m cs h2 t1 _ F2 (mk h2 N2) (L1.trans L2) (.refl cs) ((VV.mono L1).mono L2)
            · rw [List.size_toArray, ints_len k2, sizeLine_eq]; omega
        · cases he
      · cases he
    · cases he
  · cases he

theorem sok_asgI (hD : D.good) {ix e : ME} (hX : EOK S G d cl D ix) (hE : EOK S G d cl D e) (b q : Nat) : SOK S G d cl D (.asgI b ix e q) := by
  intro x hx hw E Q s m cs W loc H fl loc' H' he F R VV post
  simp only [ex] at he
  split at he
  · rename_i v H1 hA
    split at he
    · rename_i bv hb
      split at he
      · rename_i k H2 hB
        split at he
        · rename_i H3 hS
          cases he
          refine wpAny_Assign_Subscript (hE x hx hw.2.2.1 E _ s m cs W _ H _ _ hA F R VV ?_) (swaps_dE e _ _ _ (not_comp hw.2.2.2))
          intro v1 h1 t1 W1 F1 R1 L1 V1
          obtain ⟨vr, hva, hr⟩ := (VV.mono L1).vars b bv hb (fun e => by rw [e] at hS; simp [setI] at hS)
          refine load_ok (s := { s with heap := h1, toks := t1 }) hD hx hw.1 F1 R1 hva ?_
          refine hX x hx hw.2.1 E _ { s with heap := h1, toks := t1 } m cs W1 _ H1 _ _ hB F1 R1 (VV.mono L1) ?_
          intro v2 h2 t2 W2 F2 R2 L2 V2
          obtain ⟨u2, rfl⟩ := V2
          have hr' := VR.mono L2 hr
          have V1' := VR.mono L2 V1
          cases bv with
          | hnd j =>
            cases v with
            | int z =>
              obtain ⟨tz, rfl⟩ := V1'
              simp only [setI] at hS
              split at hS
              · rename_i xs hxs
                split at hS
                · rename_i hkk
                  cases hS
                  obtain ⟨a, rfl, ha⟩ := hr'
                  obtain ⟨c0, a1, ws, n1, k1, k2⟩ := R2.ms.2 j xs hxs
                  have ea : a1 = a := by rw [List.getElem?_map, k1] at ha; exact Option.some.inj ha
                  subst ea
                  obtain ⟨⟨pre, post', f1, f2, n1', n2'⟩, L3, mk⟩ := R2.setMu (n := n1) k1 (Mine.ints_set k2 k.toNat z tz) (by rw [List.length_set]; exact c0)
                  refine ksa_set (s := { s with heap := h2, toks := t2 }) (ns := xs) F2 (news := pre ++ (a1, PySem.W.listOf ws.toArray n1) :: post') (by rw [← f1]; exact R2.N) (upd_of n2' pre n1') k2 hkk.1 hkk.2 (by omega) (fun h3 F3 N3 _ _ _ => ?_)
                  rw [← f2] at N3
                  exact post m cs h3 t2 _ F3 (mk h3 N3) ((L1.trans L2).trans L3) (.refl cs) (((VV.mono L1).mono L2).mono L3)
                · cases hS
              · cases hS
            | _ => cases hS
          | box =>
            cases v with
            | int z =>
              obtain ⟨tz, rfl⟩ := V1'
              simp only [setI] at hS
              split at hS
              · rename_i i0 cs0 st0 hbx
                obtain ⟨a, rfl, ha⟩ := hr'
                have hB' := R2.bx
                rw [hbx] at hB'
                obtain ⟨a', l, t, u, n, eb, hl⟩ := hB'
                rw [eb] at ha
                cases ha
                have nd := R2.nd
                have f1 : cs ++ W2.all = cs ++ (a', PySem.W.listOf #[.int i0 t, .ref l, .int st0 u] n) :: (W2.mu ++ W2.fz) := by simp [Wd.all, eb]
                rw [f1] at nd
                obtain ⟨n1', n2'⟩ := nodup_split nd
                have hob := (R2.N (a', PySem.W.listOf #[.int i0 t, .ref l, .int st0 u] n) (by simp [Wd.all, eb]))
                have key : ∀ (its' : Array Value) (b' : Int × List Int × Int), (#[Value.int i0 t, .ref l, .int st0 u].setIfInBounds k.toNat (.int z tz)) = its' → its'.size = 3 → 0 ≤ k → k < 3 → BxR G.base [(a', PySem.W.listOf its' n)] W2.fz (some b') → H' = ⟨H2.ms, some b'⟩ →
                    wpAny (model S.prog S.w) x.A (setItem (.ref a') (.int k u2) (.int z tz)) (fun _ => Q .next) E { s with heap := h2, toks := t2 } := by
                  intro its' b' e1 e2 k0 k3 hbR eH
                  refine ki_setAt (s := { s with heap := h2, toks := t2 }) hob.1 k0 (by omega) (by simpa using k3) ?_
                  have F3 : Fr x.h₀ x.L (h2.update a' (Obj.mapSeq (·.setIfInBounds k.toNat (.int z tz)))) m := F2.change (Heap.SameBut.update ..) hob.2.1 hob.2.2
                  have N3 : News x.h₀ x.L (h2.update a' (Obj.mapSeq (·.setIfInBounds k.toNat (.int z tz)))) (cs ++ (a', PySem.W.listOf its' n) :: (W2.mu ++ W2.fz)) :=
                    ki_turn _ (by rw [← f1]; exact R2.N) n1' n2' e1 (by rw [e2]; simp)
                  have L3 : WLe W2 ⟨W2.fz, W2.mu, [(a', PySem.W.listOf its' n)]⟩ := ⟨fun p hp => hp, fun _ _ e => e, fun a e => by rw [eb] at e; exact e⟩
                  refine post m cs _ t2 ⟨W2.fz, W2.mu, [(a', PySem.W.listOf its' n)]⟩ F3 ⟨?_, ?_, ?_, ?_, R2.cells⟩ ((L1.trans L2).trans L3) (.refl cs) (((VV.mono L1).mono L2).mono L3)
                  · simpa [Wd.all] using N3
                  · simpa [Wd.all] using nd
                  · rw [eH]; exact R2.ms
                  · rw [eH]; exact hbR
                split at hS
                · rename_i hk; subst hk; cases hS
                  exact key _ _ rfl rfl (by decide) (by decide) ⟨a', l, tz, u, n, rfl, hl⟩ rfl
                · split at hS
                  · rename_i hk; subst hk; cases hS
                    exact key _ _ rfl rfl (by decide) (by decide) ⟨a', l, t, tz, n, rfl, hl⟩ rfl
                  · cases hS
              · cases hS
            | _ => cases hS
          | _ => cases hS
        · cases he
      · cases he
    · cases he
  · cases he

theorem sok_raise (hf : Facts S G) (c : Nat) (msg : Str) (q : Nat) : SOK S G d cl D (.raise c msg q) := by
  intro x hx hw E Q s m cs W loc H fl loc' H' he F R VV post
  simp only [ex] at he
  split at he
  · rename_i hc
    subst hc
    cases he
    have hcl := hx.cells0 hw.2
    have O : OwnCls ("OutOfRange" : Str) G.CX [.type "Exception", .type "BaseException", .type "object"] "Exception.__new__" S.mg x.h₀ := own_of_in hx.X (topRead_of hx.T) hf.cx hf.ce
    have henv : x.env = envOf x.cn x.cs x.L x.a x.ccd := by
      show envX _ _ _ _ _ x.cls = _
      rw [hcl]
      rfl
    rw [henv]
    refine Raise_own F hx.T.g O PySem.F.excBase_Exception hx.hh ?_ rfl rfl hx.kf hw.1 (by decide)
    refine spliced_more (Constant_str ?_) rfl
    refine spliced_none ⟨by simp [sizeLine_eq], F.keep, fun h' e hm => ?_⟩
    exact post e s.heap h' _ m cs W _ F R (.refl W) (.refl cs) hm
  · cases he
end
end Mine

namespace Mine

section
variable {S : Glo} {G : Fix} {d : Nat} {cl : Cl} {D : DC}

structure SRp (G : Fix) (cs : Led) (W : Wd) (H : Hp) : Prop where
  nd : ((cs ++ W.all).map (·.1)).Nodup
  ms : MuR W.mu H.ms
  bx : BxR G.base W.bl W.fz H.bx
  cells : CellsOnly cs
theorem SR.pure {h₀ : Heap} {L : Addr} {h : Heap} {cs : Led} {W : Wd} {H : Hp} (R : SR G h₀ L h cs W H) : SRp G cs W H := ⟨R.nd, R.ms, R.bx, R.cells⟩

theorem runL_exc {i : Nat} {body : List V → Hp → Option (Fl × List V × Hp)} : ∀ {vs : List V} {loc loc' : List V} {H H' : Hp}, runL i body vs loc H ≠ some (.exc, loc', H')
  | [], _, _, _, _ => fun e => by cases e
  | v :: vs, loc, loc', H, H' => fun e => by
    simp only [runL] at e
    split at e
    · exact runL_exc e
    · cases e
    · cases e

theorem VarsR.csMono {x : FX} {m : Str → Option Value} {cs cs' : Led} {W : Wd} {loc : List V} (h : VarsR G x D m cs W loc) (hs : ∀ p ∈ cs, (∃ v₀, p.2.data = .cell v₀) → p ∈ cs') : VarsR G x D m cs' W loc :=
  ⟨h.len, fun i hi => (h.kinds i hi).imp id fun ⟨a, c, o, v₀, e, hm, hd⟩ => ⟨a, c, o, v₀, e, hs _ hm ⟨_, hd⟩, hd⟩,
   fun i v e hv => let ⟨vr, a, b⟩ := h.vars i v e hv; ⟨vr, a.imp id fun ⟨k, c, o, e, hm, hd⟩ => ⟨k, c, o, e, hs _ hm ⟨_, hd⟩, hd⟩, b⟩⟩

/-- the loop's name takes a value: the frame said so -/
theorem VarsR.take (hD : D.good) {x : FX} {m : Str → Option Value} {cs : Led} {W : Wd} {loc : List V} (VV : VarsR G x D m cs W loc) {i : Nat} (hi : i < D.names.length) (hk : x.cs.names.lookup (D.nm i) = some .local) {v : V} {vr : Value} (hv : VR G W v vr) :
    VarsR G x D (fun y => if y = D.nm i then some vr else m y) cs W (loc.set i v) := by
  refine ⟨by rw [List.length_set]; exact VV.len, VV.kinds, fun j v' e hne => ?_⟩
  have jlt : j < D.names.length := by
    rw [← VV.len]
    by_cases q : j < loc.length
    · exact q
    · rw [List.getElem?_eq_none (by rw [List.length_set]; omega)] at e; cases e
  by_cases q : j = i
  · subst q
    rw [List.getElem?_set_self (by rw [VV.len]; exact hi)] at e
    cases e
    exact ⟨vr, .inl ⟨hk, by simp⟩, hv⟩
  · rw [List.getElem?_set_ne (Ne.symm q)] at e
    obtain ⟨vr', ha, hr⟩ := VV.vars j v' e hne
    refine ⟨vr', ?_, hr⟩
    rcases ha with ⟨h1, h2⟩ | ha
    · refine .inl ⟨h1, ?_⟩
      show (if D.nm j = D.nm i then some vr else m (D.nm j)) = some vr'
      rw [if_neg (fun e => q (nm_inj hD jlt hi e))]
      exact h2
    · exact .inr ha

theorem loop_ok (hD : D.good) {body : MSs} (hb : SsOK S G d cl D body) {x : FX} (hx : x.OK S G d) (hwb : wfSs x.cs D body) {i : Nat} (hi : i < D.names.length) (hk : x.cs.names.lookup (D.nm i) = some .local)
    {xs : List V} {I : Addr} {fp : List Addr} {P : Nat → Value → Prop} {St : Nat → Heap → Prop} {W0 : Wd} (Wk : Walks S.prog S.w x.A I fp [I] xs.length P St) (hP : ∀ j v, j < xs.length → P j v → ∃ xv, xs[j]? = some xv ∧ VR G W0 xv v)
    (hIo : ∀ j h, St j h → ∃ o vs, h.get? I = some o ∧ o.data = .fields vs) (hIfp : I ∈ fp) (hLfp : x.L ∉ fp) {s : Shared} {m : Str → Option Value} {cs : Led} {loc : List V} {H : Hp} {fl : Fl} {loc' : List V} {H' : Hp} {E : Value → Shared → Prop} {Q : Flow → Shared → Prop}
    (hfp : ∀ b ∈ fp, b = I ∨ (∃ o, (b, o) ∈ W0.fz) ∨ ∃ o, x.h₀.get? b = some o) (hst : St 0 s.heap) (F : Fr x.h₀ x.L s.heap m) (R : SR G x.h₀ x.L s.heap cs W0 H) (hIn : ∀ p ∈ cs ++ W0.all, p.1 ≠ I) (hI0 : x.h₀.get? I = none)
    (VV : VarsR G x D m cs W0 loc) (he : runL i (exs cl body) xs loc H = some (fl, loc', H')) (post : SPost G x D cs W0 s Q E fl loc' H') :
    LoopAtV S.prog S.w x.A x.h₀ x.env (D.nm i) (dSs D body) Q E (.ref I) s := by
  refine ⟨I, fp, [I], xs.length, P, St, m, cs ++ W0.all, fun j m1 nw => ∃ cs1 W1 loc1 H1, nw = cs1 ++ W1.all ∧ SRp G cs1 W1 H1 ∧ WLe W0 W1 ∧ CsLe cs cs1 ∧ VarsR G x D m1 cs1 W1 loc1 ∧ runL i (exs cl body) (xs.drop j) loc1 H1 = some (fl, loc', H'),
    rfl, Wk, hLfp, fun b hb => by rw [List.mem_singleton.mp hb]; exact hI0, fun p hp hm => hIn p hp (List.mem_singleton.mp hm), hst, F, R.N, ⟨cs, W0, loc, H, rfl, R.pure, .refl _, .refl _, VV, by simpa using he⟩, ?_, ?_⟩
  · rintro j v m1 nw s1 own ⟨h, tk, rfl⟩ hj hPv ⟨cs1, W1, loc1, H1, rfl, Rp, L1, C1, VV1, hrun⟩ hnwr hown1 hown2 hown3 hSt F1 N1
    obtain ⟨xv, hxv, hxr⟩ := hP j v hj hPv
    have hdrop : xs.drop j = xv :: xs.drop (j + 1) := by
      rw [List.drop_eq_getElem_cons hj]
      congr 1
      rw [List.getElem?_eq_getElem hj] at hxv
      exact Option.some.inj hxv
    rw [hdrop] at hrun
    simp only [runL] at hrun
    obtain ⟨oI, vI, eI, dI⟩ := hIo _ _ hSt
    have mI : (I, oI) ∈ own := hown3 I hIfp hI0 oI eI
    have hI1 : ∀ p ∈ cs1 ++ W1.all, p.1 ≠ I := fun p hp e => hnwr p hp (List.mem_singleton.mpr e)
    have RB : SR G x.h₀ x.L h ((I, oI) :: cs1) W1 H1 := by
      refine ⟨fun p hp => ?_, ?_, Rp.ms, Rp.bx, fun p hp => ?_⟩
      · rcases List.mem_cons.mp hp with rfl | hp
        · exact N1 _ (List.mem_append_left _ mI)
        · exact N1 _ (List.mem_append_right _ hp)
      · rw [List.cons_append, List.map_cons, List.nodup_cons]
        refine ⟨fun hm => ?_, Rp.nd⟩
        obtain ⟨p, hp, e⟩ := List.mem_map.mp hm
        exact hI1 p hp e
      · rcases List.mem_cons.mp hp with rfl | hp
        · exact noDat_fields dI
        · exact Rp.cells p hp
    have VB : VarsR G x D (fun y => if y = D.nm i then some v else m1 y) ((I, oI) :: cs1) W1 (loc1.set i xv) :=
      (VV1.take hD hi hk (hxr.mono L1)).csMono fun p hp _ => .tail _ hp
    -- behind a turn: the iterator goes off the frame's own part again
    have back : ∀ {cs' : Led} {W' : Wd} {Hx : Hp} {h' : Heap}, SR G x.h₀ x.L h' cs' W' Hx → CsLe ((I, oI) :: cs1) cs' → ∃ o' cs2, cs' = (I, o') :: cs2 ∧ o' = oI ∧ SR G x.h₀ x.L h' cs2 W' Hx ∧ CsLe cs1 cs2 ∧ (∀ p ∈ cs2 ++ W'.all, p.1 ≠ I) := by
      intro cs' W' Hx h' R' C'
      cases cs' with
      | nil => have := C'.adr; cases this
      | cons p cs2 =>
        obtain ⟨b, o'⟩ := p
        have hadr := C'.adr
        simp only [List.map_cons, List.cons.injEq] at hadr
        obtain ⟨rfl, hadr⟩ := hadr
        have hmem : (b, oI) ∈ (b, o') :: cs2 := C'.keep _ (.head _) fun v₀ e => by rw [dI] at e; cases e
        have e1 := (R'.N (b, oI) (List.mem_append_left _ hmem)).1
        have e2 := (R'.N (b, o') (List.mem_append_left _ (.head _))).1
        have eo : o' = oI := by rw [e1] at e2; exact (Option.some.inj e2).symm
        have nd := R'.nd
        rw [List.cons_append, List.map_cons, List.nodup_cons] at nd
        refine ⟨o', cs2, rfl, eo, ⟨fun p hp => R'.N p (.tail _ hp), nd.2, R'.ms, R'.bx, fun p hp => R'.cells p (.tail _ hp)⟩, ⟨hadr, fun p hp hn => ?_⟩, fun p hp e => nd.1 (List.mem_map.mpr ⟨p, hp, e⟩)⟩
        have := C'.keep p (.tail _ hp) hn
        rcases List.mem_cons.mp this with rfl | q
        · exact absurd rfl (hI1 _ (List.mem_append_left _ hp))
        · exact q
    split at hrun
    · rename_i loc2 H2 hbody
      refine hb x hx hwb E _ { s with heap := h, toks := tk } _ _ W1 _ H1 _ _ _ hbody F1 RB VB ?_
      intro m' cs' h' tk' W' F' R' L' C' V'
      obtain ⟨o', cs2, rfl, eo, R2, C2, hoff⟩ := back R' C'
      subst eo
      refine .next ⟨rfl, h', tk', m', cs2 ++ W'.all, rfl, F', fun p hp => ?_, fun p hp hm => hoff p hp (List.mem_singleton.mp hm), ⟨cs2, W', loc2, H2, rfl, R2.pure, L1.trans L', C1.trans C2, ?_, hrun⟩⟩
      · rcases List.mem_append.mp hp with q | q
        · rcases hfp p.1 (hown1 p q) with e | ⟨o, ho⟩ | ⟨o, ho⟩
          · have e1 := hown2 p q
            obtain ⟨pa, po⟩ := p
            dsimp only at e e1
            subst e
            have : po = o' := by rw [eI] at e1; exact (Option.some.inj e1).symm
            subst this
            exact R'.N _ (List.mem_append_left _ (.head _))
          · have e1 := hown2 p q
            have e2 := (N1 (p.1, o) (List.mem_append_right _ (by simp only [Wd.all, List.mem_append]; exact .inr (.inr (.inr (L1.fz _ ho)))))).1
            have : p.2 = o := by
              have e3 := e1.symm.trans e2
              exact Option.some.inj e3
            have hp' : (p.1, p.2) ∈ W'.fz := by rw [this]; exact L'.fz _ (L1.fz _ ho)
            exact R'.N p (by simp only [Wd.all, List.mem_append]; exact .inr (.inr (.inr hp')))
          · have := (N1 p (List.mem_append_left _ q)).2.2
            rw [ho] at this; cases this
        · exact R2.N p q
      · refine V'.csMono fun p hp hc => ?_
        rcases List.mem_cons.mp hp with rfl | hp
        · obtain ⟨v₀, hc⟩ := hc
          rw [dI] at hc; cases hc
        · exact hp
    · rename_i r loc2 H2 hbody
      cases hrun
      refine hb x hx hwb E _ { s with heap := h, toks := tk } _ _ W1 _ H1 _ _ _ hbody F1 RB VB ?_
      intro vr m' cs' h' tk' W' F' R' L' C' V'
      obtain ⟨o', cs2, rfl, eo, R2, C2, hoff⟩ := back R' C'
      exact .ret (post vr m' cs2 h' tk' W' F' R2 (L1.trans L') (C1.trans C2) V')
    · cases hrun
  · rintro h' tk m' nw F' N' hnwr ⟨cs1, W1, loc1, H1, rfl, Rp, L1, C1, VV1, hrun⟩
    rw [List.drop_length] at hrun
    simp only [runL] at hrun
    cases hrun
    exact post m' cs1 h' tk W1 F' ⟨N', Rp.nd, Rp.ms, Rp.bx, Rp.cells⟩ L1 C1 VV1
end
end Mine

namespace Mine

section
variable {S : Glo} {G : Fix} {d : Nat} {cl : Cl} {D : DC}

theorem runW_exc {t : List V → Hp → Option (V × Hp)} {body : List V → Hp → Option (Fl × List V × Hp)} : ∀ {n : Nat} {loc loc' : List V} {H H' : Hp}, runW t body n loc H ≠ some (.exc, loc', H')
  | 0, _, _, _, _ => fun e => by cases e
  | n + 1, loc, loc', H, H' => fun e => by
    simp only [runW] at e
    split at e
    · split at e
      · exact runW_exc e
      · cases e
      · cases e
    · cases e
    · cases e

theorem SPost.noE {x : FX} {cs : Led} {W : Wd} {s : Shared} {Q : Flow → Shared → Prop} {E E' : Value → Shared → Prop} {fl : Fl} {loc' : List V} {H' : Hp} (h : SPost G x D cs W s Q E fl loc' H') (hn : fl ≠ .exc) : SPost G x D cs W s Q E' fl loc' H' := by
  cases fl with
  | next => exact h
  | ret v => exact h
  | exc => exact absurd rfl hn

theorem envp {x : FX} (hx : x.OK S G d) : (x.env.scope.kind == .class || (x.env.scope.kind == .module && x.env.locals != x.env.globals)) = false := by
  show (x.cs.kind == .class || (x.cs.kind == .module && _)) = false
  rw [hx.kf]; rfl

/-- a loop over ints: what the values are -/
theorem ints_vr {W : Wd} {vs : List Value} {xs : List Int} (hi : IntsAre vs xs) (j : Nat) (v : Value) (h : vs.toArray[j]? = some v) : ∃ xv, (xs.map V.int)[j]? = some xv ∧ VR G W xv v := by
  have h' : vs[j]? = some v := by simpa using h
  have hj : j < xs.length := by
    rw [← ints_len hi]
    by_cases q : j < vs.length
    · exact q
    · rw [List.getElem?_eq_none (by omega)] at h'; cases h'
  obtain ⟨t, e⟩ := ints_at hi j xs[j] (by simp [hj])
  rw [h'] at e
  cases e
  exact ⟨.int xs[j], by simp [hj], t, rfl⟩

theorem sok_forL (hD : D.good) {e : ME} {b : MSs} (hE : EOK S G d cl D e) (hb : SsOK S G d cl D b) (i q : Nat) : SOK S G d cl D (.forL i e b q) := by
  intro x hx hw E Q s m cs W loc H fl loc' H' he F R VV post
  obtain ⟨w1, w2, w3, w4⟩ := hw
  simp only [ex] at he
  split at he
  · rename_i xs H1 hA
    refine wpAny_noRaise (For_invV x.h₀ w2 (envp hx) (hE x hx w3 _ _ s m cs W loc H _ _ hA F R VV ?_) (folded_dE e _) PassesOwn.never)
    intro v1 h1 t1 W1 F1 R1 L1 V1
    obtain ⟨l, rfl, hl⟩ := V1
    obtain ⟨n0, vs, hi, hlist, o, ho⟩ := R1.isList hx F1 hl
    refine wpAny_pyIter_list (s := { s with heap := h1, toks := t1 }) hlist ?_
    have hne : l ≠ h1.objs.size := Nat.ne_of_lt (Heap.lt_size ho)
    have Wk := Walks.list (prog := S.prog) (w := S.w) hx.hh h1.objs.size l hne vs.toArray
    have hlen : vs.toArray.size = (xs.map V.int).length := by simp [ints_len hi]
    rw [hlen] at Wk
    have F2 : Fr x.h₀ x.L (h1.push { cls := .type "list_iterator", data := .fields #[.ref l, .int 0 0] }) m := F1.push _
    have R2 : SR G x.h₀ x.L (h1.push { cls := .type "list_iterator", data := .fields #[.ref l, .int 0 0] }) cs W1 H1 := ⟨R1.N.grown fun _ _ e => Heap.get?_push_of_some _ e, R1.nd, R1.ms, R1.bx, R1.cells⟩
    have hLs : x.L < h1.objs.size := F1.ns.lt
    refine loop_ok hD hb hx w4 w1 w2 Wk (fun j v hj hp => ints_vr hi j v hp) (fun j h st => ?_) (by simp) ?_ (fun b hb => ?_) ⟨⟨_, Heap.get?_push_size _ rfl, rfl, rfl⟩, hlist.push _⟩ F2 R2 (fun p hp => Nat.ne_of_lt (R1.lt p hp)) (next_is_new F1) (VV.mono L1) he ((post.noE fun e => runL_exc (e ▸ he)).weaken L1 (.refl cs))
    · obtain ⟨o, e1, _, e3⟩ := st.1
      exact ⟨o, _, e1, e3⟩
    · intro hm
      rcases List.mem_cons.mp hm with e | hm
      · exact absurd hLs (e ▸ Nat.lt_irrefl _)
      · have e := List.mem_singleton.mp hm
        rcases hl.2 with ⟨vs', _, ⟨n, hn⟩ | ⟨o', ho', _⟩⟩
        · exact (R1.N (l, PySem.W.listOf vs'.toArray n) (by simp [Wd.all, hn])).2.1 e.symm
        · have := Heap.lt_size (hx.B.stays _ _ ho')
          rw [← e] at this
          exact absurd (Nat.lt_of_lt_of_le this F1.above) (Nat.lt_irrefl _)
    · rcases List.mem_cons.mp hb with e | hm
      · exact .inl e
      · have e := List.mem_singleton.mp hm
        subst e
        rcases hl.2 with ⟨vs', _, ⟨n, hn⟩ | ⟨o', ho', _⟩⟩
        · exact .inr (.inl ⟨_, hn⟩)
        · exact .inr (.inr ⟨o', hx.B.stays _ _ ho'⟩)
  · cases he

theorem ints_vr_rev {W : Wd} {vs : List Value} {xs : List Int} (hi : IntsAre vs xs) (j : Nat) (hj : j < xs.length) (v : Value) (h : vs.toArray[vs.toArray.size - 1 - j]? = some v) : ∃ xv, (xs.reverse.map V.int)[j]? = some xv ∧ VR G W xv v := by
  have hs : vs.toArray.size = xs.length := by simp [ints_len hi]
  rw [hs] at h
  obtain ⟨xv, e, r⟩ := ints_vr (G := G) (W := W) hi _ v h
  refine ⟨xv, ?_, r⟩
  rw [List.map_reverse, List.getElem?_reverse (by simpa using hj)]
  simpa using e

theorem sok_forV (hD : D.good) (hf : Facts S G) {e : ME} {b : MSs} (hE : EOK S G d cl D e) (hb : SsOK S G d cl D b) (i q : Nat) : SOK S G d cl D (.forV i e b q) := by
  intro x hx hw E Q s m cs W loc H fl loc' H' he F R VV post
  obtain ⟨w1, w2, w3, w4, w5⟩ := hw
  simp only [ex] at he
  split at he
  · rename_i xs H1 hA
    refine wpAny_noRaise (For_invV x.h₀ w2 (envp hx) (wpAny_Call_NameR (nameX_B F hx.X (topRead_of hx.T) (hf.bn "reversed" (by simp)) PyProof.Rows.Boot.«reversed» (by decide) ?_ hx.kf w3)) (fun _ => rfl) PassesOwn.never)
    refine PyProof.Rows.callWith_type1 (spliced_more (hE x hx w4 _ _ s m cs W loc H _ _ hA F R VV ?_) (star_dE e [] _)) (star_dE e [] _) rfl
    intro v1 h1 t1 W1 F1 R1 L1 V1
    obtain ⟨l, rfl, hl⟩ := V1
    obtain ⟨n0, vs, hi, hlist, o, ho⟩ := R1.isList hx F1 hl
    refine spliced_none (krv_reversed (s := { s with heap := h1, toks := t1 }) F1 R1.N hlist fun I h2 F2 N2 hlt => ?_)
    have hIa : h2.get? I = some (revObj l ((vs.length : Int) - 1)) := (N2 _ (.head _)).1
    have hrev : h2.IsRevIter I l ((vs.toArray.size : Int) - 1 - ((0 : Nat) : Int)) := ⟨_, hIa, rfl, by simp [revObj]⟩
    refine wpAny_pyIter_revIter (s := { s with heap := h2, toks := t1 }) hrev ?_
    have R2 : SR G x.h₀ x.L h2 cs W1 H1 := ⟨fun p hp => N2 p (.tail _ hp), R1.nd, R1.ms, R1.bx, R1.cells⟩
    obtain ⟨_, vs2, hi2, hlist2, o2, ho2⟩ := R2.isList hx F2 hl
    have hlist3 : h2.IsList l vs.toArray := by
      rcases hl.2 with ⟨vs', hi', h1' | h1'⟩
      · obtain ⟨n, hn⟩ := h1'
        have e1 := (R1.N (l, PySem.W.listOf vs'.toArray n) (by simp [Wd.all, hn])).1
        have e2 := (R2.N (l, PySem.W.listOf vs'.toArray n) (by simp [Wd.all, hn])).1
        obtain ⟨o3, q1, q2⟩ := hlist
        rw [e1] at q1
        cases q1
        exact ⟨_, e2, q2⟩
      · obtain ⟨o', ho', r'⟩ := h1'
        have e1 := F1.keep _ _ (hx.B.stays _ _ ho')
        have e2 := F2.keep _ _ (hx.B.stays _ _ ho')
        obtain ⟨o3, q1, q2⟩ := hlist
        rw [e1] at q1
        cases q1
        exact ⟨_, e2, q2⟩
    have hne : l ≠ I := by
      intro e
      subst e
      obtain ⟨o3, q1, q2, _⟩ := hlist3
      rw [hIa] at q1
      cases q1
      simp [revObj] at q2
    have Wk := Walks.listRev (prog := S.prog) (w := S.w) hx.hh I l hne vs.toArray
    have hlen : vs.toArray.size = (xs.reverse.map V.int).length := by simp [ints_len hi]
    have hlen0 : vs.toArray.size = xs.length := by simp [ints_len hi]
    have Wk' : Walks S.prog S.w x.A I [I, l] [I] (xs.reverse.map V.int).length (fun i v => vs.toArray[vs.toArray.size - 1 - i]? = some v) (fun i h => i ≤ vs.toArray.size ∧ h.IsRevIter I l ((vs.toArray.size : Int) - 1 - (i : Int)) ∧ h.IsList l vs.toArray) := by rw [← hlen]; exact Wk
    refine loop_ok hD hb hx w5 w1 w2 Wk' (fun j v hj hp => ints_vr_rev hi j (by simpa using hj) v hp) (fun j h st => ?_) (by simp) ?_ (fun b hb => ?_) ⟨Nat.zero_le _, hrev, hlist3⟩ F2 R2 (fun p hp => Nat.ne_of_lt (hlt p hp)) (N2 _ (.head _)).2.2 (VV.mono L1) he ((post.noE fun e => runL_exc (e ▸ he)).weaken L1 (.refl cs))
    · obtain ⟨o, e1, _, e3⟩ := st.2.1
      exact ⟨o, _, e1, e3⟩
    · intro hm
      rcases List.mem_cons.mp hm with e | hm
      · exact (N2 _ (.head _)).2.1 e.symm
      · have e := List.mem_singleton.mp hm
        rcases hl.2 with ⟨vs', _, ⟨n, hn⟩ | ⟨o', ho', _⟩⟩
        · exact (R1.N (l, PySem.W.listOf vs'.toArray n) (by simp [Wd.all, hn])).2.1 e.symm
        · have := Heap.lt_size (hx.B.stays _ _ ho')
          rw [← e] at this
          exact absurd (Nat.lt_of_lt_of_le this F1.above) (Nat.lt_irrefl _)
    · rcases List.mem_cons.mp hb with e | hm
      · exact .inl e
      · have e := List.mem_singleton.mp hm
        subst e
        rcases hl.2 with ⟨vs', _, ⟨n, hn⟩ | ⟨o', ho', _⟩⟩
        · exact .inr (.inl ⟨_, hn⟩)
        · exact .inr (.inr ⟨o', hx.B.stays _ _ ho'⟩)
  · cases he

theorem okR_lt {a : Int} (h : okR a = true) : a.natAbs < 1099511627776 := of_decide_eq_true h
theorem range_size (a b c : Int) (hc : c = 1 ∨ c = -1) : Builtin.Range.rangeSize a b c = (rangeN a b c : Int) := by
  unfold Builtin.Range.rangeSize rangeN
  rcases hc with rfl | rfl
  · have h1 : (1 : Int) > 0 := by decide
    rw [if_pos h1, if_pos rfl]
    split <;> omega
  · have h1 : ¬ (-1 : Int) > 0 := by decide
    have h2 : ¬ (-1 : Int) = 1 := by decide
    rw [if_neg h1, if_neg h2]
    split
    · have e : (a - b - 1) / -(-1) = a - b - 1 := by rw [show (-(-1) : Int) = 1 by decide, Int.ediv_one]
      rw [e]; omega
    · omega
theorem range_small {a b c : Int} (hc : c = 1 ∨ c = -1) (ha : okR a = true) (hb : okR b = true) : Builtin.Range.small a b c = true := by
  have h1 := okR_lt ha
  have h2 := okR_lt hb
  unfold Builtin.Range.small
  rw [range_size a b c hc]
  have fits : ∀ z : Int, z.natAbs < 9223372036854775808 → Builtin.Range.rangeFitsLong z = true := by
    intro z hz
    unfold Builtin.Range.rangeFitsLong
    simp only [Bool.and_eq_true, decide_eq_true_eq]
    omega
  have e1 : rangeN a b c < 9223372036854775808 := by
    unfold rangeN; split <;> omega
  rw [fits a (by omega), fits b (by omega), fits c (by rcases hc with rfl | rfl <;> decide), fits _ (by omega)]
  simp only [Bool.true_and, Bool.or_eq_true]
  refine .inr ?_
  rcases hc with rfl | rfl
  · rw [if_pos (by decide)]; exact fits _ (by omega)
  · rw [if_neg (by decide)]; exact fits _ (by omega)

/-- a loop over a range object -/
theorem range_loop (hD : D.good) {body : MSs} (hb : SsOK S G d cl D body) {x : FX} (hx : x.OK S G d) (hwb : wfSs x.cs D body) {i : Nat} (hi : i < D.names.length) (hk : x.cs.names.lookup (D.nm i) = some .local)
    {s : Shared} {m : Str → Option Value} {cs : Led} {W : Wd} {loc : List V} {H : Hp} {fl : Fl} {loc' : List V} {H' : Hp} {E : Value → Shared → Prop} {Q : Flow → Shared → Prop} {r : Addr} {a b c : Int} {t u v : Tok}
    (hr : IsRange s.heap r a b c t u v) (hc : c = 1 ∨ c = -1) (ha : okR a = true) (hbo : okR b = true) (F : Fr x.h₀ x.L s.heap m) (R : SR G x.h₀ x.L s.heap cs W H) (VV : VarsR G x D m cs W loc)
    (he : runL i (exs cl body) (rangeV a b c) loc H = some (fl, loc', H')) (post : SPost G x D cs W s Q E fl loc' H') :
    wpAny (model S.prog S.w) x.A (pyIter (.ref r)) (fun it s₂ => LoopAtV S.prog S.w x.A x.h₀ x.env (D.nm i) (dSs D body) Q E it s₂) E s := by
  refine wpAny_pyIter_range hr (range_small hc ha hbo) ?_
  have Wk := Walks.range (prog := S.prog) (w := S.w) hx.hh s.heap.objs.size a c (rangeN a b c)
  have hlen : (rangeV a b c).length = rangeN a b c := by simp [rangeV]
  rw [← hlen] at Wk
  have F2 : Fr x.h₀ x.L (s.heap.push { cls := .type "range_iterator", data := .fields #[rawInt a, rawInt (Builtin.Range.rangeSize a b c), rawInt c] }) m := F.push _
  have R2 : SR G x.h₀ x.L (s.heap.push { cls := .type "range_iterator", data := .fields #[rawInt a, rawInt (Builtin.Range.rangeSize a b c), rawInt c] }) cs W H := ⟨R.N.grown fun _ _ e => Heap.get?_push_of_some _ e, R.nd, R.ms, R.bx, R.cells⟩
  have hLs : x.L < s.heap.objs.size := F.ns.lt
  refine loop_ok (s := { s with heap := s.heap.push _ }) hD hb hx hwb hi hk Wk (fun j v hj hp => ?_) (fun j h st => ⟨_, _, st, rfl⟩) (by simp) (fun hm => ?_) (fun b hb => .inl (List.mem_singleton.mp hb)) ?_ F2 R2 (fun p hp => Nat.ne_of_lt (R.lt p hp)) (next_is_new F) VV he (post.weaken (h1 := s.heap.push _) (t1 := s.toks) (.refl W) (.refl cs))
  · obtain ⟨t', rfl⟩ := hp
    refine ⟨.int (a + (j : Int) * c), ?_, t', rfl⟩
    rw [hlen] at hj
    simp [rangeV, hj]
  · exact absurd hLs ((List.mem_singleton.mp hm) ▸ Nat.lt_irrefl _)
  · have e : (s.heap.push { cls := .type "range_iterator", data := .fields #[rawInt a, rawInt (Builtin.Range.rangeSize a b c), rawInt c] }).get? s.heap.objs.size = some { cls := .type "range_iterator", data := .fields #[rawInt a, rawInt (Builtin.Range.rangeSize a b c), rawInt c] } := Heap.get?_push_size _ rfl
    rw [hlen]
    show Heap.get? _ _ = _
    rw [range_size a b c hc] at e ⊢
    simpa using e

end
end Mine

namespace Mine

section
variable {S : Glo} {G : Fix} {d : Nat} {cl : Cl} {D : DC}

theorem rangeOf_inv {l xs : List V} (h : rangeOf l = some xs) :
    (∃ n, l = [.int n] ∧ okR n = true ∧ xs = rangeV 0 n 1) ∨ (∃ a b, l = [.int a, .int b] ∧ okR a = true ∧ okR b = true ∧ xs = rangeV a b 1) ∨
    (∃ a b c, l = [.int a, .int b, .int c] ∧ (c = 1 ∨ c = -1) ∧ okR a = true ∧ okR b = true ∧ xs = rangeV a b c) := by
  unfold rangeOf at h
  split at h
  · split at h
    · rename_i hr; exact .inl ⟨_, rfl, hr, (Option.some.inj h).symm⟩
    · cases h
  · split at h
    · rename_i hr; exact .inr (.inl ⟨_, _, rfl, hr.1, hr.2, (Option.some.inj h).symm⟩)
    · cases h
  · split at h
    · rename_i hr; exact .inr (.inr ⟨_, _, _, rfl, hr.1, hr.2.1, hr.2.2, (Option.some.inj h).symm⟩)
    · cases h
  · cases h

theorem okR_zero : okR 0 = true := by
  unfold okR
  exact decide_eq_true (by omega)

theorem vrs_one {W : Wd} {v : V} {rs : List Value} (h : VRs G W [v] rs) : ∃ r, rs = [r] ∧ VR G W v r := by
  cases rs with
  | nil => exact h.elim
  | cons r rs => cases rs with
    | nil => exact ⟨r, rfl, h.1⟩
    | cons _ _ => exact h.2.elim
theorem vrs_nil {W : Wd} {rs : List Value} (h : VRs G W [] rs) : rs = [] := by
  cases rs with
  | nil => rfl
  | cons _ _ => exact h.elim
theorem vrs_cons {W : Wd} {v : V} {vs : List V} {rs : List Value} (h : VRs G W (v :: vs) rs) : ∃ r rs', rs = r :: rs' ∧ VR G W v r ∧ VRs G W vs rs' := by
  cases rs with
  | nil => exact h.elim
  | cons r rs => exact ⟨r, rs, rfl, h.1, h.2⟩

theorem range_call {x : FX} {m : Str → Option Value} {cs : Led} {W : Wd} {s : Shared} (F : Fr x.h₀ x.L s.heap m) (N : News x.h₀ x.L s.heap (cs ++ W.all)) {l : List V} {rs : List Value} {xs : List V}
    (V2 : VRs G W l rs) (hxs : rangeOf l = some xs) {Q E : Value → Shared → Prop}
    (k : ∀ a b c h3 tk3 r t₁ u₁ v₁, (c = 1 ∨ c = -1) → okR a = true → okR b = true → xs = rangeV a b c → IsRange h3 r a b c t₁ u₁ v₁ → Fr x.h₀ x.L h3 m → News x.h₀ x.L h3 (cs ++ W.all) → Q (.ref r) { s with heap := h3, toks := tk3 }) :
    wpAny (model S.prog S.w) x.A (call (.type "range") rs) Q E s := by
  rcases rangeOf_inv hxs with ⟨n, rfl, hr, hx⟩ | ⟨a, b, rfl, ha, hb, hx⟩ | ⟨a, b, c, rfl, hc, ha, hb, hx⟩
  · obtain ⟨r, rfl, t, rfl⟩ := vrs_one V2
    refine range1_rows F N ?_
    intro h3 tk3 t₁ u₁ v₁ hr' F3 N3 _
    exact k 0 n 1 h3 tk3 _ t₁ u₁ v₁ (.inl rfl) okR_zero hr hx hr' F3 N3
  · obtain ⟨r, rs', rfl, ⟨t, rfl⟩, V3⟩ := vrs_cons V2
    obtain ⟨r2, rfl, t2, rfl⟩ := vrs_one V3
    refine range2_rows F N ?_
    intro h3 tk3 t₁ u₁ v₁ hr' F3 N3 _
    exact k a b 1 h3 tk3 _ t₁ u₁ v₁ (.inl rfl) ha hb hx hr' F3 N3
  · obtain ⟨r, rs', rfl, ⟨t, rfl⟩, V3⟩ := vrs_cons V2
    obtain ⟨r2, rs2, rfl, ⟨t2, rfl⟩, V4⟩ := vrs_cons V3
    obtain ⟨r3, rfl, t3, rfl⟩ := vrs_one V4
    have hc0 : c ≠ 0 := by omega
    have hcs : c.natAbs < 1073741824 := by omega
    refine range3_rows F N hc0 ?_ (.inl (PyProof.noPylong_small hcs))
    intro h3 tk3 t₁ u₁ v₁ hr' F3 N3 _
    exact k a b c h3 tk3 _ t₁ u₁ v₁ hc ha hb hx hr' F3 N3

theorem sok_forR (hD : D.good) (hf : Facts S G) {e : ME} {es : MEs} {b : MSs} (hE : EOK S G d cl D e) (hEs : ESOK S G d cl D es) (hb : SsOK S G d cl D b) (i q : Nat) : SOK S G d cl D (.forR i e es b q) := by
  intro x hx hw E Q s m cs W loc H fl loc' H' he F R VV post
  obtain ⟨w1, w2, w3, w4, w5, w6⟩ := hw
  simp only [ex] at he
  split at he
  · rename_i v H1 hA
    split at he
    · rename_i vs H2 hB
      split at he
      · rename_i xs hxs
        refine wpAny_noRaise (For_invV x.h₀ w2 (envp hx) (wpAny_Call_NameR (nameX_B F hx.X (topRead_of hx.T) (hf.bn "range" (by simp)) PyProof.Rows.Boot.«range» (by decide) ?_ hx.kf w3)) (fun _ => rfl) PassesOwn.never)
        refine PyProof.Rows.callWith_type1 (spliced_more (hE x hx w4 _ _ s m cs W loc H _ _ hA F R VV ?_) (star_dE e _ _)) (star_dE e _ _) (plain_dEs _ _ es)
        intro v1 h1 t1 W1 F1 R1 L1 V1
        refine hEs x hx w5 _ _ _ { s with heap := h1, toks := t1 } m cs W1 loc H1 _ _ hB F1 R1 (VV.mono L1) ?_
        intro vrs h2 t2 W2 F2 R2 L2 V2
        refine range_call (s := { s with heap := h2, toks := t2 }) (G := G) (l := v :: vs) (rs := v1 :: vrs) F2 R2.N ⟨V1.mono L2, V2⟩ hxs ?_
        intro a b' c h3 tk3 r t₁ u₁ v₁ hc ha hb' hxv hr F3 N3
        rw [hxv] at he
        exact range_loop (s := { s with heap := h3, toks := tk3 }) hD hb hx w6 w1 w2 hr hc ha hb' F3 ⟨N3, R2.nd, R2.ms, R2.bx, R2.cells⟩ (VV.mono (L1.trans L2)) he ((post.noE fun e => runL_exc (e ▸ he)).weaken (L1.trans L2) (.refl cs))
      · cases he
    · cases he
  · cases he
end
end Mine

namespace Mine

section
variable {S : Glo} {G : Fix} {d : Nat} {cl : Cl} {D : DC}

theorem sok_whl {t : ME} {b : MSs} (hT : TOK S G d cl D t) (hb : SsOK S G d cl D b) (q : Nat) : SOK S G d cl D (.whl t b q) := by
  intro x hx hw E Q s m cs W loc H fl loc' H' he F R VV post
  simp only [ex] at he
  have post' : SPost G x D cs W s Q (fun _ _ => False) fl loc' H' := post.noE fun e => runW_exc (e ▸ he)
  refine wpAny_noRaise (wpAny_While ?_)
  refine codeAny_whileLoop (fun n s' => ∃ h tk m1 cs1 W1 loc1 H1, s' = { s with heap := h, toks := tk } ∧ Fr x.h₀ x.L h m1 ∧ SR G x.h₀ x.L h cs1 W1 H1 ∧ WLe W W1 ∧ CsLe cs cs1 ∧ VarsR G x D m1 cs1 W1 loc1 ∧ runW (fun loc H => ev cl loc t H) (exs cl b) n loc1 H1 = some (fl, loc', H')) ?_ wfuel
    ⟨s.heap, s.toks, m, cs, W, loc, H, rfl, F, R, .refl W, .refl cs, VV, he⟩
  rintro n s' ⟨h, tk, m1, cs1, W1, loc1, H1, rfl, F1, R1, L1, C1, V1, hrun⟩
  cases n with
  | zero => cases hrun
  | succ n =>
    simp only [runW] at hrun
    split at hrun
    · rename_i H2 hA
      refine hT x hx hw.1 _ _ { s with heap := h, toks := tk } m1 cs1 W1 loc1 H1 _ _ hA F1 R1 V1 ?_
      intro h2 t2 W2 F2 R2 L2
      rw [if_pos rfl]
      split at hrun
      · rename_i loc3 H3 hB
        refine hb x hx hw.2 _ _ { s with heap := h2, toks := t2 } m1 cs1 W2 loc1 H2 _ _ _ hB F2 R2 (V1.mono L2) ?_
        intro m' cs' h' tk' W' F' R' L' C' V'
        exact ⟨n, Nat.lt_succ_self n, h', tk', m', cs', W', loc3, H3, rfl, F', R', L1.trans (L2.trans L'), C1.trans C', V', hrun⟩
      · rename_i r loc3 H3 hB
        cases hrun
        refine hb x hx hw.2 _ _ { s with heap := h2, toks := t2 } m1 cs1 W2 loc1 H2 _ _ _ hB F2 R2 (V1.mono L2) ?_
        intro vr m' cs' h' tk' W' F' R' L' C' V'
        exact post' vr m' cs' h' tk' W' F' R' (L1.trans (L2.trans L')) (C1.trans C') V'
      · cases hrun
    · rename_i H2 hA
      cases hrun
      refine hT x hx hw.1 _ _ { s with heap := h, toks := tk } m1 cs1 W1 _ H1 _ _ hA F1 R1 V1 ?_
      intro h2 t2 W2 F2 R2 L2
      rw [if_neg (by decide)]
      exact wpAny_execs_nil (post' m1 cs1 h2 t2 W2 F2 R2 (L1.trans L2) C1 (V1.mono L2))
    · cases hrun

mutual
theorem ex_all (hD : D.good) (hf : Facts S G) (hm : MontFacts S G) (hI : InitFacts S G) (hc : CallOK S G (d + 1) cl) (hgl : ∀ g vs H r, cl g vs H = some r → g < gnames.length) : ∀ st : MS, SOK S G (d + 1) cl D st
  | .asg i e q => sok_asg hD (ev_all hD hf hm hI hc hgl e).1 i q
  | .asg2 i j a b q => sok_asg2 hD (ev_all hD hf hm hI hc hgl a).1 (ev_all hD hf hm hI hc hgl b).1 i j q
  | .asg3 i j k a b c q => sok_asg3 hD (ev_all hD hf hm hI hc hgl a).1 (ev_all hD hf hm hI hc hgl b).1 (ev_all hD hf hm hI hc hgl c).1 i j k q
  | .asgI b ix e q => sok_asgI hD (ev_all hD hf hm hI hc hgl ix).1 (ev_all hD hf hm hI hc hgl e).1 b q
  | .aug i o e q => sok_aug hD (ev_all hD hf hm hI hc hgl e).1 i o q
  | .ifs t b o q => sok_ifs (ev_all hD hf hm hI hc hgl t).2 (exs_all hD hf hm hI hc hgl b) (exs_all hD hf hm hI hc hgl o) q
  | .forR i e es b q => sok_forR hD hf (ev_all hD hf hm hI hc hgl e).1 (evs_all hD hf hm hI hc hgl es).1 (exs_all hD hf hm hI hc hgl b) i q
  | .forL i e b q => sok_forL hD (ev_all hD hf hm hI hc hgl e).1 (exs_all hD hf hm hI hc hgl b) i q
  | .forV i e b q => sok_forV hD hf (ev_all hD hf hm hI hc hgl e).1 (exs_all hD hf hm hI hc hgl b) i q
  | .whl t b q => sok_whl (ev_all hD hf hm hI hc hgl t).2 (exs_all hD hf hm hI hc hgl b) q
  | .ret e q => sok_ret (ev_all hD hf hm hI hc hgl e).1 q
  | .raise c msg q => sok_raise hf c msg q
  | .app i e q => sok_app hD (ev_all hD hf hm hI hc hgl e).1 i q
  | .exp e q => sok_exp (ev_all hD hf hm hI hc hgl e).1 q
theorem exs_all (hD : D.good) (hf : Facts S G) (hm : MontFacts S G) (hI : InitFacts S G) (hc : CallOK S G (d + 1) cl) (hgl : ∀ g vs H r, cl g vs H = some r → g < gnames.length) : ∀ st : MSs, SsOK S G (d + 1) cl D st
  | .nil => ssok_nil
  | .cons s r => ssok_cons (ex_all hD hf hm hI hc hgl s) (exs_all hD hf hm hI hc hgl r)
end
end
end Mine

namespace Mine

/-- a def of the program's, as it stands in the heap -/
noncomputable def FnIn (S : Glo) (f : Addr) (F : FDef) : Prop :=
  ∃ (oc : Value) (od : Option Addr) (osl : Array (Option Value)) (name qual : Str) (params : Arguments) (scope : Scope) (dV kV doc pm : Value) (an : Option Addr) (cdv ct : Value),
    S.K.lookup f = some ⟨oc, od, .func (fnOf name qual params (dSs F.D F.body) scope dV kV doc pm an cdv ct), osl⟩ ∧ codeIn S.K cdv qual = true ∧
    (∀ s vs, vs.length = F.np → BindsTo s (fnOf name qual params (dSs F.D F.body) scope dV kV doc pm an cdv ct) ⟨vs, []⟩ ((F.D.names.take F.np).zip vs)) ∧
    scope.isCoroutine = false ∧ scope.isGenerator = false ∧ scope.kind = .function ∧ (∀ y ∈ scope.names, y.2 ≠ .cell) ∧ (∀ y ∈ F.D.names, scope.names.lookup y = some .local) ∧
    F.np ≤ F.D.names.length ∧ F.D.good ∧ wfSs scope F.D F.body

section
variable {S : Glo} {G : Fix} {d : Nat} {cl : Cl} {D : DC}

theorem zip_lookup : ∀ (ns : List Str) (vs : List Value) (i : Nat) (v : Value) (y : Str), ns.Nodup → ns[i]? = some y → vs[i]? = some v → ns.length = vs.length → (ns.zip vs).lookup y = some v
  | [], _, _, _, _, _, h, _, _ => by simp at h
  | n :: ns, [], _, _, _, _, _, h, _ => by simp at h
  | n :: ns, w :: vs, i, v, y, hnd, h1, h2, hl => by
    cases i with
    | zero =>
      simp only [List.getElem?_cons_zero, Option.some.injEq] at h1 h2
      subst h1; subst h2
      simp [List.lookup_cons]
    | succ i =>
      simp only [List.getElem?_cons_succ] at h1 h2
      have hne : (y == n) = false := by
        have := (List.nodup_cons.mp hnd).1
        have hy : y ∈ ns := List.mem_of_getElem? h1
        exact beq_false_of_ne fun e => this (e ▸ hy)
      rw [List.zip_cons_cons, List.lookup_cons, hne]
      exact zip_lookup ns vs i v y (List.nodup_cons.mp hnd).2 h1 h2 (by simpa using hl)

theorem lookup_nodup {β : Type} : ∀ {l : List (Str × β)} {y : Str} {v : β}, (l.map (·.1)).Nodup → (y, v) ∈ l → l.lookup y = some v
  | (n, w) :: l, y, v, hnd, h => by
    rcases List.mem_cons.mp h with e | h
    · cases e; simp
    · have hne : (y == n) = false := beq_false_of_ne fun e => (List.nodup_cons.mp hnd).1 (e ▸ List.mem_map.mpr ⟨_, h, rfl⟩)
      rw [List.lookup_cons, hne]
      exact lookup_nodup (List.nodup_cons.mp hnd).2 h
theorem lookup_mem {β : Type} : ∀ {l : List (Str × β)} {y : Str} {v : β}, l.lookup y = some v → (y, v) ∈ l
  | [], _, _, h => by cases h
  | (n, w) :: l, y, v, h => by
    rw [List.lookup_cons] at h
    split at h
    · rename_i e
      cases h
      rw [eq_of_beq e]
      exact .head _
    · exact .tail _ (lookup_mem h)
theorem nodup_rev {α : Type} {l : List α} (h : l.Nodup) : l.reverse.Nodup := by
  unfold List.Nodup at *
  rw [List.pairwise_reverse]
  exact h.imp fun h => Ne.symm h
theorem lookup_rev {l : List (Str × Value)} {y : Str} {v : Value} (hnd : (l.map (·.1)).Nodup) (h : l.lookup y = some v) : l.reverse.lookup y = some v := by
  have hm : (y, v) ∈ l.reverse := List.mem_reverse.mpr (lookup_mem h)
  refine lookup_nodup ?_ hm
  rw [List.map_reverse]
  exact nodup_rev hnd

theorem vrs_at {W : Wd} : ∀ {vs : List V} {rs : List Value} (i : Nat) (v : V), VRs G W vs rs → vs[i]? = some v → ∃ r, rs[i]? = some r ∧ VR G W v r
  | [], _, i, v, _, h => by simp at h
  | _ :: _, [], _, _, h, _ => h.elim
  | v :: vs, r :: rs, 0, _, h, e => by simp at e; subst e; exact ⟨r, rfl, h.1⟩
  | v :: vs, r :: rs, i + 1, w, h, e => by simpa using vrs_at i w h.2 (by simpa using e)

/-- the ledger's list of what is laid by -/
noncomputable def minus (fz cs : Led) : Led := fz.filter fun p => decide (p.1 ∉ cs.map (·.1))
theorem mem_minus {fz cs : Led} {p : Addr × Obj} : p ∈ minus fz cs ↔ p ∈ fz ∧ p.1 ∉ cs.map (·.1) := by
  unfold minus
  rw [List.mem_filter]
  simp only [decide_eq_true_eq]

theorem nodup_one {l : Led} (nd : (l.map (·.1)).Nodup) {a : Addr} {o o' : Obj} (h : (a, o) ∈ l) (h' : (a, o') ∈ l) : o = o' := by
  induction l with
  | nil => cases h
  | cons p r ih =>
    rw [List.map_cons, List.nodup_cons] at nd
    rcases List.mem_cons.mp h with e | h1
    · rcases List.mem_cons.mp h' with e' | h2
      · rw [← e] at e'; cases e'; rfl
      · exact absurd (List.mem_map.mpr ⟨_, h2, by rw [← e]⟩) nd.1
    · rcases List.mem_cons.mp h' with e' | h2
      · exact absurd (List.mem_map.mpr ⟨_, h1, by rw [← e']⟩) nd.1
      · exact ih nd.2 h1 h2

theorem IsL.minus {base : Heap} {fz cs more : Led} {l : Addr} {xs : List Int} (nd : (fz.map (·.1)).Nodup) (hc : CellsOnly cs) (hs : ∀ p ∈ cs, p ∈ fz) (h : IsL base fz l xs) : IsL base (minus fz cs ++ more) l xs := by
  obtain ⟨h0, vs, hi, h | h⟩ := h
  · obtain ⟨n, hn⟩ := h
    refine ⟨h0, vs, hi, .inl ⟨n, List.mem_append_left _ (mem_minus.mpr ⟨hn, fun hm => ?_⟩)⟩⟩
    obtain ⟨p, hp, e⟩ := List.mem_map.mp hm
    obtain ⟨pa, po⟩ := p
    dsimp only at e; subst e
    exact (hc _ hp).1 _ _ (nodup_one nd (hs _ hp) hn)
  · exact ⟨h0, vs, hi, .inr h⟩

theorem mem_minus_of {fz cs more : Led} {a : Addr} {o : Obj} (nd : (fz.map (·.1)).Nodup) (hs : ∀ p ∈ cs, p ∈ fz) (h : (a, o) ∈ fz) (hn : (a, o) ∉ cs) : (a, o) ∈ minus fz cs ++ more := by
  refine List.mem_append_left _ (mem_minus.mpr ⟨h, fun hm => ?_⟩)
  obtain ⟨p, hp, e⟩ := List.mem_map.mp hm
  obtain ⟨pa, po⟩ := p
  dsimp only at e; subst e
  have := nodup_one nd (hs _ hp) h
  exact hn (this ▸ hp)

theorem MontR.minus {C : Addr} {base : Heap} {fz cs more : Led} {v : Value} {m : List Int} {q : Int} {o sq : List Int} (nd : (fz.map (·.1)).Nodup) (hc : CellsOnly cs) (hs : ∀ p ∈ cs, p ∈ fz) (h : MontR C base fz v m q o sq) : MontR C base (minus fz cs ++ more) v m q o sq := by
  obtain ⟨x, dx, es, n, l1, l2, l3, t, e, a1, a2, a3, a4, a5, a6, a7, a8, a9⟩ := h
  exact ⟨x, dx, es, n, l1, l2, l3, t, e, mem_minus_of nd hs a1 (fun h => (hc _ h).2.2 _ _ rfl), mem_minus_of nd hs a2 (fun h => (hc _ h).2.1 _ _ rfl), a3, a4.minus nd hc hs, a5, a6, a7.minus nd hc hs, a8, a9.minus nd hc hs⟩

theorem nodup_back {cs bl mu fz : Led} {n : Nat} (nd : ((bl ++ (mu ++ fz)).map (·.1)).Nodup) (ndc : (cs.map (·.1)).Nodup) (hs : ∀ p ∈ cs, p ∈ fz) :
    ((cs ++ (bl ++ (mu.take n ++ (minus fz cs ++ mu.drop n)))).map (·.1)).Nodup := by
  have hp : (bl ++ (mu.take n ++ (minus fz cs ++ mu.drop n))).Perm (bl ++ (mu ++ minus fz cs)) := by
    refine List.Perm.append_left _ ?_
    have e : mu ++ minus fz cs = mu.take n ++ (mu.drop n ++ minus fz cs) := by rw [← List.append_assoc, List.take_append_drop]
    rw [e]
    exact List.Perm.append_left _ List.perm_append_comm
  have sub : ((bl ++ (mu ++ minus fz cs)).map (·.1)).Sublist ((bl ++ (mu ++ fz)).map (·.1)) := by
    refine List.Sublist.map _ (List.Sublist.append (List.Sublist.refl _) (List.Sublist.append (List.Sublist.refl _) List.filter_sublist))
  have nd1 := nd.sublist sub
  have nd2 : ((bl ++ (mu.take n ++ (minus fz cs ++ mu.drop n))).map (·.1)).Nodup := (List.Perm.nodup_iff (hp.map _)).mpr nd1
  rw [List.map_append]
  refine List.nodup_append.mpr ⟨ndc, nd2, fun a ha b hb e => ?_⟩
  subst e
  have hb' := (hp.map (·.1)).mem_iff.mp hb
  obtain ⟨p, hpm, rfl⟩ := List.mem_map.mp hb'
  obtain ⟨c, hcm, ec⟩ := List.mem_map.mp ha
  rw [List.map_append, List.map_append] at nd
  have nda := List.nodup_append.mp nd
  have ndb := List.nodup_append.mp nda.2.1
  have hcf : p.1 ∈ fz.map (·.1) := List.mem_map.mpr ⟨c, hs c hcm, ec⟩
  rcases List.mem_append.mp hpm with h | h
  · exact nda.2.2 p.1 (List.mem_map_of_mem h) p.1 (List.mem_append_right _ hcf) rfl
  · rcases List.mem_append.mp h with h | h
    · exact ndb.2.2 p.1 (List.mem_map_of_mem h) p.1 hcf rfl
    · exact (mem_minus.mp h).2 ha

/-- behind a call: the callee's part goes into what stays -/
theorem back_ok {h₀ g h' : Heap} {L L' : Addr} {cs : Led} {W W' : Wd} {H H' H'' : Hp} {v v' : V} {vr : Value} {h : Heap} (R : SR G h₀ L h cs W H) (R' : SR G g L' h' [] W' H') (hW : WLe ⟨cs ++ W.fz, W.mu, W.bl⟩ W')
    (hv : VR G W' v vr) (hfin : fin v H.ms.length H' = some (.val v' H'')) (N : News h₀ L h' ([] ++ W'.all)) :
    ∃ W'', SR G h₀ L h' cs W'' H'' ∧ WLe W W'' ∧ VR G W'' v' vr := by
  have hs : ∀ p ∈ cs, p ∈ W'.fz := fun p hp => hW.fz p (List.mem_append_left _ hp)
  have ndc : (cs.map (·.1)).Nodup := by
    have := R.nd
    rw [List.map_append] at this
    exact (List.nodup_append.mp this).1
  have nd' : (W'.all.map (·.1)).Nodup := R'.nd
  have ndfz : (W'.fz.map (·.1)).Nodup := by
    unfold Wd.all at nd'
    rw [List.map_append, List.map_append] at nd'
    exact (List.nodup_append.mp (List.nodup_append.mp nd').2.1).2.1
  have hlen : H.ms.length = W.mu.length := R.ms.1.symm
  refine ⟨⟨minus W'.fz cs ++ W'.mu.drop H.ms.length, W'.mu.take H.ms.length, W'.bl⟩, ?_, ?_, ?_⟩
  · have hH : H'' = ⟨H'.ms.take H.ms.length, H'.bx⟩ := by
      unfold fin at hfin
      split at hfin
      · split at hfin
        · cases hfin; rfl
        · split at hfin
          · cases hfin; rfl
          · cases hfin
      · cases hfin
      · cases hfin; rfl
    subst hH
    refine ⟨fun p hp => N p ?_, nodup_back nd' ndc hs, ⟨?_, fun k xs e => ?_⟩, ?_, R.cells⟩
    · simp only [Wd.all, List.nil_append, List.mem_append] at hp ⊢
      rcases hp with h | h | h | h | h
      · exact .inr (.inr (hs p h))
      · exact .inl h
      · exact .inr (.inl (List.mem_of_mem_take h))
      · exact .inr (.inr (mem_minus.mp h).1)
      · exact .inr (.inl (List.mem_of_mem_drop h))
    · show (W'.mu.take _).length = (H'.ms.take _).length
      rw [List.length_take, List.length_take, R'.ms.1]
    · dsimp only at e ⊢
      rw [List.getElem?_take] at e ⊢
      split at e
      · rename_i hk
        rw [if_pos hk]
        exact R'.ms.2 k xs e
      · cases e
    · have hb := R'.bx
      dsimp only
      generalize H'.bx = bx at hb ⊢
      cases bx with
      | none => exact hb
      | some b =>
        obtain ⟨i, cs0, st⟩ := b
        obtain ⟨a, l, t, u, n, e, hl⟩ := hb
        exact ⟨a, l, t, u, n, e, hl.minus ndfz R.cells hs⟩
  · refine ⟨fun p hp => ?_, fun k a e => ?_, fun a e => hW.bl a e⟩
    · refine List.mem_append_left _ (mem_minus.mpr ⟨hW.fz p (List.mem_append_right _ hp), fun hm => ?_⟩)
      have nd := R.nd
      rw [List.map_append] at nd
      exact (List.nodup_append.mp nd).2.2 p.1 hm p.1 (List.mem_map_of_mem (by simp [Wd.all, hp])) rfl
    · have e' := hW.mu k a e
      have hk : k < H.ms.length := by
        rw [hlen]
        by_cases q : k < (W.mu.map (·.1)).length
        · simpa using q
        · rw [List.getElem?_eq_none (by omega)] at e; cases e
      dsimp only at e' ⊢
      rw [List.map_take, List.getElem?_take, if_pos hk]
      exact e'
  · have other : ∀ v, (match v with | .hnd _ => False | _ => True) → VR G W' v vr → VR G ⟨minus W'.fz cs ++ W'.mu.drop H.ms.length, W'.mu.take H.ms.length, W'.bl⟩ v vr := by
      intro v hne hv
      cases v with
      | hnd k => exact hne.elim
      | lst xs => obtain ⟨l, e, hl⟩ := hv; exact ⟨l, e, hl.minus ndfz R.cells hs⟩
      | mont m q o sq => exact MontR.minus ndfz R.cells hs hv
      | unset => exact hv
      | int i => exact hv
      | bool b => exact hv
      | none => exact hv
      | box => exact hv
      | fn g => exact hv
    unfold fin at hfin
    split at hfin
    · rename_i k
      obtain ⟨a, rfl, ha⟩ := hv
      split at hfin
      · rename_i hk
        cases hfin
        refine ⟨a, rfl, ?_⟩
        dsimp only
        rw [List.map_take, List.getElem?_take, if_pos hk]
        exact ha
      · rename_i hk
        split at hfin
        · rename_i xs hxs
          cases hfin
          obtain ⟨h0, a0, vs, n, e1, e2⟩ := R'.ms.2 k xs hxs
          have : a0 = a := by rw [List.getElem?_map, e1] at ha; exact Option.some.inj ha
          subst this
          refine ⟨a0, rfl, h0, vs, e2, .inl ⟨n, List.mem_append_right _ ?_⟩⟩
          refine List.mem_iff_getElem?.mpr ⟨k - H.ms.length, ?_⟩
          rw [List.getElem?_drop]
          have : H.ms.length + (k - H.ms.length) = k := by omega
          rw [this]
          exact e1
        · cases hfin
    · cases hfin
    · rename_i v0 hne hne2
      cases hfin
      refine other _ ?_ hv
      split
      · exact hne _ rfl
      · trivial

theorem call_step (hf : Facts S G) (hm : MontFacts S G) (hI : InitFacts S G) {P : Nat → Option FDef} (hP : ∀ g F, P g = some F → g < gnames.length ∧ FnIn S (G.ga g) F)
    (hc : CallOK S G (d + 1) cl) (hgl : ∀ g vs H r, cl g vs H = some r → g < gnames.length) : CallOK S G (d + 1 + 1) (fun g vs H => match P g with | some F => runB cl F vs H | none => none) := by
  intro x hx E Q s m cs W H g vs vrs r hcall F R VS postV postE
  dsimp only at hcall
  split at hcall
  · rename_i FD hFD
    obtain ⟨hg, oc, od, osl, name, qual, params, scope, dV, kV, doc, pm, an, cdv, ct, hlk, hcode, hbind, hco, hgen, hkind, hcell, hloc, hnp, hgood, hwf⟩ := hP g FD hFD
    unfold runB at hcall
    split at hcall
    · rename_i hlen
      have hlen' : vrs.length = FD.np := by rw [← VS.length]; exact hlen
      refine wpAny_call (code_def hx.B F hx.X R.N hx.T hx.hA rfl hx.kf hlk hcode (by have := hx.dep; omega) (hbind s vrs hlen') (fun y hy => ?_) ?_ hco hgen hkind hcell)
      · refine hloc y.1 (List.mem_of_mem_take (List.of_mem_zip (show (y.1, y.2) ∈ _ from hy)).1)
      intro g₀ L' h₁ FG F1 N1 B1 X1 T1
      let y : FX := ⟨x.A.deeper (envOf qual scope L' (G.ga g) cdv), x.A, x.env :: x.outer, g₀, L', G.ga g, qual, scope, cdv, []⟩
      have hy : y.OK S G (d + 1) := by
        refine ⟨B1, X1, T1, hkind, Around.frames_deeper B1.stack, hx.hh, ?_, ?_, fun _ => rfl, fun a b c e _ => by cases e⟩
        · show (x.A.deeper (envOf qual scope L' (G.ga g) cdv)).depth + (d + 1) < _
          rw [depth_deeper]; have := hx.dep; omega
        · show (x.A.deeper (envOf qual scope L' (G.ga g) cdv)).units + 4 * (d + 1) + 200 < _
          rw [units_deeper]; have := hx.uni; omega
      have hm0 : ∀ p, p ∈ [] ++ (Wd.mk (cs ++ W.fz) W.mu W.bl).all ↔ p ∈ cs ++ W.all := by
        intro p
        simp only [Wd.all, List.nil_append, List.mem_append]
        constructor
        · rintro (h | h | h | h) <;> simp [h]
        · rintro (h | h | h | h) <;> simp [h]
      have RB : SR G y.h₀ y.L h₁ [] ⟨cs ++ W.fz, W.mu, W.bl⟩ H := by
        refine ⟨fun p hp => N1 p ((hm0 p).mp hp), ?_, R.ms, R.bx.mono fun p hp => List.mem_append_right _ hp, fun p hp => nomatch hp⟩
        have hp : ([] ++ (Wd.mk (cs ++ W.fz) W.mu W.bl).all).Perm (cs ++ W.all) := by
          simp only [Wd.all, List.nil_append]
          have e1 : W.bl ++ (W.mu ++ (cs ++ W.fz)) = (W.bl ++ W.mu) ++ (cs ++ W.fz) := by simp
          have e2 : cs ++ (W.bl ++ (W.mu ++ W.fz)) = cs ++ ((W.bl ++ W.mu) ++ W.fz) := by simp
          rw [e1, e2, ← List.append_assoc, ← List.append_assoc]
          exact List.Perm.append_right _ List.perm_append_comm
        exact (List.Perm.nodup_iff (hp.map _)).mpr R.nd
      have VV : VarsR G y FD.D (fun z => ((FD.D.names.take FD.np).zip vrs).reverse.lookup z) [] ⟨cs ++ W.fz, W.mu, W.bl⟩ (vs ++ List.replicate (FD.D.names.length - FD.np) .unset) := by
        refine ⟨by rw [List.length_append, List.length_replicate, hlen]; omega, fun i hi => .inl (hloc _ ?_), fun i v e hne => ?_⟩
        · rw [nm_eq hi]; exact List.getElem_mem hi
        · by_cases q : i < vs.length
          · rw [List.getElem?_append_left q] at e
            obtain ⟨r0, hr0, hvr⟩ := vrs_at i v VS e
            have hi : i < FD.D.names.length := by omega
            refine ⟨r0, .inl ⟨hloc _ (by rw [nm_eq hi]; exact List.getElem_mem hi), ?_⟩, VR.mono (W' := ⟨cs ++ W.fz, W.mu, W.bl⟩) ⟨fun p hp => List.mem_append_right _ hp, fun _ _ e => e, fun _ e => e⟩ hvr⟩
            have ndt : (FD.D.names.take FD.np).Nodup := hgood.1.sublist (List.take_sublist _ _)
            have htl : (FD.D.names.take FD.np).length = vrs.length := by rw [List.length_take, hlen']; omega
            refine lookup_rev ?_ (zip_lookup _ _ i r0 _ ndt ?_ hr0 htl)
            · rw [List.map_fst_zip (by omega)]
              exact ndt
            · rw [List.getElem?_take, if_pos (by omega), nm_eq hi]
              exact List.getElem?_eq_getElem hi
          · rw [List.getElem?_append_right (by omega)] at e
            have := List.mem_of_getElem? e
            rw [List.mem_replicate] at this
            exact absurd this.2 hne
      have main := fun fl loc' H' he => exs_all (D := FD.D) hgood hf hm hI hc hgl FD.body y hy hwf
        (fun e s' => wpAny (model S.prog S.w) (x.A.deeper (envOf qual scope L' (G.ga g) cdv)) (leaving (envOf qual scope L' (G.ga g) cdv) e) (fun _ s'' => E e s'') (fun e' s'' => E e' s'') s')
        (fun fl s' => LeaveK x.h₀ x.L m g₀ (fun r s' => match r with | .ok (.ret v) => Q v s' | .ok _ => False | .error e => E e s') (match fl with | .ret v => v | _ => .none) s')
        { s with heap := h₁, toks := s.toks + ((FD.D.names.take FD.np).zip vrs).length } _ [] ⟨cs ++ W.fz, W.mu, W.bl⟩ _ H fl loc' H' he F1 RB VV
      have back : ∀ (v v' : V) (H' H'' : Hp) (vr : Value) (m' : Str → Option Value) (cs' : Led) (h' : Heap) (tk' : Nat) (W' : Wd), fin v H.ms.length H' = some (.val v' H'') → r = .val v' H'' → Fr g₀ L' h' m' → SR G g₀ L' h' cs' W' H' → WLe ⟨cs ++ W.fz, W.mu, W.bl⟩ W' → CsLe [] cs' → VR G W' v vr →
          LeaveK x.h₀ x.L m g₀ (fun r s' => match r with | .ok (.ret v) => Q v s' | .ok _ => False | .error e => E e s') vr { s with heap := h', toks := tk' } := by
        intro v v' H' H'' vr m' cs' h' tk' W' hfin hr F' R' L1 C1 hv
        have hcs : cs' = [] := by have := C1.adr; simpa using this
        subst hcs
        refine leaveK_ F' R'.N fun Fz Nz => ?_
        obtain ⟨W'', R'', L'', V''⟩ := back_ok R R' L1 hv hfin Nz
        exact postV v' H'' hr vr h' tk' W'' Fz R'' L'' V''
      split at hcall
      · rename_i v loc' H' he
        have hr : ∃ v' H'', r = .val v' H'' := by
          unfold fin at hcall
          split at hcall
          · split at hcall
            · cases hcall; exact ⟨_, _, rfl⟩
            · split at hcall
              · cases hcall; exact ⟨_, _, rfl⟩
              · cases hcall
          · cases hcall
          · cases hcall; exact ⟨_, _, rfl⟩
        obtain ⟨v', H'', rfl⟩ := hr
        refine main _ _ _ he ?_
        intro vr m' cs' h' tk' W' F' R' L1 C1 hv
        exact back v v' H' H'' vr m' cs' h' tk' W' hcall rfl F' R' L1 C1 hv
      · rename_i loc' H' he
        have hr : r = .val .none ⟨H'.ms.take H.ms.length, H'.bx⟩ := by
          simp only [fin] at hcall
          cases hcall; rfl
        subst hr
        refine main _ _ _ he ?_
        intro m' cs' h' tk' W' F' R' L1 C1 hv
        exact back .none .none H' _ .none m' cs' h' tk' W' hcall rfl F' R' L1 C1 rfl
      · rename_i loc' H' he
        cases hcall
        refine main _ _ _ he ?_
        intro e g' h' tk' m' cs' W' vs' F' R' L1 C1 hmade
        have hcs : cs' = [] := by have := C1.adr; simpa using this
        subst hcs
        have N' : News g₀ L' g' (cs ++ W.fz) := fun p hp => R'.N p (by
          have := L1.fz p hp
          simp only [Wd.all, List.nil_append, List.mem_append]
          exact .inr (.inr this))
        refine leave_raiseK (s' := { s with heap := h', toks := tk' }) B1 hmade F' N' (fun h'' t RK hsm => ?_) hkind
        exact postE rfl e t vs' g₀ h'' tk' FG hsm RK
      · cases hcall
    · cases hcall
  · cases hcall

theorem callM_gl {P : Nat → Option FDef} (hP : ∀ g F, P g = some F → g < gnames.length) : ∀ n g vs H r, callM P n g vs H = some r → g < gnames.length
  | 0, _, _, _, _, h => by cases h
  | n + 1, g, vs, H, r, h => by
    simp only [callM] at h
    split at h
    · rename_i F hF; exact hP g F hF
    · cases h

theorem callM_ok (hf : Facts S G) (hm : MontFacts S G) (hI : InitFacts S G) {P : Nat → Option FDef} (hP : ∀ g F, P g = some F → g < gnames.length ∧ FnIn S (G.ga g) F) : ∀ n, CallOK S G (n + 1) (callM P n)
  | 0 => by
    intro x hx E Q s m cs W H g vs vrs r hcall
    cases hcall
  | n + 1 => call_step hf hm hI hP (callM_ok hf hm hI hP n) (callM_gl (fun g F h => (hP g F h).1) n)
end
end Mine

namespace Mine
noncomputable def posn (l : List (Nat × Nat × Nat × Nat)) (i : Nat) : Pos := match l[i]? with
  | some (a, b, c, d) => ⟨a, b, c, d⟩
  | none => ⟨0, 0, 0, 0⟩
noncomputable def D_normal : DC := ⟨["a", "end"], posn [(9, 14, 9, 15), (9, 10, 9, 13), (9, 10, 9, 16), (9, 4, 9, 7), (9, 4, 9, 16), (10, 10, 10, 13), (10, 16, 10, 17), (10, 10, 10, 17), (10, 22, 10, 23), (10, 24, 10, 27), (10, 30, 10, 31), (10, 24, 10, 31), (10, 22, 10, 32), (10, 36, 10, 37), (10, 22, 10, 37), (10, 10, 10, 37), (11, 15, 11, 16), (11, 8, 11, 11), (11, 8, 11, 16), (10, 4, 11, 16), (12, 11, 12, 12), (12, 14, 12, 17), (12, 13, 12, 17), (12, 11, 12, 18), (12, 4, 12, 18)]⟩
noncomputable def b_normal : MSs := (.cons (.asg 1 (.len (.loc 0 0) 1) 3)
  (.cons (.whl (.logic true (.cmp .gt (.loc 1 5) (.int 0 6) 7) (.cons (.cmp .eq (.item (.loc 0 8) (.bin .sub (.loc 1 9) (.int 1 10) 11) 12) (.int 0 13) 14) .nil) 15) (.cons (.aug 1 .sub (.int 1 16) 17)
  .nil) 19)
  (.cons (.ret (.slTo (.loc 0 20) (.loc 1 21) 22) 24)
  .nil)))
noncomputable def D_is_even : DC := ⟨["a"], posn [(14, 15, 14, 16), (14, 11, 14, 14), (14, 11, 14, 17), (14, 21, 14, 22), (14, 11, 14, 22), (14, 26, 14, 27), (14, 28, 14, 29), (14, 26, 14, 30), (14, 33, 14, 34), (14, 26, 14, 34), (14, 38, 14, 39), (14, 26, 14, 39), (14, 11, 14, 39), (14, 4, 14, 39)]⟩
noncomputable def b_is_even : MSs := (.cons (.ret (.logic false (.cmp .eq (.len (.loc 0 0) 1) (.int 0 3) 4) (.cons (.cmp .eq (.bin .and (.item (.loc 0 5) (.int 0 6) 7) (.int 1 8) 9) (.int 0 10) 11) .nil) 12) 13)
  .nil)
noncomputable def D_compare : DC := ⟨["a", "b", "at"], posn [(16, 11, 16, 12), (16, 7, 16, 10), (16, 7, 16, 13), (16, 21, 16, 22), (16, 17, 16, 20), (16, 17, 16, 23), (16, 7, 16, 23), (17, 25, 17, 26), (17, 21, 17, 24), (17, 21, 17, 27), (17, 34, 17, 35), (17, 30, 17, 33), (17, 30, 17, 36), (17, 21, 17, 36), (17, 16, 17, 17), (17, 15, 17, 17), (17, 42, 17, 43), (17, 15, 17, 43), (17, 8, 17, 43), (16, 4, 17, 43), (18, 24, 18, 25), (18, 20, 18, 23), (18, 20, 18, 26), (18, 29, 18, 30), (18, 20, 18, 30), (18, 33, 18, 34), (18, 32, 18, 34), (18, 37, 18, 38), (18, 36, 18, 38), (19, 11, 19, 12), (19, 13, 19, 15), (19, 11, 19, 16), (19, 20, 19, 21), (19, 22, 19, 24), (19, 20, 19, 25), (19, 11, 19, 25), (20, 25, 20, 26), (20, 27, 20, 29), (20, 25, 20, 30), (20, 33, 20, 34), (20, 35, 20, 37), (20, 33, 20, 38), (20, 25, 20, 38), (20, 20, 20, 21), (20, 19, 20, 21), (20, 44, 20, 45), (20, 19, 20, 45), (20, 12, 20, 45), (19, 8, 20, 45), (18, 8, 18, 10), (18, 14, 18, 19), (18, 14, 18, 39), (18, 4, 20, 45), (21, 11, 21, 12), (21, 4, 21, 12)]⟩
noncomputable def b_compare : MSs := (.cons (.ifs (.cmp .ne (.len (.loc 0 0) 1) (.len (.loc 1 3) 4) 6) (.cons (.ret (.ife (.cmp .lt (.len (.loc 0 7) 8) (.len (.loc 1 10) 11) 13) (.neg (.int 1 14) 15) (.int 1 16) 17) 18)
  .nil) .nil 19)
  (.cons (.forR 2 (.bin .sub (.len (.loc 0 20) 21) (.int 1 23) 24) (.cons (.neg (.int 1 25) 26) (.cons (.neg (.int 1 27) 28) .nil)) (.cons (.ifs (.cmp .ne (.item (.loc 0 29) (.loc 2 30) 31) (.item (.loc 1 32) (.loc 2 33) 34) 35) (.cons (.ret (.ife (.cmp .lt (.item (.loc 0 36) (.loc 2 37) 38) (.item (.loc 1 39) (.loc 2 40) 41) 42) (.neg (.int 1 43) 44) (.int 1 45) 46) 47)
  .nil) .nil 48)
  .nil) 49)
  (.cons (.ret (.int 0 53) 54)
  .nil)))
noncomputable def D_add : DC := ⟨["a", "b", "w", "found", "carry", "mask", "at"], posn [(23, 11, 23, 12), (23, 7, 23, 10), (23, 7, 23, 13), (23, 20, 23, 21), (23, 16, 23, 19), (23, 16, 23, 22), (23, 7, 23, 22), (24, 16, 24, 17), (24, 19, 24, 20), (24, 8, 24, 9), (24, 11, 24, 12), (24, 8, 24, 12), (24, 15, 24, 21), (24, 8, 24, 21), (23, 4, 24, 21), (25, 26, 25, 28), (25, 30, 25, 31), (25, 34, 25, 35), (25, 39, 25, 40), (25, 34, 25, 40), (25, 44, 25, 45), (25, 33, 25, 45), (25, 4, 25, 9), (25, 11, 25, 16), (25, 18, 25, 22), (25, 4, 25, 22), (25, 25, 25, 46), (25, 4, 25, 46), (26, 24, 26, 25), (26, 20, 26, 23), (26, 20, 26, 26), (27, 17, 27, 18), (27, 19, 27, 21), (27, 17, 27, 22), (27, 25, 27, 26), (27, 27, 27, 29), (27, 25, 27, 30), (27, 17, 27, 30), (27, 8, 27, 13), (27, 8, 27, 30), (28, 21, 28, 26), (28, 29, 28, 33), (28, 21, 28, 33), (28, 8, 28, 13), (28, 8, 28, 20), (28, 8, 28, 34), (28, 8, 28, 34), (29, 18, 29, 19), (29, 8, 29, 13), (29, 8, 29, 19), (26, 8, 26, 10), (26, 14, 26, 19), (26, 14, 26, 27), (26, 4, 29, 19), (30, 24, 30, 25), (30, 20, 30, 23), (30, 20, 30, 26), (30, 32, 30, 33), (30, 28, 30, 31), (30, 28, 30, 34), (31, 17, 31, 18), (31, 19, 31, 21), (31, 17, 31, 22), (31, 8, 31, 13), (31, 8, 31, 22), (32, 21, 32, 26), (32, 29, 32, 33), (32, 21, 32, 33), (32, 8, 32, 13), (32, 8, 32, 20), (32, 8, 32, 34), (32, 8, 32, 34), (33, 18, 33, 19), (33, 8, 33, 13), (33, 8, 33, 19), (30, 8, 30, 10), (30, 14, 30, 19), (30, 14, 30, 35), (30, 4, 33, 19), (34, 7, 34, 12), (34, 15, 34, 16), (34, 7, 34, 16), (35, 21, 35, 26), (35, 8, 35, 13), (35, 8, 35, 20), (35, 8, 35, 27), (35, 8, 35, 27), (34, 4, 35, 27), (36, 11, 36, 16), (36, 4, 36, 16)]⟩
noncomputable def b_add : MSs := (.cons (.ifs (.cmp .lt (.len (.loc 0 0) 1) (.len (.loc 1 3) 4) 6) (.cons (.asg2 0 1 (.loc 1 7) (.loc 0 8) 9)
  .nil) .nil 14)
  (.cons (.asg3 3 4 5 (.nil true 15) (.int 0 16) (.bin .sub (.bin .shl (.int 1 17) (.loc 2 18) 19) (.int 1 20) 21) 22)
  (.cons (.forR 6 (.len (.loc 1 28) 29) .nil (.cons (.aug 4 .add (.bin .add (.item (.loc 0 31) (.loc 6 32) 33) (.item (.loc 1 34) (.loc 6 35) 36) 37) 38)
  (.cons (.app 3 (.bin .and (.loc 4 40) (.loc 5 41) 42) 43)
  (.cons (.aug 4 .shr (.loc 2 47) 48)
  .nil))) 50)
  (.cons (.forR 6 (.len (.loc 1 54) 55) (.cons (.len (.loc 0 57) 58) .nil) (.cons (.aug 4 .add (.item (.loc 0 60) (.loc 6 61) 62) 63)
  (.cons (.app 3 (.bin .and (.loc 4 65) (.loc 5 66) 67) 68)
  (.cons (.aug 4 .shr (.loc 2 72) 73)
  .nil))) 75)
  (.cons (.ifs (.cmp .gt (.loc 4 79) (.int 0 80) 81) (.cons (.app 3 (.loc 4 82) 83)
  .nil) .nil 87)
  (.cons (.ret (.loc 3 88) 89)
  .nil))))))
noncomputable def D_sub : DC := ⟨["a", "b", "w", "found", "borrow", "base", "at", "limb"], posn [(38, 15, 38, 16), (38, 18, 38, 19), (38, 7, 38, 14), (38, 7, 38, 20), (38, 23, 38, 24), (38, 7, 38, 24), (39, 14, 39, 24), (39, 25, 39, 39), (39, 14, 39, 40), (39, 8, 39, 40), (38, 4, 39, 40), (40, 27, 40, 29), (40, 31, 40, 32), (40, 34, 40, 35), (40, 39, 40, 40), (40, 34, 40, 40), (40, 4, 40, 9), (40, 11, 40, 17), (40, 19, 40, 23), (40, 4, 40, 23), (40, 26, 40, 41), (40, 4, 40, 41), (41, 24, 41, 25), (41, 20, 41, 23), (41, 20, 41, 26), (42, 15, 42, 16), (42, 17, 42, 19), (42, 15, 42, 20), (42, 23, 42, 29), (42, 15, 42, 29), (42, 42, 42, 44), (42, 51, 42, 52), (42, 47, 42, 50), (42, 47, 42, 53), (42, 42, 42, 53), (42, 33, 42, 34), (42, 35, 42, 37), (42, 33, 42, 38), (42, 59, 42, 60), (42, 33, 42, 60), (42, 15, 42, 61), (42, 8, 42, 12), (42, 8, 42, 61), (43, 22, 43, 26), (43, 29, 43, 30), (43, 22, 43, 30), (43, 17, 43, 18), (43, 36, 43, 37), (43, 17, 43, 37), (43, 8, 43, 14), (43, 8, 43, 37), (44, 36, 44, 40), (44, 43, 44, 44), (44, 36, 44, 44), (44, 21, 44, 25), (44, 28, 44, 32), (44, 21, 44, 32), (44, 50, 44, 54), (44, 21, 44, 54), (44, 8, 44, 13), (44, 8, 44, 20), (44, 8, 44, 55), (44, 8, 44, 55), (41, 8, 41, 10), (41, 14, 41, 19), (41, 14, 41, 27), (41, 4, 44, 55), (45, 18, 45, 23), (45, 11, 45, 17), (45, 11, 45, 24), (45, 4, 45, 24)]⟩
noncomputable def b_sub : MSs := (.cons (.ifs (.cmp .lt (.call 2 (.loc 0 0) (.cons (.loc 1 1) .nil) 2) (.int 0 4) 5) (.cons (.raise 0 (Str.ofString "below nought") 6)
  .nil) .nil 10)
  (.cons (.asg3 3 4 5 (.nil true 11) (.int 0 12) (.bin .shl (.int 1 13) (.loc 2 14) 15) 16)
  (.cons (.forR 6 (.len (.loc 0 22) 23) .nil (.cons (.asg 7 (.bin .sub (.bin .sub (.item (.loc 0 25) (.loc 6 26) 27) (.loc 4 28) 29) (.ife (.cmp .lt (.loc 6 30) (.len (.loc 1 31) 32) 34) (.item (.loc 1 35) (.loc 6 36) 37) (.int 0 38) 39) 40) 41)
  (.cons (.asg 4 (.ife (.cmp .lt (.loc 7 43) (.int 0 44) 45) (.int 1 46) (.int 0 47) 48) 49)
  (.cons (.app 3 (.ife (.cmp .lt (.loc 7 51) (.int 0 52) 53) (.bin .add (.loc 7 54) (.loc 5 55) 56) (.loc 7 57) 58) 59)
  .nil))) 63)
  (.cons (.ret (.call 0 (.loc 3 67) .nil 68) 70)
  .nil))))
noncomputable def D_lifted : DC := ⟨["a", "spot"], posn [(47, 33, 47, 34), (47, 29, 47, 32), (47, 29, 47, 35), (47, 38, 47, 39), (47, 29, 47, 39), (47, 12, 47, 13), (47, 17, 47, 21), (47, 11, 47, 14), (47, 11, 47, 21), (47, 24, 47, 25), (47, 11, 47, 25), (47, 45, 47, 47), (47, 11, 47, 47), (47, 4, 47, 47)]⟩
noncomputable def b_lifted : MSs := (.cons (.ret (.ife (.cmp .gt (.len (.loc 0 0) 1) (.int 0 3) 4) (.cat false (.rep false (.int 0 5) (.loc 1 6) 7) (.loc 0 9) 10) (.nil false 11) 12) 13)
  .nil)
noncomputable def D_mul_limb : DC := ⟨["a", "limb", "w", "found", "carry", "mask", "one"], posn [(49, 7, 49, 11), (49, 15, 49, 16), (49, 7, 49, 16), (50, 15, 50, 17), (50, 8, 50, 17), (49, 4, 50, 17), (51, 26, 51, 28), (51, 30, 51, 31), (51, 34, 51, 35), (51, 39, 51, 40), (51, 34, 51, 40), (51, 44, 51, 45), (51, 33, 51, 45), (51, 4, 51, 9), (51, 11, 51, 16), (51, 18, 51, 22), (51, 4, 51, 22), (51, 25, 51, 46), (51, 4, 51, 46), (52, 15, 52, 16), (53, 17, 53, 20), (53, 23, 53, 27), (53, 17, 53, 27), (53, 8, 53, 13), (53, 8, 53, 27), (54, 21, 54, 26), (54, 29, 54, 33), (54, 21, 54, 33), (54, 8, 54, 13), (54, 8, 54, 20), (54, 8, 54, 34), (54, 8, 54, 34), (55, 18, 55, 19), (55, 8, 55, 13), (55, 8, 55, 19), (52, 8, 52, 11), (52, 4, 55, 19), (56, 7, 56, 12), (56, 15, 56, 16), (56, 7, 56, 16), (57, 21, 57, 26), (57, 8, 57, 13), (57, 8, 57, 20), (57, 8, 57, 27), (57, 8, 57, 27), (56, 4, 57, 27), (58, 11, 58, 16), (58, 4, 58, 16)]⟩
noncomputable def b_mul_limb : MSs := (.cons (.ifs (.cmp .eq (.loc 1 0) (.int 0 1) 2) (.cons (.ret (.nil false 3) 4)
  .nil) .nil 5)
  (.cons (.asg3 3 4 5 (.nil true 6) (.int 0 7) (.bin .sub (.bin .shl (.int 1 8) (.loc 2 9) 10) (.int 1 11) 12) 13)
  (.cons (.forL 6 (.loc 0 19) (.cons (.aug 4 .add (.bin .mul (.loc 6 20) (.loc 1 21) 22) 23)
  (.cons (.app 3 (.bin .and (.loc 4 25) (.loc 5 26) 27) 28)
  (.cons (.aug 4 .shr (.loc 2 32) 33)
  .nil))) 35)
  (.cons (.ifs (.cmp .gt (.loc 4 37) (.int 0 38) 39) (.cons (.app 3 (.loc 4 40) 41)
  .nil) .nil 45)
  (.cons (.ret (.loc 3 46) 47)
  .nil)))))
noncomputable def D_shift_left : DC := ⟨["a", "n", "w", "spots", "few", "found", "carry", "mask", "one"], posn [(60, 11, 60, 12), (60, 7, 60, 10), (60, 7, 60, 13), (60, 17, 60, 18), (60, 7, 60, 18), (61, 15, 61, 17), (61, 8, 61, 17), (60, 4, 61, 17), (62, 18, 62, 19), (62, 23, 62, 24), (62, 18, 62, 24), (62, 26, 62, 27), (62, 30, 62, 31), (62, 26, 62, 31), (62, 4, 62, 9), (62, 11, 62, 14), (62, 4, 62, 14), (62, 17, 62, 32), (62, 4, 62, 32), (63, 27, 63, 28), (63, 32, 63, 37), (63, 26, 63, 29), (63, 26, 63, 37), (63, 39, 63, 40), (63, 43, 63, 44), (63, 48, 63, 49), (63, 43, 63, 49), (63, 53, 63, 54), (63, 42, 63, 54), (63, 4, 63, 9), (63, 11, 63, 16), (63, 18, 63, 22), (63, 4, 63, 22), (63, 25, 63, 55), (63, 4, 63, 55), (64, 15, 64, 16), (65, 17, 65, 20), (65, 24, 65, 27), (65, 17, 65, 27), (65, 8, 65, 13), (65, 8, 65, 27), (66, 21, 66, 26), (66, 29, 66, 33), (66, 21, 66, 33), (66, 8, 66, 13), (66, 8, 66, 20), (66, 8, 66, 34), (66, 8, 66, 34), (67, 18, 67, 19), (67, 8, 67, 13), (67, 8, 67, 19), (64, 8, 64, 11), (64, 4, 67, 19), (68, 7, 68, 12), (68, 15, 68, 16), (68, 7, 68, 16), (69, 21, 69, 26), (69, 8, 69, 13), (69, 8, 69, 20), (69, 8, 69, 27), (69, 8, 69, 27), (68, 4, 69, 27), (70, 11, 70, 16), (70, 4, 70, 16)]⟩
noncomputable def b_shift_left : MSs := (.cons (.ifs (.cmp .eq (.len (.loc 0 0) 1) (.int 0 3) 4) (.cons (.ret (.nil false 5) 6)
  .nil) .nil 7)
  (.cons (.asg2 3 4 (.bin .fdiv (.loc 1 8) (.loc 2 9) 10) (.bin .mod (.loc 1 11) (.loc 2 12) 13) 14)
  (.cons (.asg3 5 6 7 (.rep true (.int 0 19) (.loc 3 20) 21) (.int 0 23) (.bin .sub (.bin .shl (.int 1 24) (.loc 2 25) 26) (.int 1 27) 28) 29)
  (.cons (.forL 8 (.loc 0 35) (.cons (.aug 6 .or (.bin .shl (.loc 8 36) (.loc 4 37) 38) 39)
  (.cons (.app 5 (.bin .and (.loc 6 41) (.loc 7 42) 43) 44)
  (.cons (.aug 6 .shr (.loc 2 48) 49)
  .nil))) 51)
  (.cons (.ifs (.cmp .gt (.loc 6 53) (.int 0 54) 55) (.cons (.app 5 (.loc 6 56) 57)
  .nil) .nil 61)
  (.cons (.ret (.loc 5 62) 63)
  .nil))))))
noncomputable def D_inverse_limb : DC := ⟨["d", "w", "whole", "found", "sure"], posn [(73, 7, 73, 8), (73, 11, 73, 12), (73, 7, 73, 12), (73, 16, 73, 17), (73, 7, 73, 17), (74, 14, 74, 23), (74, 24, 74, 53), (74, 14, 74, 54), (74, 8, 74, 54), (73, 4, 74, 54), (75, 12, 75, 13), (75, 17, 75, 18), (75, 12, 75, 18), (75, 4, 75, 9), (75, 4, 75, 18), (76, 19, 76, 20), (76, 23, 76, 28), (76, 19, 76, 28), (76, 30, 76, 31), (76, 4, 76, 9), (76, 11, 76, 15), (76, 4, 76, 15), (76, 18, 76, 32), (76, 4, 76, 32), (77, 10, 77, 14), (77, 17, 77, 18), (77, 10, 77, 18), (78, 16, 78, 21), (78, 26, 78, 27), (78, 30, 78, 31), (78, 34, 78, 39), (78, 30, 78, 39), (78, 26, 78, 39), (78, 43, 78, 48), (78, 25, 78, 48), (78, 16, 78, 49), (78, 52, 78, 57), (78, 16, 78, 57), (78, 8, 78, 13), (78, 8, 78, 57), (79, 15, 79, 16), (79, 19, 79, 23), (79, 15, 79, 23), (79, 8, 79, 12), (79, 8, 79, 23), (77, 4, 79, 23), (80, 11, 80, 16), (80, 4, 80, 16)]⟩
noncomputable def b_inverse_limb : MSs := (.cons (.ifs (.cmp .eq (.bin .mod (.loc 0 0) (.int 2 1) 2) (.int 0 3) 4) (.cons (.raise 1 (Str.ofString "an even limb has no inverse") 5)
  .nil) .nil 9)
  (.cons (.asg 2 (.bin .shl (.int 1 10) (.loc 1 11) 12) 13)
  (.cons (.asg2 3 4 (.bin .mod (.loc 0 15) (.loc 2 16) 17) (.int 3 18) 19)
  (.cons (.whl (.cmp .lt (.loc 4 24) (.loc 1 25) 26) (.cons (.asg 3 (.bin .mod (.bin .mul (.loc 3 27) (.bin .mod (.bin .sub (.int 2 28) (.bin .mul (.loc 0 29) (.loc 3 30) 31) 32) (.loc 2 33) 34) 35) (.loc 2 36) 37) 38)
  (.cons (.asg 4 (.bin .mul (.int 2 40) (.loc 4 41) 42) 43)
  .nil)) 45)
  (.cons (.ret (.loc 3 46) 47)
  .nil)))))
noncomputable def D_doubled_rest : DC := ⟨["a", "m", "w", "found"], posn [(90, 23, 90, 24), (90, 26, 90, 27), (90, 29, 90, 30), (90, 12, 90, 22), (90, 12, 90, 31), (90, 4, 90, 9), (90, 4, 90, 31), (91, 39, 91, 44), (91, 46, 91, 47), (91, 31, 91, 38), (91, 31, 91, 48), (91, 52, 91, 53), (91, 31, 91, 53), (91, 15, 91, 20), (91, 22, 91, 23), (91, 25, 91, 26), (91, 11, 91, 14), (91, 11, 91, 27), (91, 59, 91, 64), (91, 11, 91, 64), (91, 4, 91, 64)]⟩
noncomputable def b_doubled_rest : MSs := (.cons (.asg 3 (.call 7 (.loc 0 0) (.cons (.int 1 1) (.cons (.loc 2 2) .nil)) 3) 5)
  (.cons (.ret (.ife (.cmp .ge (.call 2 (.loc 3 7) (.cons (.loc 1 8) .nil) 9) (.int 0 11) 12) (.call 4 (.loc 3 13) (.cons (.loc 1 14) (.cons (.loc 2 15) .nil)) 16) (.loc 3 18) 19) 20)
  .nil))
noncomputable def D_mont_make : DC := ⟨["m", "w", "one", "turn", "square"], posn [(93, 15, 93, 16), (93, 7, 93, 14), (93, 7, 93, 17), (94, 14, 94, 24), (94, 25, 94, 42), (94, 14, 94, 43), (94, 8, 94, 43), (93, 4, 94, 43), (95, 16, 95, 17), (95, 22, 95, 23), (95, 21, 95, 24), (95, 16, 95, 24), (95, 10, 95, 12), (95, 31, 95, 32), (95, 30, 95, 33), (95, 10, 95, 33), (95, 4, 95, 7), (95, 4, 95, 33), (96, 26, 96, 27), (96, 22, 96, 25), (96, 22, 96, 28), (96, 31, 96, 32), (96, 22, 96, 32), (97, 27, 97, 30), (97, 32, 97, 33), (97, 35, 97, 36), (97, 14, 97, 26), (97, 14, 97, 37), (97, 8, 97, 11), (97, 8, 97, 37), (96, 8, 96, 12), (96, 16, 96, 21), (96, 16, 96, 33), (96, 4, 97, 37), (98, 13, 98, 16), (98, 4, 98, 10), (98, 4, 98, 16), (99, 26, 99, 27), (99, 22, 99, 25), (99, 22, 99, 28), (99, 31, 99, 32), (99, 22, 99, 32), (100, 30, 100, 36), (100, 38, 100, 39), (100, 41, 100, 42), (100, 17, 100, 29), (100, 17, 100, 43), (100, 8, 100, 14), (100, 8, 100, 43), (99, 8, 99, 12), (99, 16, 99, 21), (99, 16, 99, 33), (99, 4, 100, 43), (101, 22, 101, 23), (101, 39, 101, 40), (101, 41, 101, 42), (101, 39, 101, 43), (101, 45, 101, 46), (101, 26, 101, 38), (101, 26, 101, 47), (101, 25, 101, 47), (101, 51, 101, 52), (101, 56, 101, 57), (101, 51, 101, 57), (101, 61, 101, 62), (101, 50, 101, 62), (101, 25, 101, 62), (101, 64, 101, 67), (101, 69, 101, 75), (101, 11, 101, 21), (101, 11, 101, 76), (101, 4, 101, 76)]⟩
noncomputable def b_mont_make : MSs := (.cons (.ifs (.call 1 (.loc 0 0) .nil 1) (.cons (.raise 0 (Str.ofString "an even modulus") 3)
  .nil) .nil 7)
  (.cons (.asg 2 (.ife (.cmp .eq (.loc 0 8) (.one (.int 1 9) 10) 11) (.nil false 12) (.one (.int 1 13) 14) 15) 16)
  (.cons (.forR 3 (.bin .mul (.len (.loc 0 18) 19) (.loc 1 21) 22) .nil (.cons (.asg 2 (.call 9 (.loc 2 23) (.cons (.loc 0 24) (.cons (.loc 1 25) .nil)) 26) 28)
  .nil) 30)
  (.cons (.asg 4 (.loc 2 34) 35)
  (.cons (.forR 3 (.bin .mul (.len (.loc 0 37) 38) (.loc 1 40) 41) .nil (.cons (.asg 4 (.call 9 (.loc 4 42) (.cons (.loc 0 43) (.cons (.loc 1 44) .nil)) 45) 47)
  .nil) 49)
  (.cons (.ret (.mont (.loc 0 53) (.bin .and (.neg (.call 8 (.item (.loc 0 54) (.int 0 55) 56) (.cons (.loc 1 57) .nil) 58) 60) (.bin .sub (.bin .shl (.int 1 61) (.loc 1 62) 63) (.int 1 64) 65) 66) (.loc 2 67) (.loc 4 68) 69) 71)
  .nil))))))
noncomputable def D_add_row : DC := ⟨["rest", "m", "limb", "at", "w", "carry", "mask", "one"], posn [(103, 19, 103, 20), (103, 23, 103, 24), (103, 28, 103, 29), (103, 23, 103, 29), (103, 33, 103, 34), (103, 22, 103, 34), (103, 4, 103, 9), (103, 11, 103, 15), (103, 4, 103, 15), (103, 18, 103, 35), (103, 4, 103, 35), (104, 15, 104, 16), (105, 17, 105, 21), (105, 22, 105, 24), (105, 17, 105, 25), (105, 28, 105, 31), (105, 34, 105, 38), (105, 28, 105, 38), (105, 17, 105, 38), (105, 8, 105, 13), (105, 8, 105, 38), (106, 13, 106, 15), (106, 19, 106, 24), (106, 27, 106, 31), (106, 19, 106, 31), (106, 8, 106, 12), (106, 8, 106, 16), (106, 8, 106, 31), (107, 18, 107, 19), (107, 8, 107, 13), (107, 8, 107, 19), (108, 14, 108, 15), (108, 8, 108, 10), (108, 8, 108, 15), (104, 8, 104, 11), (104, 4, 108, 15), (109, 10, 109, 15), (109, 18, 109, 19), (109, 10, 109, 19), (110, 17, 110, 21), (110, 22, 110, 24), (110, 17, 110, 25), (110, 8, 110, 13), (110, 8, 110, 25), (111, 13, 111, 15), (111, 19, 111, 24), (111, 27, 111, 31), (111, 19, 111, 31), (111, 8, 111, 12), (111, 8, 111, 16), (111, 8, 111, 31), (112, 18, 112, 19), (112, 8, 112, 13), (112, 8, 112, 19), (113, 14, 113, 15), (113, 8, 113, 10), (113, 8, 113, 15), (109, 4, 113, 15)]⟩
noncomputable def b_add_row : MSs := (.cons (.asg2 5 6 (.int 0 0) (.bin .sub (.bin .shl (.int 1 1) (.loc 4 2) 3) (.int 1 4) 5) 6)
  (.cons (.forL 7 (.loc 1 11) (.cons (.aug 5 .add (.bin .add (.item (.loc 0 12) (.loc 3 13) 14) (.bin .mul (.loc 7 15) (.loc 2 16) 17) 18) 19)
  (.cons (.asgI 0 (.loc 3 21) (.bin .and (.loc 5 22) (.loc 6 23) 24) 25)
  (.cons (.aug 5 .shr (.loc 4 28) 29)
  (.cons (.aug 3 .add (.int 1 31) 32)
  .nil)))) 34)
  (.cons (.whl (.cmp .gt (.loc 5 36) (.int 0 37) 38) (.cons (.aug 5 .add (.item (.loc 0 39) (.loc 3 40) 41) 42)
  (.cons (.asgI 0 (.loc 3 44) (.bin .and (.loc 5 45) (.loc 6 46) 47) 48)
  (.cons (.aug 5 .shr (.loc 4 51) 52)
  (.cons (.aug 3 .add (.int 1 54) 55)
  .nil)))) 57)
  .nil)))
noncomputable def D_taken_once : DC := ⟨["a", "m", "w"], posn [(115, 35, 115, 36), (115, 38, 115, 39), (115, 27, 115, 34), (115, 27, 115, 40), (115, 44, 115, 45), (115, 27, 115, 45), (115, 15, 115, 16), (115, 18, 115, 19), (115, 21, 115, 22), (115, 11, 115, 14), (115, 11, 115, 23), (115, 51, 115, 52), (115, 11, 115, 52), (115, 4, 115, 52)]⟩
noncomputable def b_taken_once : MSs := (.cons (.ret (.ife (.cmp .ge (.call 2 (.loc 0 0) (.cons (.loc 1 1) .nil) 2) (.int 0 4) 5) (.call 4 (.loc 0 6) (.cons (.loc 1 7) (.cons (.loc 2 8) .nil)) 9) (.loc 0 11) 12) 13)
  .nil)
noncomputable def D_redc : DC := ⟨["a", "told", "w", "m", "size", "rest", "mask", "at"], posn [(117, 8, 117, 12), (117, 8, 117, 20), (117, 4, 117, 5), (117, 4, 117, 20), (118, 15, 118, 16), (118, 11, 118, 14), (118, 11, 118, 17), (118, 4, 118, 8), (118, 4, 118, 17), (119, 15, 119, 16), (119, 25, 119, 26), (119, 28, 119, 32), (119, 18, 119, 24), (119, 18, 119, 33), (119, 7, 119, 14), (119, 7, 119, 34), (119, 38, 119, 39), (119, 7, 119, 39), (120, 14, 120, 24), (120, 25, 120, 63), (120, 14, 120, 64), (120, 8, 120, 64), (119, 4, 120, 64), (121, 18, 121, 19), (121, 23, 121, 24), (121, 29, 121, 30), (121, 33, 121, 37), (121, 29, 121, 37), (121, 40, 121, 41), (121, 29, 121, 41), (121, 48, 121, 49), (121, 44, 121, 47), (121, 44, 121, 50), (121, 29, 121, 50), (121, 22, 121, 25), (121, 22, 121, 51), (121, 18, 121, 51), (121, 54, 121, 55), (121, 59, 121, 60), (121, 54, 121, 60), (121, 64, 121, 65), (121, 53, 121, 65), (121, 4, 121, 8), (121, 10, 121, 14), (121, 4, 121, 14), (121, 17, 121, 66), (121, 4, 121, 66), (122, 20, 122, 24), (123, 16, 123, 20), (123, 22, 123, 23), (123, 25, 123, 29), (123, 30, 123, 32), (123, 25, 123, 33), (123, 36, 123, 40), (123, 36, 123, 46), (123, 25, 123, 46), (123, 49, 123, 53), (123, 25, 123, 53), (123, 55, 123, 57), (123, 59, 123, 60), (123, 8, 123, 15), (123, 8, 123, 61), (123, 8, 123, 61), (122, 8, 122, 10), (122, 14, 122, 19), (122, 14, 122, 25), (122, 4, 123, 61), (124, 29, 124, 33), (124, 34, 124, 38), (124, 34, 124, 39), (124, 29, 124, 40), (124, 22, 124, 28), (124, 22, 124, 41), (124, 43, 124, 44), (124, 46, 124, 47), (124, 11, 124, 21), (124, 11, 124, 48), (124, 4, 124, 48)]⟩
noncomputable def b_redc : MSs := (.cons (.asg 3 (.attr (.loc 1 0) 0 1) 2)
  (.cons (.asg 4 (.len (.loc 3 4) 5) 7)
  (.cons (.ifs (.cmp .ge (.call 2 (.loc 0 9) (.cons (.call 5 (.loc 3 10) (.cons (.loc 4 11) .nil) 12) .nil) 14) (.int 0 16) 17) (.cons (.raise 0 (Str.ofString "too great a number for one reduction") 18)
  .nil) .nil 22)
  (.cons (.asg2 5 6 (.cat true (.loc 0 23) (.rep false (.int 0 24) (.bin .sub (.bin .add (.bin .mul (.int 2 25) (.loc 4 26) 27) (.int 1 28) 29) (.len (.loc 0 30) 31) 33) 34) 36) (.bin .sub (.bin .shl (.int 1 37) (.loc 2 38) 39) (.int 1 40) 41) 42)
  (.cons (.forR 7 (.loc 4 47) .nil (.cons (.exp (.call 11 (.loc 5 48) (.cons (.loc 3 49) (.cons (.bin .and (.bin .mul (.item (.loc 5 50) (.loc 7 51) 52) (.attr (.loc 1 53) 1 54) 55) (.loc 6 56) 57) (.cons (.loc 7 58) (.cons (.loc 2 59) .nil)))) 60) 62)
  .nil) 63)
  (.cons (.ret (.call 12 (.call 0 (.slFr (.loc 5 67) (.loc 4 68) 69) .nil 71) (.cons (.loc 3 73) (.cons (.loc 2 74) .nil)) 75) 77)
  .nil))))))
noncomputable def D_to_mont : DC := ⟨["a", "told", "w", "mul"], posn [(126, 15, 126, 16), (126, 18, 126, 22), (126, 18, 126, 30), (126, 7, 126, 14), (126, 7, 126, 31), (126, 35, 126, 36), (126, 7, 126, 36), (127, 14, 127, 24), (127, 25, 127, 48), (127, 14, 127, 49), (127, 8, 127, 49), (126, 4, 127, 49), (128, 20, 128, 21), (128, 23, 128, 27), (128, 23, 128, 34), (128, 36, 128, 37), (128, 16, 128, 19), (128, 16, 128, 38), (128, 40, 128, 44), (128, 46, 128, 47), (128, 11, 128, 15), (128, 11, 128, 48), (128, 4, 128, 48)]⟩
noncomputable def b_to_mont : MSs := (.cons (.ifs (.cmp .ge (.call 2 (.loc 0 0) (.cons (.attr (.loc 1 1) 0 2) .nil) 3) (.int 0 5) 6) (.cons (.raise 0 (Str.ofString "not below the modulus") 7)
  .nil) .nil 11)
  (.cons (.ret (.call 13 (.callv 3 (.loc 0 12) (.cons (.attr (.loc 1 13) 3 14) (.cons (.loc 2 15) .nil)) 16) (.cons (.loc 1 18) (.cons (.loc 2 19) .nil)) 20) 22)
  .nil))
noncomputable def D_from_mont : DC := ⟨["a", "told", "w"], posn [(130, 16, 130, 17), (130, 19, 130, 23), (130, 25, 130, 26), (130, 11, 130, 15), (130, 11, 130, 27), (130, 4, 130, 27)]⟩
noncomputable def b_from_mont : MSs := (.cons (.ret (.call 13 (.loc 0 0) (.cons (.loc 1 1) (.cons (.loc 2 2) .nil)) 3) 5)
  .nil)
noncomputable def D_mont_mul : DC := ⟨["a", "b", "told", "w", "mul"], posn [(132, 20, 132, 21), (132, 23, 132, 24), (132, 26, 132, 27), (132, 16, 132, 19), (132, 16, 132, 28), (132, 30, 132, 34), (132, 36, 132, 37), (132, 11, 132, 15), (132, 11, 132, 38), (132, 4, 132, 38)]⟩
noncomputable def b_mont_mul : MSs := (.cons (.ret (.call 13 (.callv 4 (.loc 0 0) (.cons (.loc 1 1) (.cons (.loc 3 2) .nil)) 3) (.cons (.loc 2 5) (.cons (.loc 3 6) .nil)) 7) 9)
  .nil)
noncomputable def D_mont_rows : DC := ⟨["a", "b", "told", "w", "m", "size", "mask", "rest", "at"], posn [(134, 8, 134, 12), (134, 8, 134, 20), (134, 4, 134, 5), (134, 4, 134, 20), (135, 22, 135, 23), (135, 18, 135, 21), (135, 18, 135, 24), (135, 27, 135, 28), (135, 32, 135, 33), (135, 27, 135, 33), (135, 37, 135, 38), (135, 26, 135, 38), (135, 4, 135, 8), (135, 10, 135, 14), (135, 4, 135, 14), (135, 17, 135, 39), (135, 4, 135, 39), (136, 12, 136, 13), (136, 18, 136, 22), (136, 25, 136, 26), (136, 18, 136, 26), (136, 11, 136, 14), (136, 11, 136, 27), (136, 4, 136, 8), (136, 4, 136, 27), (137, 20, 137, 24), (138, 16, 138, 20), (138, 22, 138, 23), (138, 34, 138, 36), (138, 43, 138, 44), (138, 39, 138, 42), (138, 39, 138, 45), (138, 34, 138, 45), (138, 25, 138, 26), (138, 27, 138, 29), (138, 25, 138, 30), (138, 51, 138, 52), (138, 25, 138, 52), (138, 54, 138, 55), (138, 57, 138, 58), (138, 8, 138, 15), (138, 8, 138, 59), (138, 8, 138, 59), (139, 16, 139, 20), (139, 22, 139, 23), (139, 25, 139, 29), (139, 30, 139, 31), (139, 25, 139, 32), (139, 35, 139, 39), (139, 35, 139, 45), (139, 25, 139, 45), (139, 48, 139, 52), (139, 25, 139, 52), (139, 54, 139, 55), (139, 57, 139, 58), (139, 8, 139, 15), (139, 8, 139, 59), (139, 8, 139, 59), (140, 15, 140, 19), (140, 20, 140, 21), (140, 20, 140, 22), (140, 15, 140, 23), (140, 27, 140, 28), (140, 26, 140, 29), (140, 15, 140, 29), (140, 8, 140, 12), (140, 8, 140, 29), (137, 8, 137, 10), (137, 14, 137, 19), (137, 14, 137, 25), (137, 4, 140, 29), (141, 29, 141, 33), (141, 22, 141, 28), (141, 22, 141, 34), (141, 36, 141, 37), (141, 39, 141, 40), (141, 11, 141, 21), (141, 11, 141, 41), (141, 4, 141, 41)]⟩
noncomputable def b_mont_rows : MSs := (.cons (.asg 4 (.attr (.loc 2 0) 0 1) 2)
  (.cons (.asg2 5 6 (.len (.loc 4 4) 5) (.bin .sub (.bin .shl (.int 1 7) (.loc 3 8) 9) (.int 1 10) 11) 12)
  (.cons (.asg 7 (.rep true (.int 0 17) (.bin .add (.loc 5 18) (.int 2 19) 20) 21) 23)
  (.cons (.forR 8 (.loc 5 25) .nil (.cons (.exp (.call 11 (.loc 7 26) (.cons (.loc 1 27) (.cons (.ife (.cmp .lt (.loc 8 28) (.len (.loc 0 29) 30) 32) (.item (.loc 0 33) (.loc 8 34) 35) (.int 0 36) 37) (.cons (.int 0 38) (.cons (.loc 3 39) .nil)))) 40) 42)
  (.cons (.exp (.call 11 (.loc 7 43) (.cons (.loc 4 44) (.cons (.bin .and (.bin .mul (.item (.loc 7 45) (.int 0 46) 47) (.attr (.loc 2 48) 1 49) 50) (.loc 6 51) 52) (.cons (.int 0 53) (.cons (.loc 3 54) .nil)))) 55) 57)
  (.cons (.asg 7 (.cat true (.slFr (.loc 7 58) (.int 1 59) 60) (.one (.int 0 62) 63) 64) 65)
  .nil))) 67)
  (.cons (.ret (.call 12 (.call 0 (.loc 7 71) .nil 72) (.cons (.loc 4 74) (.cons (.loc 3 75) .nil)) 76) 78)
  .nil)))))
noncomputable def D_scaled_rest : DC := ⟨["a", "m", "w", "limb", "found", "spot"], posn [(143, 12, 143, 14), (143, 4, 143, 9), (143, 4, 143, 14), (144, 22, 144, 23), (144, 26, 144, 27), (144, 22, 144, 27), (144, 30, 144, 31), (144, 29, 144, 31), (144, 34, 144, 35), (144, 33, 144, 35), (145, 29, 145, 34), (145, 36, 145, 37), (145, 39, 145, 40), (145, 16, 145, 28), (145, 16, 145, 41), (145, 8, 145, 13), (145, 8, 145, 41), (146, 11, 146, 15), (146, 19, 146, 23), (146, 11, 146, 23), (146, 26, 146, 27), (146, 11, 146, 27), (146, 31, 146, 32), (146, 11, 146, 32), (147, 35, 147, 40), (147, 42, 147, 43), (147, 45, 147, 46), (147, 31, 147, 34), (147, 31, 147, 47), (147, 49, 147, 50), (147, 52, 147, 53), (147, 20, 147, 30), (147, 20, 147, 54), (147, 12, 147, 17), (147, 12, 147, 54), (146, 8, 147, 54), (144, 8, 144, 12), (144, 16, 144, 21), (144, 16, 144, 36), (144, 4, 147, 54), (148, 11, 148, 16), (148, 4, 148, 16)]⟩
noncomputable def b_scaled_rest : MSs := (.cons (.asg 4 (.nil false 0) 1)
  (.cons (.forR 5 (.bin .sub (.loc 2 3) (.int 1 4) 5) (.cons (.neg (.int 1 6) 7) (.cons (.neg (.int 1 8) 9) .nil)) (.cons (.asg 4 (.call 9 (.loc 4 10) (.cons (.loc 1 11) (.cons (.loc 2 12) .nil)) 13) 15)
  (.cons (.ifs (.cmp .eq (.bin .and (.bin .shr (.loc 3 17) (.loc 5 18) 19) (.int 1 20) 21) (.int 1 22) 23) (.cons (.asg 4 (.call 12 (.call 3 (.loc 4 24) (.cons (.loc 0 25) (.cons (.loc 2 26) .nil)) 27) (.cons (.loc 1 29) (.cons (.loc 2 30) .nil)) 31) 33)
  .nil) .nil 35)
  .nil)) 36)
  (.cons (.ret (.loc 4 40) 41)
  .nil)))
noncomputable def D_check_mont : DC := ⟨["told", "w", "m"], posn [(150, 8, 150, 12), (150, 8, 150, 20), (150, 4, 150, 5), (150, 4, 150, 20), (151, 17, 151, 18), (151, 19, 151, 20), (151, 17, 151, 21), (151, 16, 151, 22), (151, 24, 151, 28), (151, 24, 151, 34), (151, 36, 151, 37), (151, 7, 151, 15), (151, 7, 151, 38), (151, 40, 151, 41), (151, 39, 151, 41), (151, 7, 151, 42), (151, 48, 151, 49), (151, 53, 151, 54), (151, 48, 151, 54), (151, 58, 151, 59), (151, 47, 151, 59), (151, 46, 151, 60), (151, 7, 151, 60), (152, 15, 152, 20), (152, 8, 152, 20), (151, 4, 152, 20), (153, 16, 153, 20), (153, 16, 153, 27), (153, 29, 153, 33), (153, 35, 153, 36), (153, 11, 153, 15), (153, 11, 153, 37), (153, 41, 153, 45), (153, 41, 153, 49), (153, 11, 153, 49), (153, 59, 153, 63), (153, 59, 153, 67), (153, 69, 153, 73), (153, 75, 153, 76), (153, 54, 153, 58), (153, 54, 153, 77), (153, 88, 153, 89), (153, 94, 153, 95), (153, 93, 153, 96), (153, 88, 153, 96), (153, 82, 153, 84), (153, 103, 153, 104), (153, 102, 153, 105), (153, 82, 153, 105), (153, 54, 153, 106), (153, 11, 153, 106), (153, 4, 153, 106)]⟩
noncomputable def b_check_mont : MSs := (.cons (.asg 2 (.attr (.loc 0 0) 0 1) 2)
  (.cons (.ifs (.cmp .ne (.slTo (.call 6 (.one (.item (.loc 2 4) (.int 0 5) 6) 7) (.cons (.attr (.loc 0 8) 1 9) (.cons (.loc 1 10) .nil)) 11) (.int 1 13) 14) (.one (.bin .sub (.bin .shl (.int 1 16) (.loc 1 17) 18) (.int 1 19) 20) 21) 22) (.cons (.ret (.bool false 23) 24)
  .nil) .nil 25)
  (.cons (.ret (.logic true (.cmp .eq (.call 13 (.attr (.loc 0 26) 3 27) (.cons (.loc 0 28) (.cons (.loc 1 29) .nil)) 30) (.attr (.loc 0 32) 2 33) 34) (.cons (.cmp .eq (.call 13 (.attr (.loc 0 35) 2 36) (.cons (.loc 0 37) (.cons (.loc 1 38) .nil)) 39) (.ife (.cmp .eq (.loc 2 41) (.one (.int 1 42) 43) 44) (.nil false 45) (.one (.int 1 46) 47) 48) 49) .nil) 50) 51)
  .nil)))
noncomputable def D_law_row : DC := ⟨["number", "w", "found"], posn [(156, 12, 156, 14), (156, 4, 156, 9), (156, 4, 156, 14), (157, 10, 157, 16), (157, 19, 157, 20), (157, 10, 157, 20), (158, 21, 158, 27), (158, 30, 158, 31), (158, 35, 158, 36), (158, 30, 158, 36), (158, 21, 158, 36), (158, 8, 158, 13), (158, 8, 158, 20), (158, 8, 158, 37), (158, 8, 158, 37), (159, 17, 159, 23), (159, 27, 159, 28), (159, 32, 159, 33), (159, 27, 159, 33), (159, 17, 159, 33), (159, 8, 159, 14), (159, 8, 159, 33), (157, 4, 159, 33), (160, 11, 160, 16), (160, 4, 160, 16)]⟩
noncomputable def b_law_row : MSs := (.cons (.asg 2 (.nil true 0) 1)
  (.cons (.whl (.cmp .gt (.loc 0 3) (.int 0 4) 5) (.cons (.app 2 (.bin .mod (.loc 0 6) (.bin .pow (.int 2 7) (.loc 1 8) 9) 10) 11)
  (.cons (.asg 0 (.bin .fdiv (.loc 0 15) (.bin .pow (.int 2 16) (.loc 1 17) 18) 19) 20)
  .nil)) 22)
  (.cons (.ret (.loc 2 23) 24)
  .nil)))
noncomputable def D_law_number : DC := ⟨["row", "w", "found", "limb"], posn [(162, 12, 162, 13), (162, 4, 162, 9), (162, 4, 162, 13), (163, 25, 163, 28), (164, 16, 164, 21), (164, 24, 164, 25), (164, 29, 164, 30), (164, 24, 164, 30), (164, 16, 164, 30), (164, 33, 164, 37), (164, 16, 164, 37), (164, 8, 164, 13), (164, 8, 164, 37), (163, 8, 163, 12), (163, 16, 163, 24), (163, 16, 163, 29), (163, 4, 164, 37), (165, 11, 165, 16), (165, 4, 165, 16)]⟩
noncomputable def b_law_number : MSs := (.cons (.asg 2 (.int 0 0) 1)
  (.cons (.forV 3 (.loc 0 3) (.cons (.asg 2 (.bin .add (.bin .mul (.loc 2 4) (.bin .pow (.int 2 5) (.loc 1 6) 7) 8) (.loc 3 9) 10) 11)
  .nil) 13)
  (.cons (.ret (.loc 2 17) 18)
  .nil)))
noncomputable def D_law_mul : DC := ⟨["a", "b", "w"], posn [(167, 32, 167, 33), (167, 35, 167, 36), (167, 20, 167, 31), (167, 20, 167, 37), (167, 52, 167, 53), (167, 55, 167, 56), (167, 40, 167, 51), (167, 40, 167, 57), (167, 20, 167, 57), (167, 59, 167, 60), (167, 11, 167, 19), (167, 11, 167, 61), (167, 4, 167, 61)]⟩
noncomputable def b_law_mul : MSs := (.cons (.ret (.call 20 (.bin .mul (.call 21 (.loc 0 0) (.cons (.loc 2 1) .nil) 2) (.call 21 (.loc 1 4) (.cons (.loc 2 5) .nil) 6) 8) (.cons (.loc 2 9) .nil) 10) 12)
  .nil)
noncomputable def D_law_draw : DC := ⟨["box", "many"], posn [(169, 8, 169, 9), (169, 13, 169, 16), (169, 17, 169, 18), (169, 13, 169, 19), (169, 22, 169, 23), (169, 13, 169, 23), (169, 4, 169, 7), (169, 4, 169, 10), (169, 4, 169, 23), (170, 7, 170, 10), (170, 11, 170, 12), (170, 7, 170, 13), (170, 20, 170, 23), (170, 24, 170, 25), (170, 20, 170, 26), (170, 16, 170, 19), (170, 16, 170, 27), (170, 7, 170, 27), (171, 19, 171, 22), (171, 23, 171, 24), (171, 19, 171, 25), (171, 26, 171, 29), (171, 30, 171, 31), (171, 26, 171, 32), (171, 19, 171, 33), (171, 15, 171, 18), (171, 15, 171, 34), (171, 37, 171, 41), (171, 15, 171, 41), (171, 8, 171, 41), (170, 4, 171, 41), (172, 8, 172, 9), (172, 14, 172, 17), (172, 18, 172, 19), (172, 14, 172, 20), (172, 23, 172, 42), (172, 14, 172, 42), (172, 45, 172, 64), (172, 14, 172, 64), (172, 67, 172, 70), (172, 71, 172, 72), (172, 67, 172, 73), (172, 14, 172, 73), (172, 77, 172, 78), (172, 82, 172, 84), (172, 77, 172, 84), (172, 13, 172, 84), (172, 4, 172, 7), (172, 4, 172, 10), (172, 4, 172, 84), (173, 39, 173, 43), (173, 46, 173, 47), (173, 51, 173, 53), (173, 46, 173, 53), (173, 39, 173, 53), (173, 11, 173, 14), (173, 15, 173, 16), (173, 11, 173, 17), (173, 21, 173, 22), (173, 26, 173, 28), (173, 21, 173, 28), (173, 11, 173, 28), (173, 31, 173, 35), (173, 11, 173, 35), (173, 60, 173, 63), (173, 64, 173, 65), (173, 60, 173, 66), (173, 69, 173, 70), (173, 74, 173, 76), (173, 69, 173, 76), (173, 60, 173, 76), (173, 79, 173, 82), (173, 83, 173, 84), (173, 79, 173, 85), (173, 89, 173, 90), (173, 79, 173, 90), (173, 60, 173, 90), (173, 94, 173, 95), (173, 99, 173, 101), (173, 94, 173, 101), (173, 59, 173, 101), (173, 104, 173, 108), (173, 59, 173, 108), (173, 11, 173, 108), (173, 4, 173, 108)]⟩
noncomputable def b_law_draw : MSs := (.cons (.asgI 0 (.int 0 0) (.bin .add (.item (.loc 0 1) (.int 0 2) 3) (.int 1 4) 5) 6)
  (.cons (.ifs (.cmp .lt (.item (.loc 0 9) (.int 0 10) 11) (.len (.item (.loc 0 12) (.int 1 13) 14) 15) 17) (.cons (.ret (.bin .mod (.abs (.item (.item (.loc 0 18) (.int 1 19) 20) (.item (.loc 0 21) (.int 0 22) 23) 24) 25) (.loc 1 27) 28) 29)
  .nil) .nil 30)
  (.cons (.asgI 0 (.int 2 31) (.bin .mod (.bin .add (.bin .add (.bin .mul (.item (.loc 0 32) (.int 2 33) 34) (.int 6364136223846793005 35) 36) (.int 1442695040888963407 37) 38) (.item (.loc 0 39) (.int 0 40) 41) 42) (.bin .pow (.int 2 43) (.int 64 44) 45) 46) 47)
  (.cons (.ret (.ife (.cmp .lt (.loc 1 50) (.bin .pow (.int 2 51) (.int 40 52) 53) 54) (.bin .mod (.bin .fdiv (.item (.loc 0 55) (.int 2 56) 57) (.bin .pow (.int 2 58) (.int 16 59) 60) 61) (.loc 1 62) 63) (.bin .mod (.bin .mul (.bin .add (.bin .mul (.item (.loc 0 64) (.int 2 65) 66) (.bin .pow (.int 2 67) (.int 64 68) 69) 70) (.bin .fdiv (.item (.loc 0 71) (.int 2 72) 73) (.int 3 74) 75) 76) (.bin .pow (.int 2 77) (.int 40 78) 79) 80) (.loc 1 81) 82) 83) 84)
  .nil))))
noncomputable def D_law_size : DC := ⟨["box", "w", "most", "limbs", "form"], posn [(175, 12, 175, 13), (175, 26, 175, 29), (175, 31, 175, 35), (175, 16, 175, 25), (175, 16, 175, 36), (175, 12, 175, 36), (175, 4, 175, 9), (175, 4, 175, 36), (176, 21, 176, 24), (176, 26, 176, 27), (176, 11, 176, 20), (176, 11, 176, 28), (176, 4, 176, 8), (176, 4, 176, 28), (177, 7, 177, 11), (177, 14, 177, 15), (177, 7, 177, 15), (178, 15, 178, 19), (178, 8, 178, 19), (177, 4, 178, 19), (179, 7, 179, 11), (179, 14, 179, 15), (179, 7, 179, 15), (180, 15, 180, 16), (180, 38, 180, 42), (180, 46, 180, 47), (180, 38, 180, 47), (180, 21, 180, 22), (180, 25, 180, 30), (180, 21, 180, 30), (180, 33, 180, 34), (180, 21, 180, 34), (180, 53, 180, 54), (180, 58, 180, 63), (180, 66, 180, 67), (180, 58, 180, 67), (180, 53, 180, 68), (180, 21, 180, 68), (180, 15, 180, 69), (180, 78, 180, 82), (180, 86, 180, 87), (180, 78, 180, 87), (180, 73, 180, 74), (180, 93, 180, 94), (180, 97, 180, 98), (180, 93, 180, 98), (180, 73, 180, 98), (180, 15, 180, 99), (180, 8, 180, 99), (179, 4, 180, 99), (181, 35, 181, 39), (181, 43, 181, 44), (181, 35, 181, 44), (181, 11, 181, 12), (181, 17, 181, 18), (181, 21, 181, 26), (181, 17, 181, 26), (181, 11, 181, 27), (181, 30, 181, 31), (181, 11, 181, 31), (181, 60, 181, 63), (181, 65, 181, 66), (181, 71, 181, 72), (181, 75, 181, 80), (181, 71, 181, 80), (181, 65, 181, 81), (181, 50, 181, 59), (181, 50, 181, 82), (181, 11, 181, 82), (181, 4, 181, 82)]⟩
noncomputable def b_law_size : MSs := (.cons (.asg 3 (.bin .add (.int 1 0) (.call 23 (.loc 0 1) (.cons (.loc 2 2) .nil) 3) 5) 6)
  (.cons (.asg 4 (.call 23 (.loc 0 8) (.cons (.int 8 9) .nil) 10) 12)
  (.cons (.ifs (.cmp .lt (.loc 4 14) (.int 2 15) 16) (.cons (.ret (.loc 4 17) 18)
  .nil) .nil 19)
  (.cons (.ifs (.cmp .lt (.loc 4 20) (.int 4 21) 22) (.cons (.ret (.bin .sub (.bin .pow (.int 2 23) (.ife (.cmp .eq (.loc 4 24) (.int 2 25) 26) (.bin .sub (.bin .mul (.loc 1 27) (.loc 3 28) 29) (.int 1 30) 31) (.bin .mul (.loc 1 32) (.bin .sub (.loc 3 33) (.int 1 34) 35) 36) 37) 38) (.ife (.cmp .eq (.loc 4 39) (.int 2 40) 41) (.int 0 42) (.bin .sub (.int 0 43) (.int 1 44) 45) 46) 47) 48)
  .nil) .nil 49)
  (.cons (.ret (.ife (.cmp .eq (.loc 4 50) (.int 4 51) 52) (.bin .sub (.bin .pow (.int 2 53) (.bin .mul (.loc 1 54) (.loc 3 55) 56) 57) (.int 1 58) 59) (.call 23 (.loc 0 60) (.cons (.bin .pow (.int 2 61) (.bin .mul (.loc 1 62) (.loc 3 63) 64) 65) .nil) 66) 68) 69)
  .nil)))))
noncomputable def D_law_box : DC := ⟨["script", "many", "cell", "box"], posn [(183, 12, 183, 13), (183, 11, 183, 13), (183, 38, 183, 44), (183, 46, 183, 50), (183, 45, 183, 50), (183, 38, 183, 51), (183, 16, 183, 19), (183, 20, 183, 24), (183, 16, 183, 25), (183, 30, 183, 34), (183, 15, 183, 52), (183, 54, 183, 55), (183, 10, 183, 56), (183, 4, 183, 7), (183, 4, 183, 56), (184, 16, 184, 19), (184, 20, 184, 21), (184, 16, 184, 22), (185, 12, 185, 13), (185, 18, 185, 21), (185, 22, 185, 23), (185, 18, 185, 24), (185, 27, 185, 29), (185, 18, 185, 29), (185, 36, 185, 40), (185, 32, 185, 35), (185, 32, 185, 41), (185, 18, 185, 41), (185, 45, 185, 46), (185, 50, 185, 52), (185, 45, 185, 52), (185, 17, 185, 52), (185, 8, 185, 11), (185, 8, 185, 14), (185, 8, 185, 52), (184, 8, 184, 12), (184, 4, 185, 52), (186, 11, 186, 14), (186, 4, 186, 14)]⟩
noncomputable def b_law_box : MSs := (.cons (.asg 3 (.mkbox (.neg (.int 1 0) 1) (.comp (.slTo (.loc 0 2) (.loc 1 3) 4) 6) (.int 7 11) 12) 13)
  (.cons (.forL 2 (.item (.loc 3 15) (.int 1 16) 17) (.cons (.asgI 3 (.int 2 18) (.bin .mod (.bin .add (.bin .mul (.item (.loc 3 19) (.int 2 20) 21) (.int 31 22) 23) (.abs (.loc 2 24) 25) 27) (.bin .pow (.int 2 28) (.int 64 29) 30) 31) 32)
  .nil) 35)
  (.cons (.ret (.loc 3 37) 38)
  .nil)))
noncomputable def D_law_told_right : DC := ⟨["told", "m", "row", "w", "size"], posn [(194, 11, 194, 12), (194, 17, 194, 18), (194, 25, 194, 28), (194, 21, 194, 24), (194, 21, 194, 29), (194, 17, 194, 29), (194, 11, 194, 30), (194, 4, 194, 8), (194, 4, 194, 30), (195, 7, 195, 11), (195, 7, 195, 19), (195, 23, 195, 26), (195, 7, 195, 26), (195, 30, 195, 34), (195, 30, 195, 38), (195, 51, 195, 55), (195, 58, 195, 59), (195, 51, 195, 59), (195, 61, 195, 62), (195, 42, 195, 50), (195, 42, 195, 63), (195, 30, 195, 63), (195, 67, 195, 71), (195, 67, 195, 78), (195, 91, 195, 95), (195, 98, 195, 102), (195, 91, 195, 102), (195, 105, 195, 106), (195, 91, 195, 106), (195, 108, 195, 109), (195, 82, 195, 90), (195, 82, 195, 110), (195, 67, 195, 110), (195, 7, 195, 110), (196, 15, 196, 20), (196, 8, 196, 20), (195, 4, 196, 20), (197, 11, 197, 12), (197, 16, 197, 20), (197, 16, 197, 26), (197, 29, 197, 30), (197, 34, 197, 35), (197, 29, 197, 35), (197, 11, 197, 35), (197, 7, 197, 35), (197, 40, 197, 44), (197, 40, 197, 50), (197, 53, 197, 56), (197, 57, 197, 58), (197, 53, 197, 59), (197, 40, 197, 59), (197, 62, 197, 63), (197, 40, 197, 63), (197, 67, 197, 68), (197, 72, 197, 73), (197, 67, 197, 73), (197, 39, 197, 73), (197, 77, 197, 78), (197, 39, 197, 78), (197, 98, 197, 102), (197, 104, 197, 105), (197, 87, 197, 97), (197, 87, 197, 106), (197, 83, 197, 106), (197, 7, 197, 107), (198, 15, 198, 20), (198, 8, 198, 20), (197, 4, 198, 20), (199, 37, 199, 40), (199, 43, 199, 47), (199, 43, 199, 53), (199, 56, 199, 57), (199, 43, 199, 57), (199, 61, 199, 62), (199, 66, 199, 67), (199, 61, 199, 67), (199, 42, 199, 67), (199, 69, 199, 73), (199, 69, 199, 77), (199, 79, 199, 83), (199, 79, 199, 90), (199, 26, 199, 36), (199, 26, 199, 91), (199, 93, 199, 94), (199, 15, 199, 25), (199, 15, 199, 95), (199, 11, 199, 95), (199, 4, 199, 95)]⟩
noncomputable def b_law_told_right : MSs := (.cons (.asg 4 (.bin .pow (.int 2 0) (.bin .mul (.loc 3 1) (.len (.loc 2 2) 3) 5) 6) 7)
  (.cons (.ifs (.logic false (.cmp .ne (.attr (.loc 0 9) 0 10) (.loc 2 11) 12) (.cons (.cmp .ne (.attr (.loc 0 13) 2 14) (.call 20 (.bin .mod (.loc 4 15) (.loc 1 16) 17) (.cons (.loc 3 18) .nil) 19) 21) (.cons (.cmp .ne (.attr (.loc 0 22) 3 23) (.call 20 (.bin .mod (.bin .mul (.loc 4 24) (.loc 4 25) 26) (.loc 1 27) 28) (.cons (.loc 3 29) .nil) 30) 32) .nil)) 33) (.cons (.ret (.bool false 34) 35)
  .nil) .nil 36)
  (.cons (.ifs (.logic false (.not (.cmp2 .le .lt (.int 0 37) (.attr (.loc 0 38) 1 39) (.bin .pow (.int 2 40) (.loc 3 41) 42) 43) 44) (.cons (.cmp .ne (.bin .mod (.bin .add (.bin .mul (.attr (.loc 0 45) 1 46) (.item (.loc 2 47) (.int 0 48) 49) 50) (.int 1 51) 52) (.bin .pow (.int 2 53) (.loc 3 54) 55) 56) (.int 0 57) 58) (.cons (.not (.call 19 (.loc 0 59) (.cons (.loc 3 60) .nil) 61) 63) .nil)) 64) (.cons (.ret (.bool false 65) 66)
  .nil) .nil 67)
  (.cons (.ret (.not (.call 19 (.mont (.loc 2 68) (.bin .mod (.bin .add (.attr (.loc 0 69) 1 70) (.int 2 71) 72) (.bin .pow (.int 2 73) (.loc 3 74) 75) 76) (.attr (.loc 0 77) 2 78) (.attr (.loc 0 79) 3 80) 81) (.cons (.loc 3 83) .nil) 84) 86) 87)
  .nil))))
noncomputable def D_law_reduced_right : DC := ⟨["found", "number", "m", "size", "w", "value"], posn [(201, 24, 201, 29), (201, 31, 201, 32), (201, 12, 201, 23), (201, 12, 201, 33), (201, 4, 201, 9), (201, 4, 201, 33), (202, 11, 202, 16), (202, 19, 202, 20), (202, 11, 202, 20), (202, 25, 202, 30), (202, 43, 202, 48), (202, 50, 202, 51), (202, 34, 202, 42), (202, 34, 202, 52), (202, 25, 202, 52), (202, 59, 202, 64), (202, 67, 202, 71), (202, 59, 202, 71), (202, 74, 202, 80), (202, 59, 202, 80), (202, 84, 202, 85), (202, 58, 202, 85), (202, 89, 202, 90), (202, 58, 202, 90), (202, 11, 202, 91), (202, 4, 202, 91)]⟩
noncomputable def b_law_reduced_right : MSs := (.cons (.asg 5 (.call 21 (.loc 0 0) (.cons (.loc 4 1) .nil) 2) 4)
  (.cons (.ret (.logic true (.cmp .lt (.loc 5 6) (.loc 2 7) 8) (.cons (.cmp .eq (.loc 0 9) (.call 20 (.loc 5 10) (.cons (.loc 4 11) .nil) 12) 14) (.cons (.cmp .eq (.bin .mod (.bin .sub (.bin .mul (.loc 5 15) (.loc 3 16) 17) (.loc 1 18) 19) (.loc 2 20) 21) (.int 0 22) 23) .nil)) 24) 25)
  .nil))
noncomputable def D_law : DC := ⟨["script", "box", "limb", "x", "y", "number", "a", "b", "wide", "found", "m", "row", "size", "told", "w"], posn [(204, 19, 204, 25), (204, 27, 204, 29), (204, 10, 204, 18), (204, 10, 204, 30), (204, 4, 204, 7), (204, 4, 204, 30), (205, 8, 205, 9), (205, 22, 205, 25), (205, 27, 205, 28), (205, 12, 205, 21), (205, 12, 205, 29), (205, 8, 205, 29), (205, 4, 205, 5), (205, 4, 205, 29), (206, 18, 206, 21), (206, 23, 206, 24), (206, 26, 206, 27), (206, 8, 206, 17), (206, 8, 206, 28), (206, 32, 206, 33), (206, 8, 206, 33), (206, 36, 206, 37), (206, 8, 206, 37), (206, 40, 206, 41), (206, 8, 206, 41), (206, 4, 206, 5), (206, 4, 206, 41), (207, 26, 207, 27), (207, 29, 207, 30), (207, 17, 207, 25), (207, 17, 207, 31), (207, 43, 207, 46), (207, 48, 207, 49), (207, 53, 207, 54), (207, 48, 207, 54), (207, 33, 207, 42), (207, 33, 207, 55), (207, 4, 207, 7), (207, 9, 207, 13), (207, 4, 207, 13), (207, 16, 207, 56), (207, 4, 207, 56), (208, 18, 208, 19), (208, 24, 208, 25), (208, 32, 208, 35), (208, 28, 208, 31), (208, 28, 208, 36), (208, 24, 208, 36), (208, 18, 208, 37), (208, 49, 208, 52), (208, 54, 208, 55), (208, 39, 208, 48), (208, 39, 208, 56), (208, 4, 208, 8), (208, 10, 208, 14), (208, 4, 208, 14), (208, 17, 208, 57), (208, 4, 208, 57), (209, 27, 209, 31), (209, 33, 209, 34), (209, 36, 209, 39), (209, 41, 209, 42), (209, 11, 209, 26), (209, 11, 209, 43), (209, 7, 209, 43), (210, 15, 210, 20), (210, 8, 210, 20), (209, 4, 210, 20), (211, 30, 211, 33), (211, 35, 211, 36), (211, 38, 211, 39), (211, 20, 211, 29), (211, 20, 211, 40), (211, 43, 211, 44), (211, 20, 211, 44), (211, 56, 211, 59), (211, 61, 211, 62), (211, 64, 211, 65), (211, 46, 211, 55), (211, 46, 211, 66), (211, 69, 211, 70), (211, 46, 211, 70), (211, 82, 211, 85), (211, 87, 211, 88), (211, 90, 211, 91), (211, 72, 211, 81), (211, 72, 211, 92), (211, 96, 211, 97), (211, 100, 211, 104), (211, 96, 211, 104), (211, 72, 211, 105), (211, 4, 211, 5), (211, 7, 211, 8), (211, 10, 211, 16), (211, 4, 211, 16), (211, 19, 211, 106), (211, 4, 211, 106), (212, 27, 212, 28), (212, 30, 212, 31), (212, 18, 212, 26), (212, 18, 212, 32), (212, 43, 212, 44), (212, 46, 212, 47), (212, 34, 212, 42), (212, 34, 212, 48), (212, 59, 212, 65), (212, 67, 212, 68), (212, 50, 212, 58), (212, 50, 212, 69), (212, 4, 212, 5), (212, 7, 212, 8), (212, 10, 212, 14), (212, 4, 212, 14), (212, 17, 212, 70), (212, 4, 212, 70), (213, 35, 213, 39), (213, 41, 213, 45), (213, 47, 213, 48), (213, 30, 213, 34), (213, 30, 213, 49), (213, 51, 213, 57), (213, 59, 213, 60), (213, 62, 213, 66), (213, 68, 213, 69), (213, 11, 213, 29), (213, 11, 213, 70), (213, 7, 213, 70), (214, 15, 214, 20), (214, 8, 214, 20), (213, 4, 214, 20), (215, 35, 215, 38), (215, 40, 215, 44), (215, 46, 215, 47), (215, 30, 215, 34), (215, 30, 215, 48), (215, 50, 215, 51), (215, 53, 215, 54), (215, 56, 215, 60), (215, 62, 215, 63), (215, 11, 215, 29), (215, 11, 215, 64), (215, 7, 215, 64), (216, 15, 216, 20), (216, 8, 216, 20), (215, 4, 216, 20), (217, 15, 217, 16), (217, 18, 217, 22), (217, 24, 217, 25), (217, 27, 217, 35), (217, 7, 217, 14), (217, 7, 217, 36), (217, 49, 217, 50), (217, 53, 217, 57), (217, 49, 217, 57), (217, 60, 217, 61), (217, 49, 217, 61), (217, 63, 217, 64), (217, 40, 217, 48), (217, 40, 217, 65), (217, 7, 217, 65), (217, 88, 217, 89), (217, 92, 217, 96), (217, 88, 217, 96), (217, 99, 217, 100), (217, 88, 217, 100), (217, 102, 217, 103), (217, 79, 217, 87), (217, 79, 217, 104), (217, 106, 217, 110), (217, 112, 217, 113), (217, 69, 217, 78), (217, 69, 217, 114), (217, 118, 217, 119), (217, 69, 217, 119), (217, 7, 217, 119), (218, 15, 218, 20), (218, 8, 218, 20), (217, 4, 218, 20), (219, 21, 219, 22), (219, 24, 219, 25), (219, 27, 219, 31), (219, 33, 219, 34), (219, 36, 219, 44), (219, 12, 219, 20), (219, 12, 219, 45), (219, 4, 219, 9), (219, 4, 219, 45), (220, 30, 220, 35), (220, 37, 220, 38), (220, 41, 220, 42), (220, 37, 220, 42), (220, 44, 220, 45), (220, 47, 220, 51), (220, 53, 220, 54), (220, 11, 220, 29), (220, 11, 220, 55), (220, 7, 220, 55), (220, 69, 220, 70), (220, 72, 220, 73), (220, 75, 220, 79), (220, 81, 220, 82), (220, 59, 220, 68), (220, 59, 220, 83), (220, 87, 220, 92), (220, 59, 220, 92), (220, 7, 220, 92), (221, 15, 221, 20), (221, 8, 221, 20), (220, 4, 221, 20), (222, 19, 222, 20), (222, 22, 222, 25), (222, 27, 222, 28), (222, 30, 222, 34), (222, 7, 222, 18), (222, 7, 222, 35), (222, 48, 222, 49), (222, 52, 222, 56), (222, 48, 222, 56), (222, 59, 222, 60), (222, 48, 222, 60), (222, 62, 222, 63), (222, 39, 222, 47), (222, 39, 222, 64), (222, 7, 222, 64), (223, 15, 223, 20), (223, 8, 223, 20), (222, 4, 223, 20)]⟩
noncomputable def b_law : MSs := (.cons (.asg 1 (.call 25 (.loc 0 0) (.cons (.int 24 1) .nil) 2) 4)
  (.cons (.asg 14 (.bin .add (.int 2 6) (.call 23 (.loc 1 7) (.cons (.int 8 8) .nil) 9) 11) 12)
  (.cons (.asg 10 (.bin .add (.bin .mul (.bin .fdiv (.call 24 (.loc 1 14) (.cons (.loc 14 15) (.cons (.int 4 16) .nil)) 17) (.int 2 19) 20) (.int 2 21) 22) (.int 1 23) 24) 25)
  (.cons (.asg2 11 2 (.call 20 (.loc 10 27) (.cons (.loc 14 28) .nil) 29) (.call 23 (.loc 1 31) (.cons (.bin .pow (.int 2 32) (.loc 14 33) 34) .nil) 35) 37)
  (.cons (.asg2 12 13 (.bin .pow (.int 2 42) (.bin .mul (.loc 14 43) (.len (.loc 11 44) 45) 47) 48) (.call 10 (.loc 11 49) (.cons (.loc 14 50) .nil) 51) 53)
  (.cons (.ifs (.not (.call 26 (.loc 13 58) (.cons (.loc 10 59) (.cons (.loc 11 60) (.cons (.loc 14 61) .nil))) 62) 64) (.cons (.ret (.bool false 65) 66)
  .nil) .nil 67)
  (.cons (.asg3 3 4 5 (.bin .mod (.call 24 (.loc 1 68) (.cons (.loc 14 69) (.cons (.int 4 70) .nil)) 71) (.loc 10 73) 74) (.bin .mod (.call 24 (.loc 1 75) (.cons (.loc 14 76) (.cons (.int 4 77) .nil)) 78) (.loc 10 80) 81) (.bin .mod (.call 24 (.loc 1 82) (.cons (.loc 14 83) (.cons (.int 8 84) .nil)) 85) (.bin .mul (.loc 10 87) (.loc 12 88) 89) 90) 91)
  (.cons (.asg3 6 7 8 (.call 20 (.loc 3 97) (.cons (.loc 14 98) .nil) 99) (.call 20 (.loc 4 101) (.cons (.loc 14 102) .nil) 103) (.call 20 (.loc 5 105) (.cons (.loc 14 106) .nil) 107) 109)
  (.cons (.ifs (.not (.call 27 (.call 13 (.loc 8 115) (.cons (.loc 13 116) (.cons (.loc 14 117) .nil)) 118) (.cons (.loc 5 120) (.cons (.loc 10 121) (.cons (.loc 12 122) (.cons (.loc 14 123) .nil)))) 124) 126) (.cons (.ret (.bool false 127) 128)
  .nil) .nil 129)
  (.cons (.ifs (.not (.call 27 (.call 13 (.loc 11 130) (.cons (.loc 13 131) (.cons (.loc 14 132) .nil)) 133) (.cons (.loc 10 135) (.cons (.loc 10 136) (.cons (.loc 12 137) (.cons (.loc 14 138) .nil)))) 139) 141) (.cons (.ret (.bool false 142) 143)
  .nil) .nil 144)
  (.cons (.ifs (.logic false (.cmp .ne (.call 14 (.loc 6 145) (.cons (.loc 13 146) (.cons (.loc 14 147) (.cons (.glob 22 148) .nil))) 149) (.call 20 (.bin .mod (.bin .mul (.loc 3 151) (.loc 12 152) 153) (.loc 10 154) 155) (.cons (.loc 14 156) .nil) 157) 159) (.cons (.cmp .ne (.call 15 (.call 20 (.bin .mod (.bin .mul (.loc 3 160) (.loc 12 161) 162) (.loc 10 163) 164) (.cons (.loc 14 165) .nil) 166) (.cons (.loc 13 168) (.cons (.loc 14 169) .nil)) 170) (.loc 6 172) 173) .nil) 174) (.cons (.ret (.bool false 175) 176)
  .nil) .nil 177)
  (.cons (.asg 9 (.call 16 (.loc 6 178) (.cons (.loc 7 179) (.cons (.loc 13 180) (.cons (.loc 14 181) (.cons (.glob 22 182) .nil)))) 183) 185)
  (.cons (.ifs (.logic false (.not (.call 27 (.loc 9 187) (.cons (.bin .mul (.loc 3 188) (.loc 4 189) 190) (.cons (.loc 10 191) (.cons (.loc 12 192) (.cons (.loc 14 193) .nil)))) 194) 196) (.cons (.cmp .ne (.call 17 (.loc 6 197) (.cons (.loc 7 198) (.cons (.loc 13 199) (.cons (.loc 14 200) .nil))) 201) (.loc 9 203) 204) .nil) 205) (.cons (.ret (.bool false 206) 207)
  .nil) .nil 208)
  (.cons (.ifs (.cmp .ne (.call 18 (.loc 6 209) (.cons (.loc 11 210) (.cons (.loc 14 211) (.cons (.loc 2 212) .nil))) 213) (.call 20 (.bin .mod (.bin .mul (.loc 3 215) (.loc 2 216) 217) (.loc 10 218) 219) (.cons (.loc 14 220) .nil) 221) 223) (.cons (.ret (.bool false 224) 225)
  .nil) .nil 226)
  .nil))))))))))))))

noncomputable def F_normal : FDef := ⟨1, D_normal, b_normal⟩
noncomputable def F_is_even : FDef := ⟨1, D_is_even, b_is_even⟩
noncomputable def F_compare : FDef := ⟨2, D_compare, b_compare⟩
noncomputable def F_add : FDef := ⟨3, D_add, b_add⟩
noncomputable def F_sub : FDef := ⟨3, D_sub, b_sub⟩
noncomputable def F_lifted : FDef := ⟨2, D_lifted, b_lifted⟩
noncomputable def F_mul_limb : FDef := ⟨3, D_mul_limb, b_mul_limb⟩
noncomputable def F_shift_left : FDef := ⟨3, D_shift_left, b_shift_left⟩
noncomputable def F_inverse_limb : FDef := ⟨2, D_inverse_limb, b_inverse_limb⟩
noncomputable def F_doubled_rest : FDef := ⟨3, D_doubled_rest, b_doubled_rest⟩
noncomputable def F_mont_make : FDef := ⟨2, D_mont_make, b_mont_make⟩
noncomputable def F_add_row : FDef := ⟨5, D_add_row, b_add_row⟩
noncomputable def F_taken_once : FDef := ⟨3, D_taken_once, b_taken_once⟩
noncomputable def F_redc : FDef := ⟨3, D_redc, b_redc⟩
noncomputable def F_to_mont : FDef := ⟨4, D_to_mont, b_to_mont⟩
noncomputable def F_from_mont : FDef := ⟨3, D_from_mont, b_from_mont⟩
noncomputable def F_mont_mul : FDef := ⟨5, D_mont_mul, b_mont_mul⟩
noncomputable def F_mont_rows : FDef := ⟨4, D_mont_rows, b_mont_rows⟩
noncomputable def F_scaled_rest : FDef := ⟨4, D_scaled_rest, b_scaled_rest⟩
noncomputable def F_check_mont : FDef := ⟨2, D_check_mont, b_check_mont⟩
noncomputable def F_law_row : FDef := ⟨2, D_law_row, b_law_row⟩
noncomputable def F_law_number : FDef := ⟨2, D_law_number, b_law_number⟩
noncomputable def F_law_mul : FDef := ⟨3, D_law_mul, b_law_mul⟩
noncomputable def F_law_draw : FDef := ⟨2, D_law_draw, b_law_draw⟩
noncomputable def F_law_size : FDef := ⟨3, D_law_size, b_law_size⟩
noncomputable def F_law_box : FDef := ⟨2, D_law_box, b_law_box⟩
noncomputable def F_law_told_right : FDef := ⟨4, D_law_told_right, b_law_told_right⟩
noncomputable def F_law_reduced_right : FDef := ⟨5, D_law_reduced_right, b_law_reduced_right⟩
noncomputable def PT : Nat → Option FDef
  | 0 => some F_normal
  | 1 => some F_is_even
  | 2 => some F_compare
  | 3 => some F_add
  | 4 => some F_sub
  | 5 => some F_lifted
  | 6 => some F_mul_limb
  | 7 => some F_shift_left
  | 8 => some F_inverse_limb
  | 9 => some F_doubled_rest
  | 10 => some F_mont_make
  | 11 => some F_add_row
  | 12 => some F_taken_once
  | 13 => some F_redc
  | 14 => some F_to_mont
  | 15 => some F_from_mont
  | 16 => some F_mont_mul
  | 17 => some F_mont_rows
  | 18 => some F_scaled_rest
  | 19 => some F_check_mont
  | 20 => some F_law_row
  | 21 => some F_law_number
  | 22 => some F_law_mul
  | 23 => some F_law_draw
  | 24 => some F_law_size
  | 25 => some F_law_box
  | 26 => some F_law_told_right
  | 27 => some F_law_reduced_right
  | _ => none
end Mine

namespace Mine

noncomputable def num (B : Int) : List Int → Int
  | [] => 0
  | x :: xs => x + B * num B xs
noncomputable def Dg (B : Int) (xs : List Int) : Prop := ∀ x ∈ xs, 0 ≤ x ∧ x < B
noncomputable def Nm : List Int → Prop
  | [] => True
  | [x] => x ≠ 0
  | _ :: y :: r => Nm (y :: r)
noncomputable def rowF (B : Int) : Nat → Int → List Int
  | 0, _ => []
  | k + 1, n => if 0 < n then (n % B) :: rowF B k (n / B) else []
noncomputable def row (B n : Int) : List Int := rowF B n.toNat n

theorem Dg.nil {B : Int} : Dg B [] := fun _ h => nomatch h
theorem Dg.cons {B x : Int} {xs : List Int} (h : 0 ≤ x ∧ x < B) (hs : Dg B xs) : Dg B (x :: xs) := fun y hy => by
  rcases List.mem_cons.mp hy with rfl | hy
  · exact h
  · exact hs y hy
theorem Dg.head {B x : Int} {xs : List Int} (h : Dg B (x :: xs)) : 0 ≤ x ∧ x < B := h x (.head _)
theorem Dg.tail {B x : Int} {xs : List Int} (h : Dg B (x :: xs)) : Dg B xs := fun y hy => h y (.tail _ hy)
theorem Dg.append {B : Int} {xs ys : List Int} (h : Dg B xs) (h' : Dg B ys) : Dg B (xs ++ ys) := fun y hy => by
  rcases List.mem_append.mp hy with hy | hy
  · exact h y hy
  · exact h' y hy
theorem Dg.left {B : Int} {xs ys : List Int} (h : Dg B (xs ++ ys)) : Dg B xs := fun y hy => h y (List.mem_append_left _ hy)
theorem Dg.right {B : Int} {xs ys : List Int} (h : Dg B (xs ++ ys)) : Dg B ys := fun y hy => h y (List.mem_append_right _ hy)
theorem Dg.at {B : Int} {xs : List Int} (h : Dg B xs) {k : Nat} {x : Int} (e : xs[k]? = some x) : 0 ≤ x ∧ x < B := h x (List.mem_of_getElem? e)
theorem Dg.set {B : Int} {xs : List Int} (h : Dg B xs) {k : Nat} {x : Int} (e : 0 ≤ x ∧ x < B) : Dg B (xs.set k x) := fun y hy => by
  rcases List.mem_or_eq_of_mem_set hy with hy | rfl
  · exact h y hy
  · exact e

theorem pow_nonneg' {B : Int} (hB : 0 ≤ B) (n : Nat) : 0 ≤ B ^ n := Int.pow_nonneg hB
theorem pow_pos' {B : Int} (hB : 0 < B) (n : Nat) : 0 < B ^ n := Int.pow_pos hB

theorem ipow_mono {B : Int} (hB : 1 ≤ B) {a b : Nat} (h : a ≤ b) : B ^ a ≤ B ^ b := by
  obtain ⟨d, rfl⟩ := Nat.exists_eq_add_of_le h
  rw [Int.pow_add]
  have h1 : 0 < B ^ a := Int.pow_pos (by omega)
  have h2 : 0 < B ^ d := Int.pow_pos (by omega)
  have : B ^ a * 1 ≤ B ^ a * B ^ d := Int.mul_le_mul_of_nonneg_left (by omega) (by omega)
  omega
theorem num_append {B : Int} : ∀ xs ys : List Int, num B (xs ++ ys) = num B xs + B ^ xs.length * num B ys
  | [], ys => by simp [num]
  | x :: xs, ys => by
    have ih := num_append (B := B) xs ys
    simp only [List.cons_append, num, ih, List.length_cons, Int.pow_succ]
    grind

theorem num_nonneg {B : Int} (hB : 0 < B) : ∀ {xs : List Int}, Dg B xs → 0 ≤ num B xs
  | [], _ => by simp [num]
  | x :: xs, h => by
    have ih := num_nonneg hB h.tail
    have := h.head
    have h2 : 0 ≤ B * num B xs := Int.mul_nonneg (by omega) ih
    simp only [num]; omega

theorem num_lt {B : Int} (hB : 0 < B) : ∀ {xs : List Int}, Dg B xs → num B xs < B ^ xs.length
  | [], _ => by simp [num]
  | x :: xs, h => by
    have ih := num_lt hB h.tail
    have := h.head
    have h2 : B * (num B xs + 1) ≤ B * B ^ xs.length := Int.mul_le_mul_of_nonneg_left (by omega) (by omega)
    simp only [num, List.length_cons, Int.pow_succ]
    have e : B * (num B xs + 1) = B * num B xs + B := by grind
    have e2 : B ^ xs.length * B = B * B ^ xs.length := Int.mul_comm _ _
    omega

theorem Nm.tail {x : Int} {xs : List Int} (h : Nm (x :: xs)) : Nm xs := by
  cases xs with
  | nil => trivial
  | cons y r => exact h

theorem num_zero_nil {B : Int} (hB : 0 < B) : ∀ {xs : List Int}, Dg B xs → Nm xs → num B xs = 0 → xs = []
  | [], _, _, _ => rfl
  | x :: xs, h, hn, e => by
    have h0 := num_nonneg hB h.tail
    have hx := h.head
    simp only [num] at e
    have h2 : 0 ≤ B * num B xs := Int.mul_nonneg (by omega) h0
    have hz : num B xs = 0 := by
      have : B * num B xs = 0 := by omega
      rcases Int.mul_eq_zero.mp this with h | h
      · omega
      · exact h
    have := num_zero_nil hB h.tail hn.tail hz
    subst this
    have hx0 : x = 0 := by omega
    exact absurd hx0 hn

theorem num_div {B x : Int} {xs : List Int} (hB : 0 < B) (h : Dg B (x :: xs)) : num B (x :: xs) / B = num B xs ∧ num B (x :: xs) % B = x := by
  have hx := h.head
  simp only [num]
  constructor
  · rw [Int.add_mul_ediv_left _ _ (by omega), Int.ediv_eq_zero_of_lt hx.1 hx.2]; omega
  · rw [Int.add_mul_emod_self_left, Int.emod_eq_of_lt hx.1 hx.2]

theorem rowF_of {B : Int} (hB : 2 ≤ B) : ∀ {xs : List Int} (k : Nat), Dg B xs → Nm xs → (num B xs).toNat ≤ k → rowF B k (num B xs) = xs
  | [], k, _, _, _ => by cases k <;> simp [rowF, num]
  | x :: xs, k, h, hn, hk => by
    have hpos : 0 < num B (x :: xs) := by
      have h0 := num_nonneg (by omega) h
      rcases Int.lt_or_eq_of_le h0 with q | q
      · exact q
      · have := num_zero_nil (by omega) h hn q.symm
        cases this
    cases k with
    | zero => omega
    | succ k =>
      obtain ⟨e1, e2⟩ := num_div (by omega) h
      simp only [rowF]
      rw [if_pos hpos, e1, e2]
      congr 1
      refine rowF_of hB k h.tail hn.tail ?_
      have h0 := num_nonneg (B := B) (by omega) h.tail
      have hx := h.head
      have : num B (x :: xs) = x + B * num B xs := rfl
      have h3 : 2 * num B xs ≤ B * num B xs := Int.mul_le_mul_of_nonneg_right hB h0
      omega

theorem row_of {B : Int} (hB : 2 ≤ B) {xs : List Int} (h : Dg B xs) (hn : Nm xs) : row B (num B xs) = xs := rowF_of hB _ h hn (Nat.le_refl _)
theorem row_eq {B n : Int} (hB : 2 ≤ B) {xs : List Int} (h : Dg B xs) (hn : Nm xs) (e : num B xs = n) : xs = row B n := by rw [← e, row_of hB h hn]

theorem rowF_ok {B : Int} (hB : 2 ≤ B) : ∀ (k : Nat) (n : Int), 0 ≤ n → n.toNat ≤ k → Dg B (rowF B k n) ∧ Nm (rowF B k n) ∧ num B (rowF B k n) = n
  | 0, n, h0, hk => by
    have : n = 0 := by omega
    subst this
    exact ⟨Dg.nil, trivial, rfl⟩
  | k + 1, n, h0, hk => by
    simp only [rowF]
    split
    · rename_i hp
      have hd0 : 0 ≤ n / B := Int.ediv_nonneg h0 (by omega)
      have hlt : n / B < n := Int.ediv_lt_of_lt_mul (by omega) (by
        have : n * 2 ≤ n * B := Int.mul_le_mul_of_nonneg_left hB h0
        omega)
      obtain ⟨a, b, c⟩ := rowF_ok hB k (n / B) hd0 (by omega)
      have hm := Int.emod_nonneg n (b := B) (by omega)
      have hm2 := Int.emod_lt_of_pos n (b := B) (by omega)
      refine ⟨a.cons ⟨hm, hm2⟩, ?_, ?_⟩
      · generalize hr : rowF B k (n / B) = r at b c
        cases r with
        | nil =>
          show n % B ≠ 0
          intro q
          have hz : n / B = 0 := by rw [← c]; rfl
          have := Int.emod_add_mul_ediv n B
          rw [q, hz] at this
          simp at this
          omega
        | cons y r => exact b
      · simp only [num]
        rw [c]
        exact Int.emod_add_mul_ediv n B
    · have : n = 0 := by omega
      subst this
      exact ⟨Dg.nil, trivial, rfl⟩

section
variable {B n : Int}
theorem row_dg (hB : 2 ≤ B) (h : 0 ≤ n) : Dg B (row B n) := (rowF_ok hB _ n h (Nat.le_refl _)).1
theorem row_nm (hB : 2 ≤ B) (h : 0 ≤ n) : Nm (row B n) := (rowF_ok hB _ n h (Nat.le_refl _)).2.1
theorem row_num (hB : 2 ≤ B) (h : 0 ≤ n) : num B (row B n) = n := (rowF_ok hB _ n h (Nat.le_refl _)).2.2
theorem row_inj (hB : 2 ≤ B) {a b : Int} (ha : 0 ≤ a) (hb : 0 ≤ b) (h : row B a = row B b) : a = b := by
  rw [← row_num hB ha, ← row_num hB hb, h]
theorem row_zero : row B 0 = [] := rfl
theorem row_nil_iff (hB : 2 ≤ B) (h : 0 ≤ n) : row B n = [] ↔ n = 0 := by
  constructor
  · intro e; rw [← row_num hB h, e]; rfl
  · rintro rfl; rfl
end

/-- two lists of digits, as long, of the same number -/
theorem dg_unique {B : Int} (hB : 0 < B) : ∀ {xs ys : List Int}, Dg B xs → Dg B ys → xs.length = ys.length → num B xs = num B ys → xs = ys
  | [], [], _, _, _, _ => rfl
  | [], _ :: _, _, _, h, _ => by simp at h
  | _ :: _, [], _, _, h, _ => by simp at h
  | x :: xs, y :: ys, hx, hy, hl, e => by
    obtain ⟨a1, a2⟩ := num_div hB hx
    obtain ⟨b1, b2⟩ := num_div hB hy
    rw [e] at a1 a2
    have hxy : x = y := a2.symm.trans b2
    have hr : num B xs = num B ys := a1.symm.trans b1
    rw [hxy, dg_unique hB hx.tail hy.tail (by simpa using hl) hr]

/-- a list without a zero at its end, nonempty: how great it is -/
theorem nm_ge {B : Int} (hB : 0 < B) : ∀ {x : Int} {xs : List Int}, Dg B (x :: xs) → Nm (x :: xs) → B ^ xs.length ≤ num B (x :: xs)
  | x, [], h, hn => by
    have := h.head
    have h2 : x ≠ 0 := hn
    simp [num]; omega
  | x, y :: r, h, hn => by
    have ih := nm_ge hB h.tail hn
    have := h.head
    simp only [num, List.length_cons, Int.pow_succ] at ih ⊢
    have h3 : B * B ^ r.length ≤ B * (y + B * num B r) := Int.mul_le_mul_of_nonneg_left ih (by omega)
    have e : B ^ r.length * B = B * B ^ r.length := Int.mul_comm _ _
    omega

theorem nm_len_le {B : Int} (hB : 2 ≤ B) {xs : List Int} (h : Dg B xs) (hn : Nm xs) {k : Nat} (hk : num B xs < B ^ k) : xs.length ≤ k := by
  cases xs with
  | nil => simp
  | cons x xs =>
    have h1 := nm_ge (by omega) h hn
    by_cases q : xs.length < k
    · rw [List.length_cons]; omega
    · have : B ^ k ≤ B ^ xs.length := ipow_mono (by omega) (by omega)
      omega
theorem row_len_le {B n : Int} (hB : 2 ≤ B) (h : 0 ≤ n) {k : Nat} (hk : n < B ^ k) : (row B n).length ≤ k :=
  nm_len_le hB (row_dg hB h) (row_nm hB h) (by rw [row_num hB h]; exact hk)
theorem row_lt_pow {B n : Int} (hB : 2 ≤ B) (h : 0 ≤ n) : n < B ^ (row B n).length := by
  have := num_lt (B := B) (by omega) (row_dg hB h)
  rwa [row_num hB h] at this

/-- strip: what is left of a list whose rest is zeros -/
theorem nm_append_last : ∀ {xs : List Int} {x : Int}, x ≠ 0 → Nm (xs ++ [x])
  | [], _, h => h
  | [_], _, h => h
  | _ :: y :: r, x, h => nm_append_last (xs := y :: r) h
theorem num_zeros {B : Int} : ∀ {xs : List Int}, (∀ x ∈ xs, x = 0) → num B xs = 0
  | [], _ => rfl
  | x :: xs, h => by
    have := num_zeros (B := B) (fun y hy => h y (.tail _ hy))
    simp [num, this, h x (.head _)]
theorem strip_row {B : Int} (hB : 2 ≤ B) {xs : List Int} (h : Dg B xs) {e : Nat} (he : e ≤ xs.length) (hz : ∀ x ∈ xs.drop e, x = 0) (hl : e = 0 ∨ ∃ x, xs[e - 1]? = some x ∧ x ≠ 0) : xs.take e = row B (num B xs) := by
  have hx : xs = xs.take e ++ xs.drop e := (List.take_append_drop e xs).symm
  have hd : Dg B (xs.take e) := fun y hy => h y (List.mem_of_mem_take hy)
  refine row_eq hB hd ?_ ?_
  · rcases hl with rfl | ⟨x, hx1, hx2⟩
    · simp [Nm]
    · cases e with
      | zero => simp [Nm]
      | succ e =>
        have hlt : e < xs.length := by omega
        have hxe : xs[e] = x := by
          rw [Nat.add_sub_cancel, List.getElem?_eq_getElem hlt] at hx1; exact Option.some.inj hx1
        rw [List.take_succ_eq_append_getElem hlt, hxe]
        exact nm_append_last hx2
  · conv => rhs; rw [hx]
    rw [num_append, num_zeros hz]; omega
end Mine

namespace Mine
section
variable {α : Type}
theorem get0 (a0 : α) (r : List α) : (a0 :: r)[0]? = some a0 := rfl
theorem set0 (a0 v : α) (r : List α) : (a0 :: r).set 0 v = v :: r := rfl
theorem get1 (a0 a1 : α) (r : List α) : (a0 :: a1 :: r)[1]? = some a1 := rfl
theorem set1 (a0 a1 v : α) (r : List α) : (a0 :: a1 :: r).set 1 v = a0 :: v :: r := rfl
theorem get2 (a0 a1 a2 : α) (r : List α) : (a0 :: a1 :: a2 :: r)[2]? = some a2 := rfl
theorem set2 (a0 a1 a2 v : α) (r : List α) : (a0 :: a1 :: a2 :: r).set 2 v = a0 :: a1 :: v :: r := rfl
theorem get3 (a0 a1 a2 a3 : α) (r : List α) : (a0 :: a1 :: a2 :: a3 :: r)[3]? = some a3 := rfl
theorem set3 (a0 a1 a2 a3 v : α) (r : List α) : (a0 :: a1 :: a2 :: a3 :: r).set 3 v = a0 :: a1 :: a2 :: v :: r := rfl
theorem get4 (a0 a1 a2 a3 a4 : α) (r : List α) : (a0 :: a1 :: a2 :: a3 :: a4 :: r)[4]? = some a4 := rfl
theorem set4 (a0 a1 a2 a3 a4 v : α) (r : List α) : (a0 :: a1 :: a2 :: a3 :: a4 :: r).set 4 v = a0 :: a1 :: a2 :: a3 :: v :: r := rfl
theorem get5 (a0 a1 a2 a3 a4 a5 : α) (r : List α) : (a0 :: a1 :: a2 :: a3 :: a4 :: a5 :: r)[5]? = some a5 := rfl
theorem set5 (a0 a1 a2 a3 a4 a5 v : α) (r : List α) : (a0 :: a1 :: a2 :: a3 :: a4 :: a5 :: r).set 5 v = a0 :: a1 :: a2 :: a3 :: a4 :: v :: r := rfl
theorem get6 (a0 a1 a2 a3 a4 a5 a6 : α) (r : List α) : (a0 :: a1 :: a2 :: a3 :: a4 :: a5 :: a6 :: r)[6]? = some a6 := rfl
theorem set6 (a0 a1 a2 a3 a4 a5 a6 v : α) (r : List α) : (a0 :: a1 :: a2 :: a3 :: a4 :: a5 :: a6 :: r).set 6 v = a0 :: a1 :: a2 :: a3 :: a4 :: a5 :: v :: r := rfl
theorem get7 (a0 a1 a2 a3 a4 a5 a6 a7 : α) (r : List α) : (a0 :: a1 :: a2 :: a3 :: a4 :: a5 :: a6 :: a7 :: r)[7]? = some a7 := rfl
theorem set7 (a0 a1 a2 a3 a4 a5 a6 a7 v : α) (r : List α) : (a0 :: a1 :: a2 :: a3 :: a4 :: a5 :: a6 :: a7 :: r).set 7 v = a0 :: a1 :: a2 :: a3 :: a4 :: a5 :: a6 :: v :: r := rfl
theorem get8 (a0 a1 a2 a3 a4 a5 a6 a7 a8 : α) (r : List α) : (a0 :: a1 :: a2 :: a3 :: a4 :: a5 :: a6 :: a7 :: a8 :: r)[8]? = some a8 := rfl
theorem set8 (a0 a1 a2 a3 a4 a5 a6 a7 a8 v : α) (r : List α) : (a0 :: a1 :: a2 :: a3 :: a4 :: a5 :: a6 :: a7 :: a8 :: r).set 8 v = a0 :: a1 :: a2 :: a3 :: a4 :: a5 :: a6 :: a7 :: v :: r := rfl
theorem get9 (a0 a1 a2 a3 a4 a5 a6 a7 a8 a9 : α) (r : List α) : (a0 :: a1 :: a2 :: a3 :: a4 :: a5 :: a6 :: a7 :: a8 :: a9 :: r)[9]? = some a9 := rfl
theorem set9 (a0 a1 a2 a3 a4 a5 a6 a7 a8 a9 v : α) (r : List α) : (a0 :: a1 :: a2 :: a3 :: a4 :: a5 :: a6 :: a7 :: a8 :: a9 :: r).set 9 v = a0 :: a1 :: a2 :: a3 :: a4 :: a5 :: a6 :: a7 :: a8 :: v :: r := rfl
theorem get10 (a0 a1 a2 a3 a4 a5 a6 a7 a8 a9 a10 : α) (r : List α) : (a0 :: a1 :: a2 :: a3 :: a4 :: a5 :: a6 :: a7 :: a8 :: a9 :: a10 :: r)[10]? = some a10 := rfl
theorem set10 (a0 a1 a2 a3 a4 a5 a6 a7 a8 a9 a10 v : α) (r : List α) : (a0 :: a1 :: a2 :: a3 :: a4 :: a5 :: a6 :: a7 :: a8 :: a9 :: a10 :: r).set 10 v = a0 :: a1 :: a2 :: a3 :: a4 :: a5 :: a6 :: a7 :: a8 :: a9 :: v :: r := rfl
theorem get11 (a0 a1 a2 a3 a4 a5 a6 a7 a8 a9 a10 a11 : α) (r : List α) : (a0 :: a1 :: a2 :: a3 :: a4 :: a5 :: a6 :: a7 :: a8 :: a9 :: a10 :: a11 :: r)[11]? = some a11 := rfl
theorem set11 (a0 a1 a2 a3 a4 a5 a6 a7 a8 a9 a10 a11 v : α) (r : List α) : (a0 :: a1 :: a2 :: a3 :: a4 :: a5 :: a6 :: a7 :: a8 :: a9 :: a10 :: a11 :: r).set 11 v = a0 :: a1 :: a2 :: a3 :: a4 :: a5 :: a6 :: a7 :: a8 :: a9 :: a10 :: v :: r := rfl
theorem get12 (a0 a1 a2 a3 a4 a5 a6 a7 a8 a9 a10 a11 a12 : α) (r : List α) : (a0 :: a1 :: a2 :: a3 :: a4 :: a5 :: a6 :: a7 :: a8 :: a9 :: a10 :: a11 :: a12 :: r)[12]? = some a12 := rfl
theorem set12 (a0 a1 a2 a3 a4 a5 a6 a7 a8 a9 a10 a11 a12 v : α) (r : List α) : (a0 :: a1 :: a2 :: a3 :: a4 :: a5 :: a6 :: a7 :: a8 :: a9 :: a10 :: a11 :: a12 :: r).set 12 v = a0 :: a1 :: a2 :: a3 :: a4 :: a5 :: a6 :: a7 :: a8 :: a9 :: a10 :: a11 :: v :: r := rfl
theorem get13 (a0 a1 a2 a3 a4 a5 a6 a7 a8 a9 a10 a11 a12 a13 : α) (r : List α) : (a0 :: a1 :: a2 :: a3 :: a4 :: a5 :: a6 :: a7 :: a8 :: a9 :: a10 :: a11 :: a12 :: a13 :: r)[13]? = some a13 := rfl
theorem set13 (a0 a1 a2 a3 a4 a5 a6 a7 a8 a9 a10 a11 a12 a13 v : α) (r : List α) : (a0 :: a1 :: a2 :: a3 :: a4 :: a5 :: a6 :: a7 :: a8 :: a9 :: a10 :: a11 :: a12 :: a13 :: r).set 13 v = a0 :: a1 :: a2 :: a3 :: a4 :: a5 :: a6 :: a7 :: a8 :: a9 :: a10 :: a11 :: a12 :: v :: r := rfl
theorem get14 (a0 a1 a2 a3 a4 a5 a6 a7 a8 a9 a10 a11 a12 a13 a14 : α) (r : List α) : (a0 :: a1 :: a2 :: a3 :: a4 :: a5 :: a6 :: a7 :: a8 :: a9 :: a10 :: a11 :: a12 :: a13 :: a14 :: r)[14]? = some a14 := rfl
theorem set14 (a0 a1 a2 a3 a4 a5 a6 a7 a8 a9 a10 a11 a12 a13 a14 v : α) (r : List α) : (a0 :: a1 :: a2 :: a3 :: a4 :: a5 :: a6 :: a7 :: a8 :: a9 :: a10 :: a11 :: a12 :: a13 :: a14 :: r).set 14 v = a0 :: a1 :: a2 :: a3 :: a4 :: a5 :: a6 :: a7 :: a8 :: a9 :: a10 :: a11 :: a12 :: a13 :: v :: r := rfl
end
theorem mask_eq (x : Int) (k : Nat) : Builtin.bitAnd x (2 ^ k - 1) = x % 2 ^ k := kbt_mask x k
theorem ar_add (a b : Int) : arith .add a b = some (a + b) := rfl
theorem ar_sub (a b : Int) : arith .sub a b = some (a - b) := rfl
theorem ar_and (x : Int) (w : Nat) : arith .and x (2 ^ w - 1) = some (x % 2 ^ w) := by
  show some (Builtin.bitAnd x (2 ^ w - 1)) = _
  rw [mask_eq]
theorem ar_or (a b : Int) : arith .or a b = some (Builtin.bitOr a b) := rfl
theorem ar_shr (x : Int) (w : Nat) : arith .shr x (w : Int) = some (x / 2 ^ w) := by
  simp [arith]
theorem okM_of {x : Int} (h : x.natAbs < 2 ^ 256) : okM x = true := decide_eq_true h
theorem okM_lit {x : Int} (h : decide (x.natAbs < 2 ^ 256) = true) : okM x = true := h
theorem okM_rng {x : Int} (h0 : 0 ≤ x) (h : x < 2 ^ 256) : okM x = true := okM_of (by omega)
theorem ar_shl1 {w : Nat} (hw : w ≤ 1000) : arith .shl 1 (w : Int) = some (2 ^ w) := by
  have h1 : okM 1 = true := okM_lit (by decide)
  have h2 : (0 : Int) ≤ (w : Int) ∧ (w : Int) ≤ 1000 ∧ okM 1 = true := ⟨by omega, by omega, h1⟩
  simp only [arith]
  rw [if_pos h2]
  simp
theorem ar_shl {x : Int} {w : Nat} (hw : w ≤ 1000) (hx : okM x = true) : arith .shl x (w : Int) = some (x * 2 ^ w) := by
  have h2 : (0 : Int) ≤ (w : Int) ∧ (w : Int) ≤ 1000 ∧ okM x = true := ⟨by omega, by omega, hx⟩
  simp only [arith]
  rw [if_pos h2]
  simp
theorem ar_pow2 {w : Nat} (hw : w ≤ 1000) : arith .pow 2 (w : Int) = some (2 ^ w) := by
  have h1 : okM 2 = true := okM_lit (by decide)
  have h2 : (0 : Int) ≤ (w : Int) ∧ (w : Int) ≤ 1000 ∧ okM 2 = true := ⟨by omega, by omega, h1⟩
  simp only [arith]
  rw [if_pos h2]
  simp
theorem ar_mul {a b : Int} (ha : okM a = true) (hb : okM b = true) : arith .mul a b = some (a * b) := by
  simp only [arith]
  rw [if_pos ⟨ha, hb⟩]
theorem ar_mod {a b : Int} (hb : 0 < b) : arith .mod a b = some (a % b) := by
  simp only [arith]
  rw [if_pos hb]
theorem ar_fdiv {a b : Int} (hb : 0 < b) (hm : okM b = true) : arith .fdiv a b = some (a / b) := by
  simp only [arith]
  rw [if_pos ⟨hb, hm⟩]
theorem mkL_t {xs : List Int} {H : Hp} (h : xs.length ≤ 1048576) : mkL true xs H = some (.hnd H.ms.length, ⟨H.ms ++ [xs], H.bx⟩) := by
  unfold mkL; rw [if_pos h]; rfl
theorem mkL_f {xs : List Int} {H : Hp} (h : xs.length ≤ 1048576) : mkL false xs H = some (.lst xs, H) := by
  unfold mkL; rw [if_pos h]; rfl

/-! loops -/
section
variable {i : Nat} {body : List V → Hp → Option (Fl × List V × Hp)} {test : List V → Hp → Option (V × Hp)} {v : V} {vs : List V} {loc loc' : List V} {H H' H1 : Hp} {n : Nat}
theorem runL_cons (h : body (loc.set i v) H = some (.next, loc', H')) : runL i body (v :: vs) loc H = runL i body vs loc' H' := by
  simp only [runL, h]
theorem runL_inv (I : Nat → List V → Hp → Prop) : ∀ (vs : List V) (loc : List V) (H : Hp) (k : Nat),
    (∀ j v loc H, vs[j]? = some v → I (k + j) loc H → ∃ loc' H', body (loc.set i v) H = some (.next, loc', H') ∧ I (k + j + 1) loc' H') → I k loc H →
    ∃ loc' H', runL i body vs loc H = some (.next, loc', H') ∧ I (k + vs.length) loc' H'
  | [], loc, H, k, _, h0 => ⟨loc, H, rfl, h0⟩
  | v :: vs, loc, H, k, step, h0 => by
    obtain ⟨l1, H1, e1, i1⟩ := step 0 v loc H rfl h0
    obtain ⟨l2, H2, e2, i2⟩ := runL_inv I vs l1 H1 (k + 1) (fun j v loc H e h => by
      have := step (j + 1) v loc H (by simpa using e) (by
        have q : k + (j + 1) = k + 1 + j := by omega
        rw [q]; exact h)
      have q : k + (j + 1) + 1 = k + 1 + j + 1 := by omega
      rw [q] at this; exact this) i1
    refine ⟨l2, H2, by rw [runL_cons e1]; exact e2, ?_⟩
    have q : k + (v :: vs).length = k + 1 + vs.length := by simp; omega
    rw [q]; exact i2
theorem runW_true (h1 : test loc H = some (.bool true, H1)) (h2 : body loc H1 = some (.next, loc', H')) : runW test body (n + 1) loc H = runW test body n loc' H' := by
  simp only [runW, h1, h2]
theorem runW_stop (h1 : test loc H = some (.bool false, H1)) : runW test body (n + 1) loc H = some (.next, loc, H1) := by
  simp only [runW, h1]
/-- a while by a measure -/
theorem runW_inv (I : Nat → List V → Hp → Prop) (P : List V → Hp → Prop)
    (step : ∀ k loc H, I k loc H → (test loc H = some (.bool false, H) ∧ P loc H) ∨ ∃ k' loc' H1 H', k = k' + 1 ∧ test loc H = some (.bool true, H1) ∧ body loc H1 = some (.next, loc', H') ∧ I k' loc' H') :
    ∀ (k : Nat) (loc : List V) (H : Hp) (n : Nat), I k loc H → k < n → ∃ loc' H', runW test body n loc H = some (.next, loc', H') ∧ P loc' H'
  | k, loc, H, 0, _, hn => by omega
  | k, loc, H, n + 1, h, hn => by
    rcases step k loc H h with ⟨h1, h2⟩ | ⟨k', loc', H1, H', rfl, h1, h2, h3⟩
    · exact ⟨loc, H, runW_stop h1, h2⟩
    · obtain ⟨l2, H2, e, p⟩ := runW_inv I P step k' loc' H' n h3 (by omega)
      exact ⟨l2, H2, by rw [runW_true h1 h2]; exact e, p⟩
end

theorem callM_succ (n g : Nat) (vs : List V) (H : Hp) : callM PT (n + 1) g vs H = (match PT g with | some F => runB (callM PT n) F vs H | none => none) := rfl
theorem fin_lst (xs : List Int) (n : Nat) (H : Hp) : fin (.lst xs) n H = some (.val (.lst xs) ⟨H.ms.take n, H.bx⟩) := rfl
theorem fin_int (i : Int) (n : Nat) (H : Hp) : fin (.int i) n H = some (.val (.int i) ⟨H.ms.take n, H.bx⟩) := rfl
theorem fin_bool (i : Bool) (n : Nat) (H : Hp) : fin (.bool i) n H = some (.val (.bool i) ⟨H.ms.take n, H.bx⟩) := rfl
theorem fin_none (n : Nat) (H : Hp) : fin .none n H = some (.val .none ⟨H.ms.take n, H.bx⟩) := rfl
theorem fin_box (n : Nat) (H : Hp) : fin .box n H = some (.val .box ⟨H.ms.take n, H.bx⟩) := rfl
theorem fin_mont (m q o s) (n : Nat) (H : Hp) : fin (.mont m q o s) n H = some (.val (.mont m q o s) ⟨H.ms.take n, H.bx⟩) := rfl
/-- the handle that was laid last goes back as a list that stays -/
theorem fin_hnd {ms : List (List Int)} {xs : List Int} {bx : Option (Int × List Int × Int)} : fin (.hnd ms.length) ms.length ⟨ms ++ [xs], bx⟩ = some (.val (.lst xs) ⟨ms, bx⟩) := by
  simp [fin]


theorem items_lst (H : Hp) (xs : List Int) : items H (.lst xs) = some xs := rfl
theorem items_hnd (H : Hp) (k : Nat) : items H (.hnd k) = H.ms[k]? := rfl
theorem itemV_lst (H : Hp) (xs : List Int) (k : Int) : itemV H (.lst xs) k = (if 0 ≤ k then (xs[k.toNat]?).map .int else none) := rfl
theorem itemV_hnd (H : Hp) (j : Nat) (k : Int) : itemV H (.hnd j) k = (match H.ms[j]? with | some xs => if 0 ≤ k then (xs[k.toNat]?).map .int else none | none => none) := rfl
theorem itemV_box0 (ms : List (List Int)) (i : Int) (cs : List Int) (st : Int) : itemV ⟨ms, some (i, cs, st)⟩ .box 0 = some (.int i) := rfl
theorem itemV_box1 (ms : List (List Int)) (i : Int) (cs : List Int) (st : Int) : itemV ⟨ms, some (i, cs, st)⟩ .box 1 = some (.lst cs) := rfl
theorem itemV_box2 (ms : List (List Int)) (i : Int) (cs : List Int) (st : Int) : itemV ⟨ms, some (i, cs, st)⟩ .box 2 = some (.int st) := rfl
theorem cmpV_int (H : Hp) (o : Cop) (a b : Int) : cmpV H o (.int a) (.int b) = some (cmpI o a b) := rfl
theorem cmpV_eqL (H : Hp) (xs ys : List Int) : cmpV H .eq (.lst xs) (.lst ys) = some (decide (xs = ys)) := rfl
theorem cmpV_neL (H : Hp) (xs ys : List Int) : cmpV H .ne (.lst xs) (.lst ys) = some (!decide (xs = ys)) := rfl
theorem cmpI_eq (a b : Int) : cmpI .eq a b = decide (a = b) := rfl
theorem cmpI_ne (a b : Int) : cmpI .ne a b = !decide (a = b) := rfl
theorem cmpI_lt (a b : Int) : cmpI .lt a b = decide (a < b) := rfl
theorem cmpI_le (a b : Int) : cmpI .le a b = decide (a ≤ b) := rfl
theorem cmpI_gt (a b : Int) : cmpI .gt a b = decide (b < a) := rfl
theorem cmpI_ge (a b : Int) : cmpI .ge a b = decide (b ≤ a) := rfl
theorem items_ne {H : Hp} {v : V} {xs : List Int} (h : items H v = some xs) : v ≠ .unset := fun e => by rw [e] at h; cases h
theorem ev_loc {cl : Cl} {loc : List V} {i q : Nat} {v : V} {H : Hp} (h : loc[i]? = some v) (hn : v ≠ .unset) : ev cl loc (.loc i q) H = some (v, H) := by
  simp only [ev, h]
theorem ev_lenV {cl : Cl} {loc : List V} {i q q' : Nat} {v : V} {H : Hp} {xs : List Int} (h : loc[i]? = some v) (hv : items H v = some xs) : ev cl loc (.len (.loc i q) q') H = some (.int xs.length, H) := by
  rw [ev, ev_loc h (items_ne hv)]
  simp only [hv]
theorem itemV_of {H : Hp} {v : V} {xs : List Int} {k z : Int} (hv : items H v = some xs) (h0 : 0 ≤ k) (hz : xs[k.toNat]? = some z) : itemV H v k = some (.int z) := by
  cases v <;> simp only [items] at hv <;> first | (cases hv; done) | skip
  · cases hv
    simp only [itemV, items, if_pos h0, hz, Option.map_some]
  · simp only [itemV, items, hv, if_pos h0, hz, Option.map_some]
theorem ev_itemV {cl : Cl} {loc : List V} {i q q' : Nat} {ix : ME} {v : V} {H : Hp} {xs : List Int} {k z : Int} (h : loc[i]? = some v) (hv : items H v = some xs) (hix : ev cl loc ix H = some (.int k, H)) (h0 : 0 ≤ k) (hz : xs[k.toNat]? = some z) :
    ev cl loc (.item (.loc i q) ix q') H = some (.int z, H) := by
  rw [ev, ev_loc h (items_ne hv)]
  simp only [hix, itemV_of hv h0 hz]
section
variable {cl : Cl} {s : MS} {r : MSs} {loc loc' loc'' : List V} {H H' H'' : Hp} {v : V} {x : Option (Fl × List V × Hp)}
theorem exs_next (h : ex cl s loc H = some (.next, loc', H')) (h2 : exs cl r loc' H' = x) : exs cl (.cons s r) loc H = x := by
  simp only [exs, h, h2]
theorem exs_ret (h : ex cl s loc H = some (.ret v, loc', H')) : exs cl (.cons s r) loc H = some (.ret v, loc', H') := by
  simp only [exs, h]
theorem exs_exc (h : ex cl s loc H = some (.exc, loc', H')) : exs cl (.cons s r) loc H = some (.exc, loc', H') := by
  simp only [exs, h]
theorem ex_ret {e : ME} {q : Nat} (h : ev cl loc e H = some (v, H')) : ex cl (.ret e q) loc H = some (.ret v, loc, H') := by
  simp only [ex, h]
theorem ex_asg {e : ME} {i q : Nat} (h : ev cl loc e H = some (v, H')) : ex cl (.asg i e q) loc H = some (.next, loc.set i v, H') := by
  simp only [ex, h]
theorem ex_if_t {t : ME} {a b : MSs} {q : Nat} (h : ev cl loc t H = some (.bool true, H')) (h2 : exs cl a loc H' = x) : ex cl (.ifs t a b q) loc H = x := by
  simp only [ex, h, h2, if_true]
theorem ex_if_f {t : ME} {a b : MSs} {q : Nat} (h : ev cl loc t H = some (.bool false, H')) (h2 : exs cl b loc H' = x) : ex cl (.ifs t a b q) loc H = x := by
  simp only [ex, h, h2, Bool.false_eq_true, if_false]
end
theorem runB_ret {cl : Cl} {F : FDef} {vs : List V} {H H' : Hp} {v : V} {loc' : List V} {r : Option CR} (hl : vs.length = F.np) (h : exs cl F.body (vs ++ List.replicate (F.D.names.length - F.np) .unset) H = some (.ret v, loc', H')) (hf : fin v H.ms.length H' = r) : runB cl F vs H = r := by
  simp only [runB, if_pos hl, h, hf]
theorem runB_next {cl : Cl} {F : FDef} {vs : List V} {H H' : Hp} {loc' : List V} {r : Option CR} (hl : vs.length = F.np) (h : exs cl F.body (vs ++ List.replicate (F.D.names.length - F.np) .unset) H = some (.next, loc', H')) (hf : fin .none H.ms.length H' = r) : runB cl F vs H = r := by
  simp only [runB, if_pos hl, h, hf]
theorem runB_exc {cl : Cl} {F : FDef} {vs : List V} {H H' : Hp} {loc' : List V} (hl : vs.length = F.np) (h : exs cl F.body (vs ++ List.replicate (F.D.names.length - F.np) .unset) H = some (.exc, loc', H')) : runB cl F vs H = some .exc := by
  simp only [runB, if_pos hl, h]

theorem ms_get (ms : List (List Int)) (xs : List Int) : (ms ++ [xs])[ms.length]? = some xs := by simp
theorem ms_set (ms : List (List Int)) (xs ys : List Int) : (ms ++ [xs]).set ms.length ys = ms ++ [ys] := by simp
theorem ex_app {cl : Cl} {loc : List V} {i q : Nat} {e : ME} {ms : List (List Int)} {xs : List Int} {bx : Option (Int × List Int × Int)} {z : Int} (h : loc[i]? = some (.hnd ms.length)) (he : ev cl loc e ⟨ms ++ [xs], bx⟩ = some (.int z, ⟨ms ++ [xs], bx⟩)) (hl : xs.length < 1048576) :
    ex cl (.app i e q) loc ⟨ms ++ [xs], bx⟩ = some (.next, loc, ⟨ms ++ [xs ++ [z]], bx⟩) := by
  rw [ex]
  simp only [h, he, ms_get, ms_set, if_pos hl]
theorem ex_aug {cl : Cl} {loc : List V} {i q : Nat} {o : Bop} {e : ME} {H H1 : Hp} {x y z : Int} (h : loc[i]? = some (.int x)) (he : ev cl loc e H = some (.int y, H1)) (ha : arith o x y = some z) : ex cl (.aug i o e q) loc H = some (.next, loc.set i (.int z), H1) := by
  rw [ex]
  simp only [h, he, ha]
theorem ex_asg2 {cl : Cl} {loc : List V} {i j q : Nat} {a b : ME} {H H1 H2 : Hp} {x y : V} (ha : ev cl loc a H = some (x, H1)) (hb : ev cl loc b H1 = some (y, H2)) : ex cl (.asg2 i j a b q) loc H = some (.next, (loc.set j y).set i x, H2) := by
  rw [ex]
  simp only [ha, hb]
theorem ex_asg3 {cl : Cl} {loc : List V} {i j k q : Nat} {a b c : ME} {H H1 H2 H3 : Hp} {x y z : V} (ha : ev cl loc a H = some (x, H1)) (hb : ev cl loc b H1 = some (y, H2)) (hc : ev cl loc c H2 = some (z, H3)) : ex cl (.asg3 i j k a b c q) loc H = some (.next, ((loc.set k z).set j y).set i x, H3) := by
  rw [ex]
  simp only [ha, hb, hc]
theorem ex_forR {cl : Cl} {loc : List V} {i q : Nat} {e : ME} {es : MEs} {b : MSs} {H H1 H2 : Hp} {v : V} {vs xs : List V} (he : ev cl loc e H = some (v, H1)) (hes : evs cl loc es H1 = some (vs, H2)) (hr : rangeOf (v :: vs) = some xs) : ex cl (.forR i e es b q) loc H = runL i (exs cl b) xs loc H2 := by
  rw [ex]
  simp only [he, hes, hr]
theorem ex_forL {cl : Cl} {loc : List V} {i q : Nat} {e : ME} {b : MSs} {H H1 : Hp} {xs : List Int} (he : ev cl loc e H = some (.lst xs, H1)) : ex cl (.forL i e b q) loc H = runL i (exs cl b) (xs.map .int) loc H1 := by
  rw [ex]
  simp only [he]
theorem ex_forV {cl : Cl} {loc : List V} {i q : Nat} {e : ME} {b : MSs} {H H1 : Hp} {xs : List Int} (he : ev cl loc e H = some (.lst xs, H1)) : ex cl (.forV i e b q) loc H = runL i (exs cl b) (xs.reverse.map .int) loc H1 := by
  rw [ex]
  simp only [he]
theorem ex_whl {cl : Cl} {t : ME} {b : MSs} {q : Nat} {loc : List V} {H : Hp} : ex cl (.whl t b q) loc H = runW (fun loc H => ev cl loc t H) (exs cl b) wfuel loc H := by rw [ex]
theorem ev_call1 {cl : Cl} {loc : List V} {g q : Nat} {e : ME} {H H1 H2 : Hp} {v r : V} (he : ev cl loc e H = some (v, H1)) (hc : cl g [v] H1 = some (.val r H2)) : ev cl loc (.call g e .nil q) H = some (r, H2) := by
  simp only [ev, he, evs, hc]
theorem ev_call2 {cl : Cl} {loc : List V} {g q : Nat} {e e2 : ME} {H H1 H2 H3 : Hp} {v v2 r : V} (he : ev cl loc e H = some (v, H1)) (he2 : ev cl loc e2 H1 = some (v2, H2)) (hc : cl g [v, v2] H2 = some (.val r H3)) : ev cl loc (.call g e (.cons e2 .nil) q) H = some (r, H3) := by
  simp only [ev, he, evs, he2, hc]
theorem ev_call3 {cl : Cl} {loc : List V} {g q : Nat} {e e2 e3 : ME} {H H1 H2 H3 H4 : Hp} {v v2 v3 r : V} (he : ev cl loc e H = some (v, H1)) (he2 : ev cl loc e2 H1 = some (v2, H2)) (he3 : ev cl loc e3 H2 = some (v3, H3)) (hc : cl g [v, v2, v3] H3 = some (.val r H4)) : ev cl loc (.call g e (.cons e2 (.cons e3 .nil)) q) H = some (r, H4) := by
  simp only [ev, he, evs, he2, he3, hc]

/-- ranges -/
noncomputable def ups (a : Int) : Nat → List V
  | 0 => []
  | n + 1 => .int a :: ups (a + 1) n
noncomputable def downs : Nat → List V
  | 0 => []
  | n + 1 => .int n :: downs n
theorem ups_len : ∀ (n : Nat) (a : Int), (ups a n).length = n
  | 0, _ => rfl
  | n + 1, a => by simp [ups, ups_len n]
theorem ups_get : ∀ (n : Nat) (a : Int) (j : Nat) (v : V), (ups a n)[j]? = some v → j < n ∧ v = .int (a + j)
  | 0, _, _, _, h => by simp [ups] at h
  | n + 1, a, 0, v, h => by simp [ups] at h; exact ⟨by omega, by simp [h]⟩
  | n + 1, a, j + 1, v, h => by
    obtain ⟨h1, h2⟩ := ups_get n (a + 1) j v (by simpa [ups] using h)
    refine ⟨by omega, ?_⟩
    rw [h2]; congr 1; omega
theorem rangeV_ups (a b : Int) : rangeV a b 1 = ups a (b - a).toNat := by
  unfold rangeV rangeN
  rw [if_pos rfl]
  generalize (b - a).toNat = n
  induction n generalizing a with
  | zero => rfl
  | succ n ih =>
    rw [List.range_succ_eq_map, ups, ← ih (a + 1)]
    simp only [List.map_cons, List.map_map]
    congr 1
    · simp
    · apply List.map_congr_left
      intro k _
      simp only [Function.comp]
      congr 1
      omega
theorem rangeV_downs (n : Nat) : rangeV ((n : Int) - 1) (-1) (-1) = downs n := by
  unfold rangeV rangeN
  rw [if_neg (by decide)]
  have e : ((n : Int) - 1 - -1).toNat = n := by omega
  rw [e]
  clear e
  induction n with
  | zero => rfl
  | succ n ih =>
    rw [List.range_succ_eq_map, downs, ← ih]
    simp only [List.map_cons, List.map_map]
    congr 1
    · congr 1; omega
    · apply List.map_congr_left
      intro k _
      simp only [Function.comp]
      congr 1
      omega
theorem okR_of {x : Int} (h : x.natAbs < 1099511627776) : okR x = true := decide_eq_true h
theorem rangeOf1 {b : Int} (h : b.natAbs < 1099511627776) : rangeOf [.int b] = some (ups 0 b.toNat) := by
  simp only [rangeOf, okR_of h, if_true]
  rw [rangeV_ups]; simp
theorem rangeOf2 {a b : Int} (h : a.natAbs < 1099511627776) (h' : b.natAbs < 1099511627776) : rangeOf [.int a, .int b] = some (ups a (b - a).toNat) := by
  simp only [rangeOf, okR_of h, okR_of h', and_self, if_true]
  rw [rangeV_ups]
theorem rangeOf3 {n : Nat} (h : n < 1099511627776) : rangeOf [.int ((n : Int) - 1), .int (-1), .int (-1)] = some (downs n) := by
  show (if ((-1 : Int) = 1 ∨ (-1 : Int) = -1) ∧ okR ((n : Int) - 1) = true ∧ okR (-1) = true then some (rangeV ((n : Int) - 1) (-1) (-1)) else none) = _
  rw [if_pos ⟨.inr rfl, okR_of (by omega), okR_of (by decide)⟩, rangeV_downs]
theorem nn (k : Nat) : ((0 : Int) ≤ (k : Int)) = True := by simp
theorem take_len (H : Hp) : (⟨H.ms.take H.ms.length, H.bx⟩ : Hp) = H := by rw [List.take_length]
theorem hp_eta (H : Hp) : (⟨H.ms, H.bx⟩ : Hp) = H := rfl
end Mine

namespace Mine
noncomputable def Wp (cl : Cl) (b : MSs) (loc : List V) (H : Hp) (P : Fl → List V → Hp → Prop) : Prop := ∃ fl loc' H', exs cl b loc H = some (fl, loc', H') ∧ P fl loc' H'
noncomputable def Cont (cl : Cl) (r : MSs) (P : Fl → List V → Hp → Prop) (fl : Fl) (l : List V) (H : Hp) : Prop := match fl with
  | .next => Wp cl r l H P
  | fl => P fl l H
noncomputable def Nx (I : List V → Hp → Prop) (fl : Fl) (l : List V) (H : Hp) : Prop := fl = .next ∧ I l H

section
variable {cl : Cl} {s : MS} {r a b : MSs} {e e1 e2 e3 t : ME} {es : MEs} {loc l1 : List V} {H H1 H2 H3 : Hp} {P P' : Fl → List V → Hp → Prop} {v v1 v2 v3 : V} {i j k q : Nat}
theorem wp_mono (h : Wp cl b loc H P) (k : ∀ fl l h, P fl l h → P' fl l h) : Wp cl b loc H P' := by
  obtain ⟨fl, l, h', e, p⟩ := h
  exact ⟨fl, l, h', e, k _ _ _ p⟩
theorem wp_nil (h : P .next loc H) : Wp cl .nil loc H P := ⟨.next, loc, H, by rw [exs], h⟩
theorem wp_next (h : ex cl s loc H = some (.next, l1, H1)) (k : Wp cl r l1 H1 P) : Wp cl (.cons s r) loc H P := by
  obtain ⟨fl, l, h', e, p⟩ := k
  exact ⟨fl, l, h', exs_next h e, p⟩
theorem wp_stop {fl : Fl} (h : ex cl s loc H = some (fl, l1, H1)) (hn : fl ≠ .next) (k : P fl l1 H1) : Wp cl (.cons s r) loc H P := by
  refine ⟨fl, l1, H1, ?_, k⟩
  cases fl with
  | next => exact absurd rfl hn
  | ret v => exact exs_ret h
  | exc => exact exs_exc h
theorem wp_ret (h : ev cl loc e H = some (v, H1)) (k : P (.ret v) loc H1) : Wp cl (.cons (.ret e q) r) loc H P := wp_stop (ex_ret h) (fun e => nomatch e) k
theorem wp_raise {msg : Str} (k : P .exc loc H) : Wp cl (.cons (.raise 0 msg q) r) loc H P := wp_stop (fl := .exc) (by rw [ex, if_pos rfl]) (fun e => nomatch e) k
theorem wp_asg (h : ev cl loc e H = some (v, H1)) (k : Wp cl r (loc.set i v) H1 P) : Wp cl (.cons (.asg i e q) r) loc H P := wp_next (ex_asg h) k
theorem wp_asg2 (h1 : ev cl loc e1 H = some (v1, H1)) (h2 : ev cl loc e2 H1 = some (v2, H2)) (k : Wp cl r ((loc.set j v2).set i v1) H2 P) : Wp cl (.cons (.asg2 i j e1 e2 q) r) loc H P := wp_next (ex_asg2 h1 h2) k
theorem wp_asg3 {k : Nat} (h1 : ev cl loc e1 H = some (v1, H1)) (h2 : ev cl loc e2 H1 = some (v2, H2)) (h3 : ev cl loc e3 H2 = some (v3, H3)) (kk : Wp cl r (((loc.set k v3).set j v2).set i v1) H3 P) : Wp cl (.cons (.asg3 i j k e1 e2 e3 q) r) loc H P := wp_next (ex_asg3 h1 h2 h3) kk
theorem wp_aug {o : Bop} {x y z : Int} (h : loc[i]? = some (.int x)) (he : ev cl loc e H = some (.int y, H1)) (ha : arith o x y = some z) (k : Wp cl r (loc.set i (.int z)) H1 P) : Wp cl (.cons (.aug i o e q) r) loc H P := wp_next (ex_aug h he ha) k
theorem wp_app {ms : List (List Int)} {xs : List Int} {bx : Option (Int × List Int × Int)} {z : Int} (h : loc[i]? = some (.hnd ms.length)) (he : ev cl loc e ⟨ms ++ [xs], bx⟩ = some (.int z, ⟨ms ++ [xs], bx⟩)) (hl : xs.length < 1048576)
    (k : Wp cl r loc ⟨ms ++ [xs ++ [z]], bx⟩ P) : Wp cl (.cons (.app i e q) r) loc ⟨ms ++ [xs], bx⟩ P := wp_next (ex_app h he hl) k
theorem wp_asgI {x bv : V} {kk : Int} {ix : ME} (he : ev cl loc e H = some (x, H1)) (hb : loc[i]? = some bv) (hi : ev cl loc ix H1 = some (.int kk, H2)) (hs : setI H2 bv kk x = some H3) (k : Wp cl r loc H3 P) : Wp cl (.cons (.asgI i ix e q) r) loc H P :=
  wp_next (by rw [ex]; simp only [he, hb, hi, hs]) k
theorem wp_exp (h : ev cl loc e H = some (.none, H1)) (k : Wp cl r loc H1 P) : Wp cl (.cons (.exp e q) r) loc H P := wp_next (by rw [ex]; simp only [h]) k
theorem wp_if_t (h : ev cl loc t H = some (.bool true, H1)) (k : Wp cl a loc H1 (Cont cl r P)) : Wp cl (.cons (.ifs t a b q) r) loc H P := by
  obtain ⟨fl, l, h', e, p⟩ := k
  have hx := ex_if_t (q := q) (b := b) h e
  cases fl with
  | next => exact wp_next hx p
  | ret v => exact wp_stop hx (fun e => nomatch e) p
  | exc => exact wp_stop hx (fun e => nomatch e) p
theorem wp_if_f (h : ev cl loc t H = some (.bool false, H1)) (k : Wp cl b loc H1 (Cont cl r P)) : Wp cl (.cons (.ifs t a b q) r) loc H P := by
  obtain ⟨fl, l, h', e, p⟩ := k
  have hx := ex_if_f (q := q) (a := a) h e
  cases fl with
  | next => exact wp_next hx p
  | ret v => exact wp_stop hx (fun e => nomatch e) p
  | exc => exact wp_stop hx (fun e => nomatch e) p
/-- an if without an else that is passed by -/
theorem wp_skip (h : ev cl loc t H = some (.bool false, H1)) (k : Wp cl r loc H1 P) : Wp cl (.cons (.ifs t a .nil q) r) loc H P := wp_if_f h (wp_nil k)
theorem wp_loop {xs : List V} (I : Nat → List V → Hp → Prop) (hx : ex cl s loc H = runL i (exs cl b) xs loc H1) (init : I 0 loc H1)
    (step : ∀ j v loc H, xs[j]? = some v → I j loc H → Wp cl b (loc.set i v) H (Nx (I (j + 1)))) (k : ∀ l h, I xs.length l h → Wp cl r l h P) : Wp cl (.cons s r) loc H P := by
  obtain ⟨l, h, e, p⟩ := runL_inv (i := i) (body := exs cl b) I xs loc H1 0 (fun j v loc H hj hI => by
    rw [Nat.zero_add] at hI
    obtain ⟨fl, l, h, e, hf, p⟩ := step j v loc H hj hI
    subst hf
    exact ⟨l, h, e, by rw [Nat.zero_add]; exact p⟩) init
  rw [Nat.zero_add] at p
  exact wp_next (hx.trans e) (k l h p)
theorem wp_forR {xs vs : List V} (I : Nat → List V → Hp → Prop) (he : ev cl loc e H = some (v, H)) (hes : evs cl loc es H = some (vs, H)) (hr : rangeOf (v :: vs) = some xs) (init : I 0 loc H)
    (step : ∀ j v loc H, xs[j]? = some v → I j loc H → Wp cl b (loc.set i v) H (Nx (I (j + 1)))) (k : ∀ l h, I xs.length l h → Wp cl r l h P) : Wp cl (.cons (.forR i e es b q) r) loc H P :=
  wp_loop I (ex_forR he hes hr) init step k
theorem wp_forL {xs : List Int} (I : Nat → List V → Hp → Prop) (he : ev cl loc e H = some (.lst xs, H)) (init : I 0 loc H)
    (step : ∀ j v loc H, xs[j]? = some v → I j loc H → Wp cl b (loc.set i (.int v)) H (Nx (I (j + 1)))) (k : ∀ l h, I xs.length l h → Wp cl r l h P) : Wp cl (.cons (.forL i e b q) r) loc H P :=
  wp_loop I (ex_forL he) init (fun j v loc H hj hI => by
    rw [List.getElem?_map, Option.map_eq_some_iff] at hj
    obtain ⟨z, hz, rfl⟩ := hj
    exact step j z loc H hz hI) (fun l h hI => k l h (by rw [List.length_map] at hI; exact hI))
theorem wp_forV {xs : List Int} (I : Nat → List V → Hp → Prop) (he : ev cl loc e H = some (.lst xs, H)) (init : I 0 loc H)
    (step : ∀ j v loc H, xs.reverse[j]? = some v → I j loc H → Wp cl b (loc.set i (.int v)) H (Nx (I (j + 1)))) (k : ∀ l h, I xs.length l h → Wp cl r l h P) : Wp cl (.cons (.forV i e b q) r) loc H P :=
  wp_loop I (ex_forV he) init (fun j v loc H hj hI => by
    rw [List.getElem?_map, Option.map_eq_some_iff] at hj
    obtain ⟨z, hz, rfl⟩ := hj
    exact step j z loc H hz hI) (fun l h hI => k l h (by rw [List.length_map, List.length_reverse] at hI; exact hI))
theorem wp_whl (I : Nat → List V → Hp → Prop) (n : Nat) (hn : n < wfuel) (init : I n loc H)
    (step : ∀ k loc H, I k loc H → (ev cl loc t H = some (.bool false, H) ∧ Wp cl r loc H P) ∨ ∃ k' H1, k = k' + 1 ∧ ev cl loc t H = some (.bool true, H1) ∧ Wp cl b loc H1 (Nx (I k'))) : Wp cl (.cons (.whl t b q) r) loc H P := by
  obtain ⟨l, h, e, p⟩ := runW_inv (test := fun loc H => ev cl loc t H) (body := exs cl b) I (fun l h => Wp cl r l h P) (fun k loc H hI => by
    rcases step k loc H hI with h | ⟨k', H1, e, h1, fl, l, h, e2, hf, p⟩
    · exact .inl h
    · subst hf
      exact .inr ⟨k', l, H1, h, e, h1, e2, p⟩) n loc H wfuel init hn
  exact wp_next (by rw [ex_whl]; exact e) p
end
theorem runB_wp {cl : Cl} {F : FDef} {vs : List V} {H : Hp} {r : Option CR} (hl : vs.length = F.np) (h : Wp cl F.body (vs ++ List.replicate (F.D.names.length - F.np) .unset) H (fun fl _ H' => ∃ v, fl = .ret v ∧ fin v H.ms.length H' = r)) : runB cl F vs H = r := by
  obtain ⟨fl, l, h', e, v, rfl, hf⟩ := h
  exact runB_ret hl e hf
theorem runB_wpN {cl : Cl} {F : FDef} {vs : List V} {H : Hp} {r : Option CR} (hl : vs.length = F.np) (h : Wp cl F.body (vs ++ List.replicate (F.D.names.length - F.np) .unset) H (fun fl _ H' => fl = .next ∧ fin .none H.ms.length H' = r)) : runB cl F vs H = r := by
  obtain ⟨fl, l, h', e, rfl, hf⟩ := h
  exact runB_next hl e hf
theorem runB_wpE {cl : Cl} {F : FDef} {vs : List V} {H : Hp} (hl : vs.length = F.np) (h : Wp cl F.body (vs ++ List.replicate (F.D.names.length - F.np) .unset) H (fun fl _ H' => fl = .exc)) : runB cl F vs H = some .exc := by
  obtain ⟨fl, l, h', e, rfl⟩ := h
  exact runB_exc hl e
/-- what a body that returns gives -/
noncomputable abbrev Gives (v : V) (H0 : Hp) (r : Option CR) (fl : Fl) (l : List V) (H' : Hp) : Prop := ∃ v, fl = .ret v ∧ fin v H0.ms.length H' = r
theorem gives_lst {H : Hp} {xs : List Int} : ∃ v, Fl.ret (.lst xs) = .ret v ∧ fin v H.ms.length H = some (.val (.lst xs) H) := ⟨_, rfl, by rw [fin_lst, take_len]⟩
theorem gives_int {H : Hp} {x : Int} : ∃ v, Fl.ret (.int x) = .ret v ∧ fin v H.ms.length H = some (.val (.int x) H) := ⟨_, rfl, by rw [fin_int, take_len]⟩
theorem gives_bool {H : Hp} {x : Bool} : ∃ v, Fl.ret (.bool x) = .ret v ∧ fin v H.ms.length H = some (.val (.bool x) H) := ⟨_, rfl, by rw [fin_bool, take_len]⟩
theorem gives_hnd {H : Hp} {xs : List Int} : ∃ v, Fl.ret (.hnd H.ms.length) = .ret v ∧ fin v H.ms.length ⟨H.ms ++ [xs], H.bx⟩ = some (.val (.lst xs) H) := ⟨_, rfl, by rw [fin_hnd]⟩
theorem gives_lst1 {H : Hp} {xs ys : List Int} : ∃ v, Fl.ret (.lst xs) = .ret v ∧ fin v H.ms.length ⟨H.ms ++ [ys], H.bx⟩ = some (.val (.lst xs) H) := ⟨_, rfl, by rw [fin_lst]; simp⟩
end Mine

namespace Mine


theorem normal_v {B : Int} (hB : 2 ≤ B) (n : Nat) {H : Hp} {v : V} {xs : List Int} (hv : items H v = some xs) (hd : Dg B xs) (hl : xs.length < 90000) :
    callM PT (n + 1) 0 [v] H = some (.val (.lst (row B (num B xs))) H) := by
  rw [callM_succ]
  show runB (callM PT n) F_normal [v] H = _
  have hvn := items_ne hv
  refine runB_ret (loc' := [v, .int (row B (num B xs)).length]) (H' := H) (v := .lst (row B (num B xs))) rfl ?_ (by rw [fin_lst, take_len])
  show exs _ b_normal [v, .unset] H = some (.ret _, [v, .int (row B (num B xs)).length], H)
  refine exs_next (ex_asg (ev_lenV rfl hv)) ?_
  simp only [set1]
  have loop : ∃ loc' H', ex (callM PT n) (.whl (.logic true (.cmp .gt (.loc 1 5) (.int 0 6) 7) (.cons (.cmp .eq (.item (.loc 0 8) (.bin .sub (.loc 1 9) (.int 1 10) 11) 12) (.int 0 13) 14) .nil) 15) (.cons (.aug 1 .sub (.int 1 16) 17) .nil) 19) [v, .int xs.length] H = some (.next, loc', H') ∧
      ∃ e : Nat, e ≤ xs.length ∧ (∀ x ∈ xs.drop e, x = 0) ∧ (e = 0 ∨ ∃ x, xs[e - 1]? = some x ∧ x ≠ 0) ∧ loc' = [v, .int e] ∧ H' = H := by
    rw [ex_whl]
    refine runW_inv (fun k loc H' => ∃ e : Nat, k = e ∧ e ≤ xs.length ∧ (∀ x ∈ xs.drop e, x = 0) ∧ loc = [v, .int e] ∧ H' = H) _ ?_ xs.length _ _ _ ⟨xs.length, rfl, Nat.le_refl _, by simp, rfl, rfl⟩ (by unfold wfuel; omega)
    rintro k loc H' ⟨e, rfl, h1, h2, rfl, rfl⟩
    cases k with
    | zero =>
      refine .inl ⟨?_, 0, h1, h2, .inl rfl, rfl, rfl⟩
      simp only [ev, evs, evl, ex, exs, get0, get1, get2, get3, get4, get5, get6, get7, get8, get9, get10, get11, get12, get13, get14, set0, set1, set2, set3, set4, set5, set6, set7, set8, set9, set10, set11, set12, set13, set14, ar_add, ar_sub, ar_and, ar_or, ar_shr, items_lst, itemV_lst, itemV_box0, itemV_box1, itemV_box2, cmpV_int, cmpV_eqL, cmpV_neL, cmpI_eq, cmpI_ne, cmpI_lt, cmpI_le, cmpI_gt, cmpI_ge, attrV, reduceIte, if_true, if_false, decide_true, decide_false, Bool.not_true, Bool.not_false, Bool.false_eq_true, reduceCtorEq, decide_eq_true_eq, Int.toNat_natCast, Option.map_some, nn, Int.reduceLE, Int.reduceToNat, Int.reduceLT, Int.reduceEq, Int.reduceNeg, Int.le_refl]
      simp
    | succ e =>
      have hlt : e < xs.length := by omega
      have hx : xs[e]? = some xs[e] := List.getElem?_eq_getElem hlt
      have e0 : ((e + 1 : Nat) : Int) - 1 = (e : Int) := by omega
      have hg : ((0 : Int) < ((e + 1 : Nat) : Int)) = True := by simp
      have hit : ev (callM PT n) [v, .int ((e + 1 : Nat) : Int)] (.item (.loc 0 8) (.bin .sub (.loc 1 9) (.int 1 10) 11) 12) H' = some (.int xs[e], H') := by
        refine ev_itemV (k := (e : Int)) rfl hv ?_ (by omega) (by simpa using hx)
        simp only [ev, evs, evl, ex, exs, get0, get1, get2, get3, get4, get5, get6, get7, get8, get9, get10, get11, get12, get13, get14, set0, set1, set2, set3, set4, set5, set6, set7, set8, set9, set10, set11, set12, set13, set14, ar_add, ar_sub, ar_and, ar_or, ar_shr, items_lst, itemV_lst, itemV_box0, itemV_box1, itemV_box2, cmpV_int, cmpV_eqL, cmpV_neL, cmpI_eq, cmpI_ne, cmpI_lt, cmpI_le, cmpI_gt, cmpI_ge, attrV, reduceIte, if_true, if_false, decide_true, decide_false, Bool.not_true, Bool.not_false, Bool.false_eq_true, reduceCtorEq, decide_eq_true_eq, Int.toNat_natCast, Option.map_some, nn, Int.reduceLE, Int.reduceToNat, Int.reduceLT, Int.reduceEq, Int.reduceNeg, Int.le_refl, e0]
      by_cases hz : xs[e] = 0
      · refine .inr ⟨e, [v, .int e], H', H', rfl, ?_, ?_, e, rfl, by omega, ?_, rfl, rfl⟩
        · simp only [ev, evs, evl, ex, exs, get0, get1, get2, get3, get4, get5, get6, get7, get8, get9, get10, get11, get12, get13, get14, set0, set1, set2, set3, set4, set5, set6, set7, set8, set9, set10, set11, set12, set13, set14, ar_add, ar_sub, ar_and, ar_or, ar_shr, items_lst, itemV_lst, itemV_box0, itemV_box1, itemV_box2, cmpV_int, cmpV_eqL, cmpV_neL, cmpI_eq, cmpI_ne, cmpI_lt, cmpI_le, cmpI_gt, cmpI_ge, attrV, reduceIte, if_true, if_false, decide_true, decide_false, Bool.not_true, Bool.not_false, Bool.false_eq_true, reduceCtorEq, decide_eq_true_eq, Int.toNat_natCast, Option.map_some, nn, Int.reduceLE, Int.reduceToNat, Int.reduceLT, Int.reduceEq, Int.reduceNeg, Int.le_refl, hg, ↓hit, hz]
        · simp only [ev, evs, evl, ex, exs, get0, get1, get2, get3, get4, get5, get6, get7, get8, get9, get10, get11, get12, get13, get14, set0, set1, set2, set3, set4, set5, set6, set7, set8, set9, set10, set11, set12, set13, set14, ar_add, ar_sub, ar_and, ar_or, ar_shr, items_lst, itemV_lst, itemV_box0, itemV_box1, itemV_box2, cmpV_int, cmpV_eqL, cmpV_neL, cmpI_eq, cmpI_ne, cmpI_lt, cmpI_le, cmpI_gt, cmpI_ge, attrV, reduceIte, if_true, if_false, decide_true, decide_false, Bool.not_true, Bool.not_false, Bool.false_eq_true, reduceCtorEq, decide_eq_true_eq, Int.toNat_natCast, Option.map_some, nn, Int.reduceLE, Int.reduceToNat, Int.reduceLT, Int.reduceEq, Int.reduceNeg, Int.le_refl, e0]
        · intro x hx
          rw [List.drop_eq_getElem_cons hlt] at hx
          rcases List.mem_cons.mp hx with rfl | hx
          · exact hz
          · exact h2 x hx
      · refine .inl ⟨?_, e + 1, h1, h2, .inr ⟨xs[e], hx, hz⟩, rfl, rfl⟩
        simp only [ev, evs, evl, ex, exs, get0, get1, get2, get3, get4, get5, get6, get7, get8, get9, get10, get11, get12, get13, get14, set0, set1, set2, set3, set4, set5, set6, set7, set8, set9, set10, set11, set12, set13, set14, ar_add, ar_sub, ar_and, ar_or, ar_shr, items_lst, itemV_lst, itemV_box0, itemV_box1, itemV_box2, cmpV_int, cmpV_eqL, cmpV_neL, cmpI_eq, cmpI_ne, cmpI_lt, cmpI_le, cmpI_gt, cmpI_ge, attrV, reduceIte, if_true, if_false, decide_true, decide_false, Bool.not_true, Bool.not_false, Bool.false_eq_true, reduceCtorEq, decide_eq_true_eq, Int.toNat_natCast, Option.map_some, nn, Int.reduceLE, Int.reduceToNat, Int.reduceLT, Int.reduceEq, Int.reduceNeg, Int.le_refl, hg, ↓hit, hz]
  obtain ⟨_, _, e1, e, h1, h2, h3, rfl, rfl⟩ := loop
  refine exs_next e1 ?_
  have hrow := strip_row hB hd h1 h2 h3
  have hlen : (row B (num B xs)).length = e := by rw [← hrow, List.length_take]; omega
  rw [hlen, ← hrow]
  refine exs_ret (ex_ret ?_)
  rw [ev, ev_loc rfl hvn]
  simp only [ev, evs, evl, ex, exs, get0, get1, get2, get3, get4, get5, get6, get7, get8, get9, get10, get11, get12, get13, get14, set0, set1, set2, set3, set4, set5, set6, set7, set8, set9, set10, set11, set12, set13, set14, ar_add, ar_sub, ar_and, ar_or, ar_shr, items_lst, itemV_lst, itemV_box0, itemV_box1, itemV_box2, cmpV_int, cmpV_eqL, cmpV_neL, cmpI_eq, cmpI_ne, cmpI_lt, cmpI_le, cmpI_gt, cmpI_ge, attrV, reduceIte, if_true, if_false, decide_true, decide_false, Bool.not_true, Bool.not_false, Bool.false_eq_true, reduceCtorEq, decide_eq_true_eq, Int.toNat_natCast, Option.map_some, nn, Int.reduceLE, Int.reduceToNat, Int.reduceLT, Int.reduceEq, Int.reduceNeg, Int.le_refl, hv]
end Mine

namespace Mine

theorem snoc_cases {α : Type} (xs : List α) : xs = [] ∨ ∃ ys x, xs = ys ++ [x] := by
  cases h : xs.reverse with
  | nil => left; simpa using h
  | cons x r => right; exact ⟨r.reverse, x, by rw [← List.reverse_reverse xs, h]; simp⟩

theorem nm_of_ge {B : Int} (hB : 2 ≤ B) {xs : List Int} (h : Dg B xs) (hg : xs.length = 0 ∨ B ^ (xs.length - 1) ≤ num B xs) : Nm xs := by
  rcases snoc_cases xs with rfl | ⟨ys, x, rfl⟩
  · trivial
  · rcases hg with hg | hg
    · simp at hg
    · by_cases hx : x = 0
      · subst hx
        rw [num_append] at hg
        have := num_lt (B := B) (by omega) h.left
        simp [num] at hg
        omega
      · exact nm_append_last hx

theorem finish_row {B : Int} (hB : 2 ≤ B) {f : List Int} {c N : Int} (hd : Dg B f) (hc : 0 ≤ c ∧ c < B) (hN : num B f + B ^ f.length * c = N) (hg : f.length = 0 ∨ B ^ (f.length - 1) ≤ N) : (if 0 < c then f ++ [c] else f) = row B N := by
  split
  · rename_i h
    refine row_eq hB (hd.append (Dg.cons hc Dg.nil)) (nm_append_last (by omega)) ?_
    rw [num_append, ← hN]; simp [num]
  · have : c = 0 := by omega
    subst this
    rw [Int.mul_zero, Int.add_zero] at hN
    exact row_eq hB hd (nm_of_ge hB hd (by rw [hN]; exact hg)) hN

noncomputable def sg (x y : Int) : Int := if x < y then -1 else if x = y then 0 else 1
theorem sg_add (x y c : Int) : sg (x + c) (y + c) = sg x y := by
  unfold sg
  by_cases h : x < y
  · rw [if_pos h, if_pos (by omega)]
  · rw [if_neg h, if_neg (by omega)]
    by_cases h2 : x = y
    · rw [if_pos h2, if_pos (by omega)]
    · rw [if_neg h2, if_neg (by omega)]
theorem sg_lt {x y : Int} (h : x < y) : sg x y = -1 := if_pos h
theorem sg_gt {x y : Int} (h : y < x) : sg x y = 1 := by
  unfold sg; rw [if_neg (by omega), if_neg (by omega)]
theorem sg_self (x : Int) : sg x x = 0 := by
  unfold sg; rw [if_neg (by omega), if_pos rfl]

theorem num_take_succ {B : Int} {a : List Int} {k : Nat} (h : k < a.length) : num B (a.take (k + 1)) = num B (a.take k) + B ^ k * a[k] := by
  rw [List.take_succ_eq_append_getElem h, num_append, List.length_take, Nat.min_eq_left (Nat.le_of_lt h)]
  simp [num]
theorem Dg.take {B : Int} {xs : List Int} (h : Dg B xs) (k : Nat) : Dg B (xs.take k) := fun y hy => h y (List.mem_of_mem_take hy)
theorem Dg.drop {B : Int} {xs : List Int} (h : Dg B xs) (k : Nat) : Dg B (xs.drop k) := fun y hy => h y (List.mem_of_mem_drop hy)
theorem num_take_lt {B : Int} (hB : 2 ≤ B) {a : List Int} (h : Dg B a) {k : Nat} (hk : k ≤ a.length) : 0 ≤ num B (a.take k) ∧ num B (a.take k) < B ^ k := by
  have h1 := num_nonneg (B := B) (by omega) (h.take k)
  have h2 := num_lt (B := B) (by omega) (h.take k)
  rw [List.length_take, Nat.min_eq_left hk] at h2
  exact ⟨h1, h2⟩

theorem sg_top_eq {B : Int} {a b : List Int} {k : Nat} (ha : k < a.length) (hb : k < b.length) (h : a[k] = b[k]) : sg (num B (a.take (k + 1))) (num B (b.take (k + 1))) = sg (num B (a.take k)) (num B (b.take k)) := by
  rw [num_take_succ ha, num_take_succ hb, h, sg_add]
theorem lt_of_top {P x y a b : Int} (hP : 0 ≤ P) (hx : x < P) (hb : 0 ≤ y) (h : a < b) : x + P * a < y + P * b := by
  have : P * (a + 1) ≤ P * b := Int.mul_le_mul_of_nonneg_left (by omega) hP
  have e : P * (a + 1) = P * a + P := by grind
  omega
theorem sg_top_ne {B : Int} (hB : 2 ≤ B) {a b : List Int} (hda : Dg B a) (hdb : Dg B b) {k : Nat} (ha : k < a.length) (hb : k < b.length) (h : a[k] ≠ b[k]) :
    sg (num B (a.take (k + 1))) (num B (b.take (k + 1))) = if a[k] < b[k] then -1 else 1 := by
  have h1 := num_take_lt hB hda (Nat.le_of_lt ha)
  have h2 := num_take_lt hB hdb (Nat.le_of_lt hb)
  have hP : 0 ≤ B ^ k := Int.pow_nonneg (by omega)
  rw [num_take_succ ha, num_take_succ hb]
  split
  · rename_i q
    exact sg_lt (lt_of_top hP h1.2 h2.1 q)
  · rename_i q
    exact sg_gt (lt_of_top hP h2.2 h1.1 (by omega))

theorem num_lt_of_len {B : Int} (hB : 2 ≤ B) {a b : List Int} (ha : Dg B a) (hb : Dg B b) (hn : Nm b) (h : a.length < b.length) : num B a < num B b := by
  have h1 := num_lt (B := B) (by omega) ha
  cases b with
  | nil => simp at h
  | cons y r =>
    have h2 := nm_ge (by omega) hb hn
    have h3 : B ^ a.length ≤ B ^ r.length := ipow_mono (by omega) (by simp at h; omega)
    omega
theorem num_take_all {B : Int} {a : List Int} : num B (a.take a.length) = num B a := by rw [List.take_length]
theorem B_rng {w : Nat} (h : 2 ≤ w ∧ w ≤ 9) : (4 : Int) ≤ 2 ^ w ∧ (2 : Int) ^ w ≤ 512 := by
  have h1 : (2 : Int) ^ 2 ≤ 2 ^ w := ipow_mono (by omega) h.1
  have h2 : (2 : Int) ^ w ≤ 2 ^ 9 := ipow_mono (by omega) h.2
  have e1 : (2 : Int) ^ 2 = 4 := by decide
  have e2 : (2 : Int) ^ 9 = 512 := by decide
  omega
theorem B_even {w : Nat} (h : 2 ≤ w ∧ w ≤ 9) : (2 : Int) ^ w = 4 * 2 ^ (w - 2) := by
  obtain ⟨k, rfl⟩ : ∃ k, w = k + 2 := ⟨w - 2, by omega⟩
  rw [Nat.add_sub_cancel, Int.pow_succ, Int.pow_succ]; omega
end Mine
namespace Mine
theorem push_num {B : Int} (hB : 0 < B) {f : List Int} {t : Int} : num B (f ++ [t % B]) + B ^ (f ++ [t % B]).length * (t / B) = num B f + B ^ f.length * t := by
  have h := Int.emod_add_mul_ediv t B
  rw [num_append, List.length_append, List.length_singleton, Int.pow_succ]
  simp only [num]
  have e : num B f + B ^ f.length * (t % B + B * 0) + B ^ f.length * B * (t / B) = num B f + B ^ f.length * (t % B + B * (t / B)) := by grind
  rw [e, h]
theorem dg_push {B : Int} (hB : 0 < B) {f : List Int} {t : Int} (h : Dg B f) : Dg B (f ++ [t % B]) :=
  h.append (Dg.cons ⟨Int.emod_nonneg _ (by omega), Int.emod_lt_of_pos _ hB⟩ Dg.nil)
theorem row_len_small {B n : Int} (hB : 2 ≤ B) (h : 0 ≤ n) {k : Nat} (hk : n < B ^ k) (hs : k ≤ 1000) : (row B n).length < 1001 := by
  have := row_len_le hB h hk; omega
end Mine

namespace Mine

theorem ar_and1 (x : Int) : arith .and x 1 = some (x % 2) := by
  show some (Builtin.bitAnd x 1) = _
  rw [bitAnd_m1]

theorem is_even_v (n : Nat) {H : Hp} {xs : List Int} : callM PT (n + 1) 1 [.lst xs] H = some (.val (.bool (match xs with | [] => true | x :: _ => decide (x % 2 = 0))) H) := by
  rw [callM_succ]
  show runB (callM PT n) F_is_even [.lst xs] H = _
  refine runB_ret (loc' := [.lst xs]) (H' := H) (v := .bool (match xs with | [] => true | x :: _ => decide (x % 2 = 0))) rfl ?_ (by rw [fin_bool, take_len])
  show exs _ b_is_even [.lst xs] H = _
  refine exs_ret (ex_ret ?_)
  cases xs with
  | nil => simp only [ev, evs, evl, ex, exs, get0, get1, get2, get3, get4, get5, get6, get7, get8, get9, get10, get11, get12, get13, get14, set0, set1, set2, set3, set4, set5, set6, set7, set8, set9, set10, set11, set12, set13, set14, ar_add, ar_sub, ar_and, ar_or, ar_shr, items_lst, itemV_lst, itemV_box0, itemV_box1, itemV_box2, cmpV_int, cmpV_eqL, cmpV_neL, cmpI_eq, cmpI_ne, cmpI_lt, cmpI_le, cmpI_gt, cmpI_ge, attrV, reduceIte, if_true, if_false, decide_true, decide_false, Bool.not_true, Bool.not_false, Bool.false_eq_true, reduceCtorEq, decide_eq_true_eq, Int.toNat_natCast, Option.map_some, nn, Int.reduceLE, Int.reduceToNat, Int.reduceLT, Int.reduceEq, Int.reduceNeg, Int.le_refl]; simp
  | cons x r =>
    have h1 : ((List.length (x :: r) : Nat) : Int) = 0 ↔ False := by simp; omega
    simp only [ev, evs, evl, ex, exs, get0, get1, get2, get3, get4, get5, get6, get7, get8, get9, get10, get11, get12, get13, get14, set0, set1, set2, set3, set4, set5, set6, set7, set8, set9, set10, set11, set12, set13, set14, ar_add, ar_sub, ar_and, ar_or, ar_shr, items_lst, itemV_lst, itemV_box0, itemV_box1, itemV_box2, cmpV_int, cmpV_eqL, cmpV_neL, cmpI_eq, cmpI_ne, cmpI_lt, cmpI_le, cmpI_gt, cmpI_ge, attrV, reduceIte, if_true, if_false, decide_true, decide_false, Bool.not_true, Bool.not_false, Bool.false_eq_true, reduceCtorEq, decide_eq_true_eq, Int.toNat_natCast, Option.map_some, nn, Int.reduceLE, Int.reduceToNat, Int.reduceLT, Int.reduceEq, Int.reduceNeg, Int.le_refl, h1, ar_and1]
    simp

theorem compare_v {B : Int} (hB : 2 ≤ B) (n : Nat) {H : Hp} {a b : List Int} (ha : Dg B a) (hna : Nm a) (hb : Dg B b) (hnb : Nm b) (hl : a.length < 1000) :
    callM PT (n + 1) 2 [.lst a, .lst b] H = some (.val (.int (sg (num B a) (num B b))) H) := by
  rw [callM_succ]
  show runB (callM PT n) F_compare [.lst a, .lst b] H = _
  have main : ∃ loc', exs (callM PT n) b_compare [.lst a, .lst b, .unset] H = some (.ret (.int (sg (num B a) (num B b))), loc', H) := by
    by_cases hlen : a.length = b.length
    · have loop : ∀ (k : Nat) (v : V), k ≤ a.length → ∃ loc', runL 2 (exs (callM PT n) (.cons (.ifs (.cmp .ne (.item (.loc 0 29) (.loc 2 30) 31) (.item (.loc 1 32) (.loc 2 33) 34) 35) (.cons (.ret (.ife (.cmp .lt (.item (.loc 0 36) (.loc 2 37) 38) (.item (.loc 1 39) (.loc 2 40) 41) 42) (.neg (.int 1 43) 44) (.int 1 45) 46) 47) .nil) .nil 48) .nil)) (downs k) [.lst a, .lst b, v] H =
          some (if sg (num B (a.take k)) (num B (b.take k)) = 0 then .next else .ret (.int (sg (num B (a.take k)) (num B (b.take k)))), loc', H) := by
        intro k
        induction k with
        | zero => intro v _; exact ⟨[.lst a, .lst b, v], by simp [downs, runL, sg_self]⟩
        | succ k ih =>
          intro v hk
          have h1 : k < a.length := by omega
          have h2 : k < b.length := by omega
          have e1 : a[k]? = some a[k] := List.getElem?_eq_getElem h1
          have e2 : b[k]? = some b[k] := List.getElem?_eq_getElem h2
          by_cases he : a[k] = b[k]
          · obtain ⟨loc', hl'⟩ := ih (.int k) (by omega)
            refine ⟨loc', ?_⟩
            rw [sg_top_eq h1 h2 he, ← hl', downs]
            refine runL_cons ?_
            simp only [ev, evs, evl, ex, exs, get0, get1, get2, get3, get4, get5, get6, get7, get8, get9, get10, get11, get12, get13, get14, set0, set1, set2, set3, set4, set5, set6, set7, set8, set9, set10, set11, set12, set13, set14, ar_add, ar_sub, ar_and, ar_or, ar_shr, items_lst, itemV_lst, itemV_box0, itemV_box1, itemV_box2, cmpV_int, cmpV_eqL, cmpV_neL, cmpI_eq, cmpI_ne, cmpI_lt, cmpI_le, cmpI_gt, cmpI_ge, attrV, reduceIte, if_true, if_false, decide_true, decide_false, Bool.not_true, Bool.not_false, Bool.false_eq_true, reduceCtorEq, decide_eq_true_eq, Int.toNat_natCast, Option.map_some, nn, Int.reduceLE, Int.reduceToNat, Int.reduceLT, Int.reduceEq, Int.reduceNeg, Int.le_refl, e1, e2, he]
          · refine ⟨[.lst a, .lst b, .int k], ?_⟩
            have hs := sg_top_ne hB ha hb h1 h2 he
            have hne : ¬ sg (num B (a.take (k + 1))) (num B (b.take (k + 1))) = 0 := by rw [hs]; split <;> omega
            rw [if_neg hne, hs, downs]
            by_cases q : a[k] < b[k]
            · simp only [runL, ev, evs, evl, ex, exs, get0, get1, get2, get3, get4, get5, get6, get7, get8, get9, get10, get11, get12, get13, get14, set0, set1, set2, set3, set4, set5, set6, set7, set8, set9, set10, set11, set12, set13, set14, ar_add, ar_sub, ar_and, ar_or, ar_shr, items_lst, itemV_lst, itemV_box0, itemV_box1, itemV_box2, cmpV_int, cmpV_eqL, cmpV_neL, cmpI_eq, cmpI_ne, cmpI_lt, cmpI_le, cmpI_gt, cmpI_ge, attrV, reduceIte, if_true, if_false, decide_true, decide_false, Bool.not_true, Bool.not_false, Bool.false_eq_true, reduceCtorEq, decide_eq_true_eq, Int.toNat_natCast, Option.map_some, nn, Int.reduceLE, Int.reduceToNat, Int.reduceLT, Int.reduceEq, Int.reduceNeg, Int.le_refl, e1, e2, he, q]
            · simp only [runL, ev, evs, evl, ex, exs, get0, get1, get2, get3, get4, get5, get6, get7, get8, get9, get10, get11, get12, get13, get14, set0, set1, set2, set3, set4, set5, set6, set7, set8, set9, set10, set11, set12, set13, set14, ar_add, ar_sub, ar_and, ar_or, ar_shr, items_lst, itemV_lst, itemV_box0, itemV_box1, itemV_box2, cmpV_int, cmpV_eqL, cmpV_neL, cmpI_eq, cmpI_ne, cmpI_lt, cmpI_le, cmpI_gt, cmpI_ge, attrV, reduceIte, if_true, if_false, decide_true, decide_false, Bool.not_true, Bool.not_false, Bool.false_eq_true, reduceCtorEq, decide_eq_true_eq, Int.toNat_natCast, Option.map_some, nn, Int.reduceLE, Int.reduceToNat, Int.reduceLT, Int.reduceEq, Int.reduceNeg, Int.le_refl, e1, e2, he, q]
      obtain ⟨loc', hl'⟩ := loop a.length .unset (Nat.le_refl _)
      rw [num_take_all, hlen, num_take_all] at hl'
      have h1 : ex (callM PT n) (.ifs (.cmp .ne (.len (.loc 0 0) 1) (.len (.loc 1 3) 4) 6) (.cons (.ret (.ife (.cmp .lt (.len (.loc 0 7) 8) (.len (.loc 1 10) 11) 13) (.neg (.int 1 14) 15) (.int 1 16) 17) 18) .nil) .nil 19) [.lst a, .lst b, .unset] H = some (.next, [.lst a, .lst b, .unset], H) := by
        simp only [ev, evs, evl, ex, exs, get0, get1, get2, get3, get4, get5, get6, get7, get8, get9, get10, get11, get12, get13, get14, set0, set1, set2, set3, set4, set5, set6, set7, set8, set9, set10, set11, set12, set13, set14, ar_add, ar_sub, ar_and, ar_or, ar_shr, items_lst, itemV_lst, itemV_box0, itemV_box1, itemV_box2, cmpV_int, cmpV_eqL, cmpV_neL, cmpI_eq, cmpI_ne, cmpI_lt, cmpI_le, cmpI_gt, cmpI_ge, attrV, reduceIte, if_true, if_false, decide_true, decide_false, Bool.not_true, Bool.not_false, Bool.false_eq_true, reduceCtorEq, decide_eq_true_eq, Int.toNat_natCast, Option.map_some, nn, Int.reduceLE, Int.reduceToNat, Int.reduceLT, Int.reduceEq, Int.reduceNeg, Int.le_refl, hlen]
      by_cases hs : sg (num B a) (num B b) = 0
      · refine ⟨loc', ?_⟩
        rw [if_pos hs] at hl'
        refine exs_next h1 (exs_next (loc' := loc') (H' := H) ?_ (exs_ret (ex_ret ?_)))
        · rw [ex_forR (v := .int ((b.length : Int) - 1)) (vs := [.int (-1), .int (-1)]) (H1 := H) (H2 := H) (by simp only [ev, evs, evl, ex, exs, get0, get1, get2, get3, get4, get5, get6, get7, get8, get9, get10, get11, get12, get13, get14, set0, set1, set2, set3, set4, set5, set6, set7, set8, set9, set10, set11, set12, set13, set14, ar_add, ar_sub, ar_and, ar_or, ar_shr, items_lst, itemV_lst, itemV_box0, itemV_box1, itemV_box2, cmpV_int, cmpV_eqL, cmpV_neL, cmpI_eq, cmpI_ne, cmpI_lt, cmpI_le, cmpI_gt, cmpI_ge, attrV, reduceIte, if_true, if_false, decide_true, decide_false, Bool.not_true, Bool.not_false, Bool.false_eq_true, reduceCtorEq, decide_eq_true_eq, Int.toNat_natCast, Option.map_some, nn, Int.reduceLE, Int.reduceToNat, Int.reduceLT, Int.reduceEq, Int.reduceNeg, Int.le_refl, hlen]) (by simp only [ev, evs, evl, ex, exs, get0, get1, get2, get3, get4, get5, get6, get7, get8, get9, get10, get11, get12, get13, get14, set0, set1, set2, set3, set4, set5, set6, set7, set8, set9, set10, set11, set12, set13, set14, ar_add, ar_sub, ar_and, ar_or, ar_shr, items_lst, itemV_lst, itemV_box0, itemV_box1, itemV_box2, cmpV_int, cmpV_eqL, cmpV_neL, cmpI_eq, cmpI_ne, cmpI_lt, cmpI_le, cmpI_gt, cmpI_ge, attrV, reduceIte, if_true, if_false, decide_true, decide_false, Bool.not_true, Bool.not_false, Bool.false_eq_true, reduceCtorEq, decide_eq_true_eq, Int.toNat_natCast, Option.map_some, nn, Int.reduceLE, Int.reduceToNat, Int.reduceLT, Int.reduceEq, Int.reduceNeg, Int.le_refl]) (rangeOf3 (by omega))]
          exact hl'
        · simp only [ev, evs, evl, ex, exs, get0, get1, get2, get3, get4, get5, get6, get7, get8, get9, get10, get11, get12, get13, get14, set0, set1, set2, set3, set4, set5, set6, set7, set8, set9, set10, set11, set12, set13, set14, ar_add, ar_sub, ar_and, ar_or, ar_shr, items_lst, itemV_lst, itemV_box0, itemV_box1, itemV_box2, cmpV_int, cmpV_eqL, cmpV_neL, cmpI_eq, cmpI_ne, cmpI_lt, cmpI_le, cmpI_gt, cmpI_ge, attrV, reduceIte, if_true, if_false, decide_true, decide_false, Bool.not_true, Bool.not_false, Bool.false_eq_true, reduceCtorEq, decide_eq_true_eq, Int.toNat_natCast, Option.map_some, nn, Int.reduceLE, Int.reduceToNat, Int.reduceLT, Int.reduceEq, Int.reduceNeg, Int.le_refl, hs]
      · refine ⟨loc', ?_⟩
        rw [if_neg hs] at hl'
        refine exs_next h1 (exs_ret ?_)
        rw [ex_forR (v := .int ((b.length : Int) - 1)) (vs := [.int (-1), .int (-1)]) (H1 := H) (H2 := H) (by simp only [ev, evs, evl, ex, exs, get0, get1, get2, get3, get4, get5, get6, get7, get8, get9, get10, get11, get12, get13, get14, set0, set1, set2, set3, set4, set5, set6, set7, set8, set9, set10, set11, set12, set13, set14, ar_add, ar_sub, ar_and, ar_or, ar_shr, items_lst, itemV_lst, itemV_box0, itemV_box1, itemV_box2, cmpV_int, cmpV_eqL, cmpV_neL, cmpI_eq, cmpI_ne, cmpI_lt, cmpI_le, cmpI_gt, cmpI_ge, attrV, reduceIte, if_true, if_false, decide_true, decide_false, Bool.not_true, Bool.not_false, Bool.false_eq_true, reduceCtorEq, decide_eq_true_eq, Int.toNat_natCast, Option.map_some, nn, Int.reduceLE, Int.reduceToNat, Int.reduceLT, Int.reduceEq, Int.reduceNeg, Int.le_refl, hlen]) (by simp only [ev, evs, evl, ex, exs, get0, get1, get2, get3, get4, get5, get6, get7, get8, get9, get10, get11, get12, get13, get14, set0, set1, set2, set3, set4, set5, set6, set7, set8, set9, set10, set11, set12, set13, set14, ar_add, ar_sub, ar_and, ar_or, ar_shr, items_lst, itemV_lst, itemV_box0, itemV_box1, itemV_box2, cmpV_int, cmpV_eqL, cmpV_neL, cmpI_eq, cmpI_ne, cmpI_lt, cmpI_le, cmpI_gt, cmpI_ge, attrV, reduceIte, if_true, if_false, decide_true, decide_false, Bool.not_true, Bool.not_false, Bool.false_eq_true, reduceCtorEq, decide_eq_true_eq, Int.toNat_natCast, Option.map_some, nn, Int.reduceLE, Int.reduceToNat, Int.reduceLT, Int.reduceEq, Int.reduceNeg, Int.le_refl]) (rangeOf3 (by omega))]
        exact hl'
    · refine ⟨[.lst a, .lst b, .unset], exs_ret ?_⟩
      have hi : ¬ ((a.length : Int) = (b.length : Int)) := by omega
      by_cases q : a.length < b.length
      · have hq : ((a.length : Int) < (b.length : Int)) := by omega
        rw [sg_lt (num_lt_of_len hB ha hb hnb q)]
        simp only [ev, evs, evl, ex, exs, get0, get1, get2, get3, get4, get5, get6, get7, get8, get9, get10, get11, get12, get13, get14, set0, set1, set2, set3, set4, set5, set6, set7, set8, set9, set10, set11, set12, set13, set14, ar_add, ar_sub, ar_and, ar_or, ar_shr, items_lst, itemV_lst, itemV_box0, itemV_box1, itemV_box2, cmpV_int, cmpV_eqL, cmpV_neL, cmpI_eq, cmpI_ne, cmpI_lt, cmpI_le, cmpI_gt, cmpI_ge, attrV, reduceIte, if_true, if_false, decide_true, decide_false, Bool.not_true, Bool.not_false, Bool.false_eq_true, reduceCtorEq, decide_eq_true_eq, Int.toNat_natCast, Option.map_some, nn, Int.reduceLE, Int.reduceToNat, Int.reduceLT, Int.reduceEq, Int.reduceNeg, Int.le_refl, hi, hq]
      · have hq : ¬ ((a.length : Int) < (b.length : Int)) := by omega
        rw [sg_gt (num_lt_of_len hB hb ha hna (by omega))]
        simp only [ev, evs, evl, ex, exs, get0, get1, get2, get3, get4, get5, get6, get7, get8, get9, get10, get11, get12, get13, get14, set0, set1, set2, set3, set4, set5, set6, set7, set8, set9, set10, set11, set12, set13, set14, ar_add, ar_sub, ar_and, ar_or, ar_shr, items_lst, itemV_lst, itemV_box0, itemV_box1, itemV_box2, cmpV_int, cmpV_eqL, cmpV_neL, cmpI_eq, cmpI_ne, cmpI_lt, cmpI_le, cmpI_gt, cmpI_ge, attrV, reduceIte, if_true, if_false, decide_true, decide_false, Bool.not_true, Bool.not_false, Bool.false_eq_true, reduceCtorEq, decide_eq_true_eq, Int.toNat_natCast, Option.map_some, nn, Int.reduceLE, Int.reduceToNat, Int.reduceLT, Int.reduceEq, Int.reduceNeg, Int.le_refl, hi, hq]
  obtain ⟨loc', h⟩ := main
  exact runB_ret rfl h (by rw [fin_int, take_len])
end Mine

namespace Mine

/-- add behind the exchange -/
theorem add_tail {w : Nat} (hw : 2 ≤ w ∧ w ≤ 9) (cl : Cl) {H : Hp} {a b : List Int} (ha : Dg (2 ^ w) a) (hna : Nm a) (hb : Dg (2 ^ w) b) (hlen : b.length ≤ a.length) (hl : a.length < 1000) {P : Fl → List V → Hp → Prop}
    (k : ∀ l, P (.ret (.hnd H.ms.length)) l ⟨H.ms ++ [row (2 ^ w) (num (2 ^ w) a + num (2 ^ w) b)], H.bx⟩) :
    Wp cl (match b_add with | .cons _ r => r | .nil => .nil) [.lst a, .lst b, .int w, .unset, .unset, .unset, .unset] H P := by
  have hB := B_rng hw
  generalize hBe : (2 : Int) ^ w = B at *
  have hpow : arith .shl 1 (w : Int) = some B := by rw [ar_shl1 (by omega), hBe]
  have hand : ∀ x, arith .and x (B - 1) = some (x % B) := fun x => by rw [← hBe]; exact ar_and x w
  have hshr : ∀ x, arith .shr x (w : Int) = some (x / B) := fun x => by rw [← hBe]; exact ar_shr x w
  have hmk : mkL true [] H = some (.hnd H.ms.length, ⟨H.ms ++ [[]], H.bx⟩) := mkL_t (by simp)
  have step : ∀ (c x N : Int) (f : List Int), 0 ≤ c → c ≤ 1 → 0 ≤ x → x ≤ 2 * (B - 1) → Dg B f → num B f + B ^ f.length * c = N →
      Dg B (f ++ [(c + x) % B]) ∧ 0 ≤ (c + x) / B ∧ (c + x) / B ≤ 1 ∧ num B (f ++ [(c + x) % B]) + B ^ (f ++ [(c + x) % B]).length * ((c + x) / B) = N + B ^ f.length * x := by
    intro c x N f h1 h2 h3 h4 h5 h6
    refine ⟨dg_push (by omega) h5, Int.ediv_nonneg (by omega) (by omega), ?_, ?_⟩
    · have : (c + x) / B < 2 := Int.ediv_lt_of_lt_mul (by omega) (by omega)
      omega
    · rw [push_num (by omega), ← h6, Int.mul_add]; omega
  show Wp cl (.cons _ _) _ _ _
  refine wp_asg3 (v1 := .hnd H.ms.length) (v2 := .int 0) (v3 := .int (B - 1)) (H1 := ⟨H.ms ++ [[]], H.bx⟩) (H2 := ⟨H.ms ++ [[]], H.bx⟩) (H3 := ⟨H.ms ++ [[]], H.bx⟩) (by simp only [ev, evs, evl, ex, exs, get0, get1, get2, get3, get4, get5, get6, get7, get8, get9, get10, get11, get12, get13, get14, set0, set1, set2, set3, set4, set5, set6, set7, set8, set9, set10, set11, set12, set13, set14, ar_add, ar_sub, ar_and, ar_or, ar_shr, items_lst, itemV_lst, itemV_box0, itemV_box1, itemV_box2, cmpV_int, cmpV_eqL, cmpV_neL, cmpI_eq, cmpI_ne, cmpI_lt, cmpI_le, cmpI_gt, cmpI_ge, attrV, reduceIte, if_true, if_false, decide_true, decide_false, Bool.not_true, Bool.not_false, Bool.false_eq_true, reduceCtorEq, decide_eq_true_eq, Int.toNat_natCast, Option.map_some, nn, Int.reduceLE, Int.reduceToNat, Int.reduceLT, Int.reduceEq, Int.reduceNeg, Int.le_refl, hmk] <;> rfl) (by simp only [ev, evs, evl, ex, exs, get0, get1, get2, get3, get4, get5, get6, get7, get8, get9, get10, get11, get12, get13, get14, set0, set1, set2, set3, set4, set5, set6, set7, set8, set9, set10, set11, set12, set13, set14, ar_add, ar_sub, ar_and, ar_or, ar_shr, items_lst, itemV_lst, itemV_box0, itemV_box1, itemV_box2, cmpV_int, cmpV_eqL, cmpV_neL, cmpI_eq, cmpI_ne, cmpI_lt, cmpI_le, cmpI_gt, cmpI_ge, attrV, reduceIte, if_true, if_false, decide_true, decide_false, Bool.not_true, Bool.not_false, Bool.false_eq_true, reduceCtorEq, decide_eq_true_eq, Int.toNat_natCast, Option.map_some, nn, Int.reduceLE, Int.reduceToNat, Int.reduceLT, Int.reduceEq, Int.reduceNeg, Int.le_refl] <;> rfl) (by simp only [ev, evs, evl, ex, exs, get0, get1, get2, get3, get4, get5, get6, get7, get8, get9, get10, get11, get12, get13, get14, set0, set1, set2, set3, set4, set5, set6, set7, set8, set9, set10, set11, set12, set13, set14, ar_add, ar_sub, ar_and, ar_or, ar_shr, items_lst, itemV_lst, itemV_box0, itemV_box1, itemV_box2, cmpV_int, cmpV_eqL, cmpV_neL, cmpI_eq, cmpI_ne, cmpI_lt, cmpI_le, cmpI_gt, cmpI_ge, attrV, reduceIte, if_true, if_false, decide_true, decide_false, Bool.not_true, Bool.not_false, Bool.false_eq_true, reduceCtorEq, decide_eq_true_eq, Int.toNat_natCast, Option.map_some, nn, Int.reduceLE, Int.reduceToNat, Int.reduceLT, Int.reduceEq, Int.reduceNeg, Int.le_refl, hpow] <;> rfl) ?_
  simp only [set0, set1, set2, set3, set4, set5, set6, set7, set8, set9, set10, set11, set12, set13, set14]
  refine wp_forR (fun j l h => ∃ f c v, l = [.lst a, .lst b, .int w, .hnd H.ms.length, .int c, .int (B - 1), v] ∧ h = ⟨H.ms ++ [f], H.bx⟩ ∧ f.length = j ∧ Dg B f ∧ 0 ≤ c ∧ c ≤ 1 ∧ num B f + B ^ j * c = num B (a.take j) + num B (b.take j))
    (v := .int b.length) (vs := []) (by simp only [ev, evs, evl, ex, exs, get0, get1, get2, get3, get4, get5, get6, get7, get8, get9, get10, get11, get12, get13, get14, set0, set1, set2, set3, set4, set5, set6, set7, set8, set9, set10, set11, set12, set13, set14, ar_add, ar_sub, ar_and, ar_or, ar_shr, items_lst, itemV_lst, itemV_box0, itemV_box1, itemV_box2, cmpV_int, cmpV_eqL, cmpV_neL, cmpI_eq, cmpI_ne, cmpI_lt, cmpI_le, cmpI_gt, cmpI_ge, attrV, reduceIte, if_true, if_false, decide_true, decide_false, Bool.not_true, Bool.not_false, Bool.false_eq_true, reduceCtorEq, decide_eq_true_eq, Int.toNat_natCast, Option.map_some, nn, Int.reduceLE, Int.reduceToNat, Int.reduceLT, Int.reduceEq, Int.reduceNeg, Int.le_refl] <;> rfl) (by simp only [ev, evs, evl, ex, exs, get0, get1, get2, get3, get4, get5, get6, get7, get8, get9, get10, get11, get12, get13, get14, set0, set1, set2, set3, set4, set5, set6, set7, set8, set9, set10, set11, set12, set13, set14, ar_add, ar_sub, ar_and, ar_or, ar_shr, items_lst, itemV_lst, itemV_box0, itemV_box1, itemV_box2, cmpV_int, cmpV_eqL, cmpV_neL, cmpI_eq, cmpI_ne, cmpI_lt, cmpI_le, cmpI_gt, cmpI_ge, attrV, reduceIte, if_true, if_false, decide_true, decide_false, Bool.not_true, Bool.not_false, Bool.false_eq_true, reduceCtorEq, decide_eq_true_eq, Int.toNat_natCast, Option.map_some, nn, Int.reduceLE, Int.reduceToNat, Int.reduceLT, Int.reduceEq, Int.reduceNeg, Int.le_refl] <;> rfl) (rangeOf1 (by omega)) ⟨[], 0, .unset, rfl, rfl, rfl, Dg.nil, by omega, by omega, by simp [num]⟩ ?_ ?_
  · rintro j v _ _ hj ⟨f, c, v0, rfl, rfl, hfl, hd, hc0, hc1, hnum⟩
    obtain ⟨hj1, rfl⟩ := ups_get _ _ _ _ hj
    have hjb : j < b.length := by simpa using hj1
    have hja : j < a.length := by omega
    have e1 : a[j]? = some a[j] := List.getElem?_eq_getElem hja
    have e2 : b[j]? = some b[j] := List.getElem?_eq_getElem hjb
    have hz : (0 : Int) + (j : Int) = (j : Int) := by omega
    have da := ha.at e1
    have db := hb.at e2
    subst hfl
    obtain ⟨s1, s2, s3, s4⟩ := step c (a[f.length] + b[f.length]) _ f hc0 hc1 (by omega) (by omega) hd hnum
    simp only [set0, set1, set2, set3, set4, set5, set6, set7, set8, set9, set10, set11, set12, set13, set14, hz]
    refine wp_aug (x := c) (y := a[f.length] + b[f.length]) (z := c + (a[f.length] + b[f.length])) rfl (by simp only [ev, evs, evl, ex, exs, get0, get1, get2, get3, get4, get5, get6, get7, get8, get9, get10, get11, get12, get13, get14, set0, set1, set2, set3, set4, set5, set6, set7, set8, set9, set10, set11, set12, set13, set14, ar_add, ar_sub, ar_and, ar_or, ar_shr, items_lst, itemV_lst, itemV_box0, itemV_box1, itemV_box2, cmpV_int, cmpV_eqL, cmpV_neL, cmpI_eq, cmpI_ne, cmpI_lt, cmpI_le, cmpI_gt, cmpI_ge, attrV, reduceIte, if_true, if_false, decide_true, decide_false, Bool.not_true, Bool.not_false, Bool.false_eq_true, reduceCtorEq, decide_eq_true_eq, Int.toNat_natCast, Option.map_some, nn, Int.reduceLE, Int.reduceToNat, Int.reduceLT, Int.reduceEq, Int.reduceNeg, Int.le_refl, e1, e2] <;> rfl) rfl ?_
    refine wp_app (z := (c + (a[f.length] + b[f.length])) % B) rfl (by simp only [ev, evs, evl, ex, exs, get0, get1, get2, get3, get4, get5, get6, get7, get8, get9, get10, get11, get12, get13, get14, set0, set1, set2, set3, set4, set5, set6, set7, set8, set9, set10, set11, set12, set13, set14, ar_add, ar_sub, ar_and, ar_or, ar_shr, items_lst, itemV_lst, itemV_box0, itemV_box1, itemV_box2, cmpV_int, cmpV_eqL, cmpV_neL, cmpI_eq, cmpI_ne, cmpI_lt, cmpI_le, cmpI_gt, cmpI_ge, attrV, reduceIte, if_true, if_false, decide_true, decide_false, Bool.not_true, Bool.not_false, Bool.false_eq_true, reduceCtorEq, decide_eq_true_eq, Int.toNat_natCast, Option.map_some, nn, Int.reduceLE, Int.reduceToNat, Int.reduceLT, Int.reduceEq, Int.reduceNeg, Int.le_refl, hand] <;> rfl) (by omega) ?_
    refine wp_aug (x := c + (a[f.length] + b[f.length])) (y := (w : Int)) (z := (c + (a[f.length] + b[f.length])) / B) rfl (by simp only [ev, evs, evl, ex, exs, get0, get1, get2, get3, get4, get5, get6, get7, get8, get9, get10, get11, get12, get13, get14, set0, set1, set2, set3, set4, set5, set6, set7, set8, set9, set10, set11, set12, set13, set14, ar_add, ar_sub, ar_and, ar_or, ar_shr, items_lst, itemV_lst, itemV_box0, itemV_box1, itemV_box2, cmpV_int, cmpV_eqL, cmpV_neL, cmpI_eq, cmpI_ne, cmpI_lt, cmpI_le, cmpI_gt, cmpI_ge, attrV, reduceIte, if_true, if_false, decide_true, decide_false, Bool.not_true, Bool.not_false, Bool.false_eq_true, reduceCtorEq, decide_eq_true_eq, Int.toNat_natCast, Option.map_some, nn, Int.reduceLE, Int.reduceToNat, Int.reduceLT, Int.reduceEq, Int.reduceNeg, Int.le_refl] <;> rfl) (hshr _) ?_
    refine wp_nil ⟨rfl, _, _, .int f.length, by simp only [ev, evs, evl, ex, exs, get0, get1, get2, get3, get4, get5, get6, get7, get8, get9, get10, get11, get12, get13, get14, set0, set1, set2, set3, set4, set5, set6, set7, set8, set9, set10, set11, set12, set13, set14, ar_add, ar_sub, ar_and, ar_or, ar_shr, items_lst, itemV_lst, itemV_box0, itemV_box1, itemV_box2, cmpV_int, cmpV_eqL, cmpV_neL, cmpI_eq, cmpI_ne, cmpI_lt, cmpI_le, cmpI_gt, cmpI_ge, attrV, reduceIte, if_true, if_false, decide_true, decide_false, Bool.not_true, Bool.not_false, Bool.false_eq_true, reduceCtorEq, decide_eq_true_eq, Int.toNat_natCast, Option.map_some, nn, Int.reduceLE, Int.reduceToNat, Int.reduceLT, Int.reduceEq, Int.reduceNeg, Int.le_refl], rfl, by simp, s1, s2, s3, ?_⟩
    have := s4
    rw [List.length_append, List.length_singleton] at this
    rw [this, num_take_succ hja, num_take_succ hjb]
    grind
  · rintro _ _ ⟨f, c, v0, rfl, rfl, hfl, hd, hc0, hc1, hnum⟩
    have hfb : (ups 0 (b.length : Int).toNat).length = b.length := by rw [ups_len]; omega
    rw [hfb] at hfl hnum
    rw [num_take_all] at hnum
    refine wp_forR (fun j l h => ∃ f c v, l = [.lst a, .lst b, .int w, .hnd H.ms.length, .int c, .int (B - 1), v] ∧ h = ⟨H.ms ++ [f], H.bx⟩ ∧ f.length = b.length + j ∧ Dg B f ∧ 0 ≤ c ∧ c ≤ 1 ∧ num B f + B ^ (b.length + j) * c = num B (a.take (b.length + j)) + num B b)
      (v := .int b.length) (vs := [.int a.length]) (by simp only [ev, evs, evl, ex, exs, get0, get1, get2, get3, get4, get5, get6, get7, get8, get9, get10, get11, get12, get13, get14, set0, set1, set2, set3, set4, set5, set6, set7, set8, set9, set10, set11, set12, set13, set14, ar_add, ar_sub, ar_and, ar_or, ar_shr, items_lst, itemV_lst, itemV_box0, itemV_box1, itemV_box2, cmpV_int, cmpV_eqL, cmpV_neL, cmpI_eq, cmpI_ne, cmpI_lt, cmpI_le, cmpI_gt, cmpI_ge, attrV, reduceIte, if_true, if_false, decide_true, decide_false, Bool.not_true, Bool.not_false, Bool.false_eq_true, reduceCtorEq, decide_eq_true_eq, Int.toNat_natCast, Option.map_some, nn, Int.reduceLE, Int.reduceToNat, Int.reduceLT, Int.reduceEq, Int.reduceNeg, Int.le_refl] <;> rfl) (by simp only [ev, evs, evl, ex, exs, get0, get1, get2, get3, get4, get5, get6, get7, get8, get9, get10, get11, get12, get13, get14, set0, set1, set2, set3, set4, set5, set6, set7, set8, set9, set10, set11, set12, set13, set14, ar_add, ar_sub, ar_and, ar_or, ar_shr, items_lst, itemV_lst, itemV_box0, itemV_box1, itemV_box2, cmpV_int, cmpV_eqL, cmpV_neL, cmpI_eq, cmpI_ne, cmpI_lt, cmpI_le, cmpI_gt, cmpI_ge, attrV, reduceIte, if_true, if_false, decide_true, decide_false, Bool.not_true, Bool.not_false, Bool.false_eq_true, reduceCtorEq, decide_eq_true_eq, Int.toNat_natCast, Option.map_some, nn, Int.reduceLE, Int.reduceToNat, Int.reduceLT, Int.reduceEq, Int.reduceNeg, Int.le_refl] <;> rfl) (rangeOf2 (by omega) (by omega)) ⟨f, c, v0, rfl, rfl, hfl, hd, hc0, hc1, hnum⟩ ?_ ?_
    · rintro j v _ _ hj ⟨f, c, v0, rfl, rfl, hfl, hd, hc0, hc1, hnum⟩
      obtain ⟨hj1, rfl⟩ := ups_get _ _ _ _ hj
      have hja : b.length + j < a.length := by omega
      have e1 : a[b.length + j]? = some a[b.length + j] := List.getElem?_eq_getElem hja
      have hz : (b.length : Int) + (j : Int) = ((b.length + j : Nat) : Int) := by omega
      have da := ha.at e1
      rw [← hfl] at hnum
      obtain ⟨s1, s2, s3, s4⟩ := step c (a[b.length + j]) _ f hc0 hc1 (by omega) (by omega) hd hnum
      simp only [set0, set1, set2, set3, set4, set5, set6, set7, set8, set9, set10, set11, set12, set13, set14, hz]
      refine wp_aug (x := c) (y := a[b.length + j]) (z := c + a[b.length + j]) rfl (by simp only [ev, evs, evl, ex, exs, get0, get1, get2, get3, get4, get5, get6, get7, get8, get9, get10, get11, get12, get13, get14, set0, set1, set2, set3, set4, set5, set6, set7, set8, set9, set10, set11, set12, set13, set14, ar_add, ar_sub, ar_and, ar_or, ar_shr, items_lst, itemV_lst, itemV_box0, itemV_box1, itemV_box2, cmpV_int, cmpV_eqL, cmpV_neL, cmpI_eq, cmpI_ne, cmpI_lt, cmpI_le, cmpI_gt, cmpI_ge, attrV, reduceIte, if_true, if_false, decide_true, decide_false, Bool.not_true, Bool.not_false, Bool.false_eq_true, reduceCtorEq, decide_eq_true_eq, Int.toNat_natCast, Option.map_some, nn, Int.reduceLE, Int.reduceToNat, Int.reduceLT, Int.reduceEq, Int.reduceNeg, Int.le_refl, e1] <;> rfl) rfl ?_
      refine wp_app (z := (c + a[b.length + j]) % B) rfl (by simp only [ev, evs, evl, ex, exs, get0, get1, get2, get3, get4, get5, get6, get7, get8, get9, get10, get11, get12, get13, get14, set0, set1, set2, set3, set4, set5, set6, set7, set8, set9, set10, set11, set12, set13, set14, ar_add, ar_sub, ar_and, ar_or, ar_shr, items_lst, itemV_lst, itemV_box0, itemV_box1, itemV_box2, cmpV_int, cmpV_eqL, cmpV_neL, cmpI_eq, cmpI_ne, cmpI_lt, cmpI_le, cmpI_gt, cmpI_ge, attrV, reduceIte, if_true, if_false, decide_true, decide_false, Bool.not_true, Bool.not_false, Bool.false_eq_true, reduceCtorEq, decide_eq_true_eq, Int.toNat_natCast, Option.map_some, nn, Int.reduceLE, Int.reduceToNat, Int.reduceLT, Int.reduceEq, Int.reduceNeg, Int.le_refl, hand] <;> rfl) (by omega) ?_
      refine wp_aug (x := c + a[b.length + j]) (y := (w : Int)) (z := (c + a[b.length + j]) / B) rfl (by simp only [ev, evs, evl, ex, exs, get0, get1, get2, get3, get4, get5, get6, get7, get8, get9, get10, get11, get12, get13, get14, set0, set1, set2, set3, set4, set5, set6, set7, set8, set9, set10, set11, set12, set13, set14, ar_add, ar_sub, ar_and, ar_or, ar_shr, items_lst, itemV_lst, itemV_box0, itemV_box1, itemV_box2, cmpV_int, cmpV_eqL, cmpV_neL, cmpI_eq, cmpI_ne, cmpI_lt, cmpI_le, cmpI_gt, cmpI_ge, attrV, reduceIte, if_true, if_false, decide_true, decide_false, Bool.not_true, Bool.not_false, Bool.false_eq_true, reduceCtorEq, decide_eq_true_eq, Int.toNat_natCast, Option.map_some, nn, Int.reduceLE, Int.reduceToNat, Int.reduceLT, Int.reduceEq, Int.reduceNeg, Int.le_refl] <;> rfl) (hshr _) ?_
      have hl2 : (f ++ [(c + a[b.length + j]) % B]).length = b.length + (j + 1) := by rw [List.length_append, List.length_singleton]; omega
      refine wp_nil ⟨rfl, _, _, .int ((b.length + j : Nat) : Int), by simp only [ev, evs, evl, ex, exs, get0, get1, get2, get3, get4, get5, get6, get7, get8, get9, get10, get11, get12, get13, get14, set0, set1, set2, set3, set4, set5, set6, set7, set8, set9, set10, set11, set12, set13, set14, ar_add, ar_sub, ar_and, ar_or, ar_shr, items_lst, itemV_lst, itemV_box0, itemV_box1, itemV_box2, cmpV_int, cmpV_eqL, cmpV_neL, cmpI_eq, cmpI_ne, cmpI_lt, cmpI_le, cmpI_gt, cmpI_ge, attrV, reduceIte, if_true, if_false, decide_true, decide_false, Bool.not_true, Bool.not_false, Bool.false_eq_true, reduceCtorEq, decide_eq_true_eq, Int.toNat_natCast, Option.map_some, nn, Int.reduceLE, Int.reduceToNat, Int.reduceLT, Int.reduceEq, Int.reduceNeg, Int.le_refl], rfl, hl2, s1, s2, s3, ?_⟩
      rw [hl2] at s4
      rw [s4, ← Nat.add_assoc, num_take_succ hja, hfl]
      omega
    · rintro _ _ ⟨f, c, v0, rfl, rfl, hfl, hd, hc0, hc1, hnum⟩
      have hfa : b.length + (ups (b.length : Int) ((a.length : Int) - (b.length : Int)).toNat).length = a.length := by rw [ups_len]; omega
      rw [hfa] at hfl hnum
      rw [num_take_all, ← hfl] at hnum
      have hfin := finish_row (B := B) (by omega) hd (c := c) ⟨hc0, by omega⟩ hnum (by
        rw [hfl]
        cases a with
        | nil => left; rfl
        | cons x r =>
          right
          have := nm_ge (B := B) (by omega) ha hna
          have := num_nonneg (B := B) (by omega) hb
          simp only [List.length_cons, Nat.add_sub_cancel]
          omega)
      by_cases hc : 0 < c
      · rw [if_pos hc] at hfin
        refine wp_if_t (H1 := ⟨H.ms ++ [f], H.bx⟩) (by simp only [ev, evs, evl, ex, exs, get0, get1, get2, get3, get4, get5, get6, get7, get8, get9, get10, get11, get12, get13, get14, set0, set1, set2, set3, set4, set5, set6, set7, set8, set9, set10, set11, set12, set13, set14, ar_add, ar_sub, ar_and, ar_or, ar_shr, items_lst, itemV_lst, itemV_box0, itemV_box1, itemV_box2, cmpV_int, cmpV_eqL, cmpV_neL, cmpI_eq, cmpI_ne, cmpI_lt, cmpI_le, cmpI_gt, cmpI_ge, attrV, reduceIte, if_true, if_false, decide_true, decide_false, Bool.not_true, Bool.not_false, Bool.false_eq_true, reduceCtorEq, decide_eq_true_eq, Int.toNat_natCast, Option.map_some, nn, Int.reduceLE, Int.reduceToNat, Int.reduceLT, Int.reduceEq, Int.reduceNeg, Int.le_refl, hc] <;> rfl) ?_
        refine wp_app (z := c) rfl (by simp only [ev, evs, evl, ex, exs, get0, get1, get2, get3, get4, get5, get6, get7, get8, get9, get10, get11, get12, get13, get14, set0, set1, set2, set3, set4, set5, set6, set7, set8, set9, set10, set11, set12, set13, set14, ar_add, ar_sub, ar_and, ar_or, ar_shr, items_lst, itemV_lst, itemV_box0, itemV_box1, itemV_box2, cmpV_int, cmpV_eqL, cmpV_neL, cmpI_eq, cmpI_ne, cmpI_lt, cmpI_le, cmpI_gt, cmpI_ge, attrV, reduceIte, if_true, if_false, decide_true, decide_false, Bool.not_true, Bool.not_false, Bool.false_eq_true, reduceCtorEq, decide_eq_true_eq, Int.toNat_natCast, Option.map_some, nn, Int.reduceLE, Int.reduceToNat, Int.reduceLT, Int.reduceEq, Int.reduceNeg, Int.le_refl] <;> rfl) (by omega) (wp_nil ?_)
        rw [hfin]
        exact wp_ret (v := .hnd H.ms.length) (by simp only [ev, evs, evl, ex, exs, get0, get1, get2, get3, get4, get5, get6, get7, get8, get9, get10, get11, get12, get13, get14, set0, set1, set2, set3, set4, set5, set6, set7, set8, set9, set10, set11, set12, set13, set14, ar_add, ar_sub, ar_and, ar_or, ar_shr, items_lst, itemV_lst, itemV_box0, itemV_box1, itemV_box2, cmpV_int, cmpV_eqL, cmpV_neL, cmpI_eq, cmpI_ne, cmpI_lt, cmpI_le, cmpI_gt, cmpI_ge, attrV, reduceIte, if_true, if_false, decide_true, decide_false, Bool.not_true, Bool.not_false, Bool.false_eq_true, reduceCtorEq, decide_eq_true_eq, Int.toNat_natCast, Option.map_some, nn, Int.reduceLE, Int.reduceToNat, Int.reduceLT, Int.reduceEq, Int.reduceNeg, Int.le_refl] <;> rfl) (k _)
      · rw [if_neg hc] at hfin
        refine wp_skip (H1 := ⟨H.ms ++ [f], H.bx⟩) (by simp only [ev, evs, evl, ex, exs, get0, get1, get2, get3, get4, get5, get6, get7, get8, get9, get10, get11, get12, get13, get14, set0, set1, set2, set3, set4, set5, set6, set7, set8, set9, set10, set11, set12, set13, set14, ar_add, ar_sub, ar_and, ar_or, ar_shr, items_lst, itemV_lst, itemV_box0, itemV_box1, itemV_box2, cmpV_int, cmpV_eqL, cmpV_neL, cmpI_eq, cmpI_ne, cmpI_lt, cmpI_le, cmpI_gt, cmpI_ge, attrV, reduceIte, if_true, if_false, decide_true, decide_false, Bool.not_true, Bool.not_false, Bool.false_eq_true, reduceCtorEq, decide_eq_true_eq, Int.toNat_natCast, Option.map_some, nn, Int.reduceLE, Int.reduceToNat, Int.reduceLT, Int.reduceEq, Int.reduceNeg, Int.le_refl, hc] <;> rfl) ?_
        rw [hfin]
        exact wp_ret (v := .hnd H.ms.length) (by simp only [ev, evs, evl, ex, exs, get0, get1, get2, get3, get4, get5, get6, get7, get8, get9, get10, get11, get12, get13, get14, set0, set1, set2, set3, set4, set5, set6, set7, set8, set9, set10, set11, set12, set13, set14, ar_add, ar_sub, ar_and, ar_or, ar_shr, items_lst, itemV_lst, itemV_box0, itemV_box1, itemV_box2, cmpV_int, cmpV_eqL, cmpV_neL, cmpI_eq, cmpI_ne, cmpI_lt, cmpI_le, cmpI_gt, cmpI_ge, attrV, reduceIte, if_true, if_false, decide_true, decide_false, Bool.not_true, Bool.not_false, Bool.false_eq_true, reduceCtorEq, decide_eq_true_eq, Int.toNat_natCast, Option.map_some, nn, Int.reduceLE, Int.reduceToNat, Int.reduceLT, Int.reduceEq, Int.reduceNeg, Int.le_refl] <;> rfl) (k _)

theorem add_v {w : Nat} (hw : 2 ≤ w ∧ w ≤ 9) (n : Nat) {H : Hp} {a b : List Int} (ha : Dg (2 ^ w) a) (hna : Nm a) (hb : Dg (2 ^ w) b) (hnb : Nm b) (hla : a.length < 1000) (hlb : b.length < 1000) :
    callM PT (n + 1) 3 [.lst a, .lst b, .int w] H = some (.val (.lst (row (2 ^ w) (num (2 ^ w) a + num (2 ^ w) b))) H) := by
  rw [callM_succ]
  show runB (callM PT n) F_add [.lst a, .lst b, .int w] H = _
  refine runB_wp rfl ?_
  show Wp _ b_add [.lst a, .lst b, .int w, .unset, .unset, .unset, .unset] H _
  by_cases h : a.length < b.length
  · have hq : ((a.length : Int) < (b.length : Int)) := by omega
    refine wp_if_t (H1 := H) (by simp only [ev, evs, evl, ex, exs, get0, get1, get2, get3, get4, get5, get6, get7, get8, get9, get10, get11, get12, get13, get14, set0, set1, set2, set3, set4, set5, set6, set7, set8, set9, set10, set11, set12, set13, set14, ar_add, ar_sub, ar_and, ar_or, ar_shr, items_lst, itemV_lst, itemV_box0, itemV_box1, itemV_box2, cmpV_int, cmpV_eqL, cmpV_neL, cmpI_eq, cmpI_ne, cmpI_lt, cmpI_le, cmpI_gt, cmpI_ge, attrV, reduceIte, if_true, if_false, decide_true, decide_false, Bool.not_true, Bool.not_false, Bool.false_eq_true, reduceCtorEq, decide_eq_true_eq, Int.toNat_natCast, Option.map_some, nn, Int.reduceLE, Int.reduceToNat, Int.reduceLT, Int.reduceEq, Int.reduceNeg, Int.le_refl, hq] <;> rfl) ?_
    refine wp_asg2 (v1 := .lst b) (v2 := .lst a) (H1 := H) (H2 := H) (by simp only [ev, evs, evl, ex, exs, get0, get1, get2, get3, get4, get5, get6, get7, get8, get9, get10, get11, get12, get13, get14, set0, set1, set2, set3, set4, set5, set6, set7, set8, set9, set10, set11, set12, set13, set14, ar_add, ar_sub, ar_and, ar_or, ar_shr, items_lst, itemV_lst, itemV_box0, itemV_box1, itemV_box2, cmpV_int, cmpV_eqL, cmpV_neL, cmpI_eq, cmpI_ne, cmpI_lt, cmpI_le, cmpI_gt, cmpI_ge, attrV, reduceIte, if_true, if_false, decide_true, decide_false, Bool.not_true, Bool.not_false, Bool.false_eq_true, reduceCtorEq, decide_eq_true_eq, Int.toNat_natCast, Option.map_some, nn, Int.reduceLE, Int.reduceToNat, Int.reduceLT, Int.reduceEq, Int.reduceNeg, Int.le_refl] <;> rfl) (by simp only [ev, evs, evl, ex, exs, get0, get1, get2, get3, get4, get5, get6, get7, get8, get9, get10, get11, get12, get13, get14, set0, set1, set2, set3, set4, set5, set6, set7, set8, set9, set10, set11, set12, set13, set14, ar_add, ar_sub, ar_and, ar_or, ar_shr, items_lst, itemV_lst, itemV_box0, itemV_box1, itemV_box2, cmpV_int, cmpV_eqL, cmpV_neL, cmpI_eq, cmpI_ne, cmpI_lt, cmpI_le, cmpI_gt, cmpI_ge, attrV, reduceIte, if_true, if_false, decide_true, decide_false, Bool.not_true, Bool.not_false, Bool.false_eq_true, reduceCtorEq, decide_eq_true_eq, Int.toNat_natCast, Option.map_some, nn, Int.reduceLE, Int.reduceToNat, Int.reduceLT, Int.reduceEq, Int.reduceNeg, Int.le_refl] <;> rfl) (wp_nil ?_)
    simp only [set0, set1, set2, set3, set4, set5, set6, set7, set8, set9, set10, set11, set12, set13, set14]
    refine add_tail hw _ hb hnb ha (by omega) hlb fun l => ?_
    rw [Int.add_comm]
    exact gives_hnd
  · have hq : ¬ ((a.length : Int) < (b.length : Int)) := by omega
    refine wp_skip (H1 := H) (by simp only [ev, evs, evl, ex, exs, get0, get1, get2, get3, get4, get5, get6, get7, get8, get9, get10, get11, get12, get13, get14, set0, set1, set2, set3, set4, set5, set6, set7, set8, set9, set10, set11, set12, set13, set14, ar_add, ar_sub, ar_and, ar_or, ar_shr, items_lst, itemV_lst, itemV_box0, itemV_box1, itemV_box2, cmpV_int, cmpV_eqL, cmpV_neL, cmpI_eq, cmpI_ne, cmpI_lt, cmpI_le, cmpI_gt, cmpI_ge, attrV, reduceIte, if_true, if_false, decide_true, decide_false, Bool.not_true, Bool.not_false, Bool.false_eq_true, reduceCtorEq, decide_eq_true_eq, Int.toNat_natCast, Option.map_some, nn, Int.reduceLE, Int.reduceToNat, Int.reduceLT, Int.reduceEq, Int.reduceNeg, Int.le_refl, hq] <;> rfl) ?_
    exact add_tail hw _ ha hna hb (by omega) hla fun l => gives_hnd
end Mine

namespace Mine

theorem num_take_getD {B : Int} {b : List Int} {j : Nat} : num B (b.take (j + 1)) = num B (b.take j) + B ^ j * b.getD j 0 := by
  by_cases h : j < b.length
  · rw [num_take_succ h]; simp [List.getD, h]
  · rw [List.take_of_length_le (by omega), List.take_of_length_le (by omega)]
    simp [List.getD, List.getElem?_eq_none (Nat.le_of_not_lt h)]
theorem nm_len_of_le {B : Int} (hB : 2 ≤ B) {a b : List Int} (ha : Dg B a) (hb : Dg B b) (hnb : Nm b) (h : num B b ≤ num B a) : b.length ≤ a.length := by
  by_cases q : b.length ≤ a.length
  · exact q
  · have := num_lt_of_len hB ha hb hnb (by omega); omega

theorem sub_v {w : Nat} (hw : 2 ≤ w ∧ w ≤ 9) (n : Nat) {H : Hp} {a b : List Int} (ha : Dg (2 ^ w) a) (hna : Nm a) (hb : Dg (2 ^ w) b) (hnb : Nm b) (hla : a.length < 1000) (hge : num (2 ^ w) b ≤ num (2 ^ w) a) :
    callM PT (n + 2) 4 [.lst a, .lst b, .int w] H = some (.val (.lst (row (2 ^ w) (num (2 ^ w) a - num (2 ^ w) b))) H) := by
  rw [callM_succ]
  show runB (callM PT (n + 1)) F_sub [.lst a, .lst b, .int w] H = _
  refine runB_wp rfl ?_
  show Wp _ b_sub [.lst a, .lst b, .int w, .unset, .unset, .unset, .unset, .unset] H _
  have hB := B_rng hw
  have hcmp := compare_v (B := 2 ^ w) (by omega) n (H := H) ha hna hb hnb hla
  have hnrm := fun (ms : List (List Int)) (f : List Int) (hd : Dg (2 ^ w) f) (hl : f.length < 90000) => normal_v (B := 2 ^ w) (by omega) n (H := ⟨ms ++ [f], H.bx⟩) (v := .hnd ms.length) (xs := f) (by rw [items_hnd]; exact ms_get _ _) hd hl
  generalize hBe : (2 : Int) ^ w = B at *
  have hpow : arith .shl 1 (w : Int) = some B := by rw [ar_shl1 (by omega), hBe]
  have hmk : mkL true [] H = some (.hnd H.ms.length, ⟨H.ms ++ [[]], H.bx⟩) := mkL_t (by simp)
  have hlen := nm_len_of_le (by omega) ha hb hnb hge
  have hsg : ¬ sg (num B a) (num B b) < 0 := by unfold sg; rw [if_neg (by omega)]; split <;> omega
  refine wp_skip (H1 := H) (by simp only [ev, evs, evl, ex, exs, get0, get1, get2, get3, get4, get5, get6, get7, get8, get9, get10, get11, get12, get13, get14, set0, set1, set2, set3, set4, set5, set6, set7, set8, set9, set10, set11, set12, set13, set14, ar_add, ar_sub, ar_and, ar_or, ar_shr, items_lst, itemV_lst, itemV_box0, itemV_box1, itemV_box2, cmpV_int, cmpV_eqL, cmpV_neL, cmpI_eq, cmpI_ne, cmpI_lt, cmpI_le, cmpI_gt, cmpI_ge, attrV, reduceIte, if_true, if_false, decide_true, decide_false, Bool.not_true, Bool.not_false, Bool.false_eq_true, reduceCtorEq, decide_eq_true_eq, Int.toNat_natCast, Option.map_some, nn, Int.reduceLE, Int.reduceToNat, Int.reduceLT, Int.reduceEq, Int.reduceNeg, Int.le_refl, ↓ev_call2 (cl := callM PT (n + 1)) (ev_loc (cl := callM PT (n + 1)) (loc := [V.lst a, .lst b, .int w, .unset, .unset, .unset, .unset, .unset]) (i := 0) (q := 0) (v := .lst a) (H := H) rfl (by simp)) (ev_loc (i := 1) (q := 1) (v := .lst b) rfl (by simp)) hcmp, hsg]) ?_
  refine wp_asg3 (v1 := .hnd H.ms.length) (v2 := .int 0) (v3 := .int B) (H1 := ⟨H.ms ++ [[]], H.bx⟩) (H2 := ⟨H.ms ++ [[]], H.bx⟩) (H3 := ⟨H.ms ++ [[]], H.bx⟩) (by simp only [ev, evs, evl, ex, exs, get0, get1, get2, get3, get4, get5, get6, get7, get8, get9, get10, get11, get12, get13, get14, set0, set1, set2, set3, set4, set5, set6, set7, set8, set9, set10, set11, set12, set13, set14, ar_add, ar_sub, ar_and, ar_or, ar_shr, items_lst, itemV_lst, itemV_box0, itemV_box1, itemV_box2, cmpV_int, cmpV_eqL, cmpV_neL, cmpI_eq, cmpI_ne, cmpI_lt, cmpI_le, cmpI_gt, cmpI_ge, attrV, reduceIte, if_true, if_false, decide_true, decide_false, Bool.not_true, Bool.not_false, Bool.false_eq_true, reduceCtorEq, decide_eq_true_eq, Int.toNat_natCast, Option.map_some, nn, Int.reduceLE, Int.reduceToNat, Int.reduceLT, Int.reduceEq, Int.reduceNeg, Int.le_refl, hmk] <;> rfl) (by simp only [ev, evs, evl, ex, exs, get0, get1, get2, get3, get4, get5, get6, get7, get8, get9, get10, get11, get12, get13, get14, set0, set1, set2, set3, set4, set5, set6, set7, set8, set9, set10, set11, set12, set13, set14, ar_add, ar_sub, ar_and, ar_or, ar_shr, items_lst, itemV_lst, itemV_box0, itemV_box1, itemV_box2, cmpV_int, cmpV_eqL, cmpV_neL, cmpI_eq, cmpI_ne, cmpI_lt, cmpI_le, cmpI_gt, cmpI_ge, attrV, reduceIte, if_true, if_false, decide_true, decide_false, Bool.not_true, Bool.not_false, Bool.false_eq_true, reduceCtorEq, decide_eq_true_eq, Int.toNat_natCast, Option.map_some, nn, Int.reduceLE, Int.reduceToNat, Int.reduceLT, Int.reduceEq, Int.reduceNeg, Int.le_refl] <;> rfl) (by simp only [ev, evs, evl, ex, exs, get0, get1, get2, get3, get4, get5, get6, get7, get8, get9, get10, get11, get12, get13, get14, set0, set1, set2, set3, set4, set5, set6, set7, set8, set9, set10, set11, set12, set13, set14, ar_add, ar_sub, ar_and, ar_or, ar_shr, items_lst, itemV_lst, itemV_box0, itemV_box1, itemV_box2, cmpV_int, cmpV_eqL, cmpV_neL, cmpI_eq, cmpI_ne, cmpI_lt, cmpI_le, cmpI_gt, cmpI_ge, attrV, reduceIte, if_true, if_false, decide_true, decide_false, Bool.not_true, Bool.not_false, Bool.false_eq_true, reduceCtorEq, decide_eq_true_eq, Int.toNat_natCast, Option.map_some, nn, Int.reduceLE, Int.reduceToNat, Int.reduceLT, Int.reduceEq, Int.reduceNeg, Int.le_refl, hpow] <;> rfl) ?_
  simp only [set0, set1, set2, set3, set4, set5, set6, set7, set8, set9, set10, set11, set12, set13, set14]
  refine wp_forR (fun j l h => ∃ f c v u, l = [.lst a, .lst b, .int w, .hnd H.ms.length, .int c, .int B, v, u] ∧ h = ⟨H.ms ++ [f], H.bx⟩ ∧ f.length = j ∧ Dg B f ∧ 0 ≤ c ∧ c ≤ 1 ∧ num B f - B ^ j * c = num B (a.take j) - num B (b.take j))
    (v := .int a.length) (vs := []) (by simp only [ev, evs, evl, ex, exs, get0, get1, get2, get3, get4, get5, get6, get7, get8, get9, get10, get11, get12, get13, get14, set0, set1, set2, set3, set4, set5, set6, set7, set8, set9, set10, set11, set12, set13, set14, ar_add, ar_sub, ar_and, ar_or, ar_shr, items_lst, itemV_lst, itemV_box0, itemV_box1, itemV_box2, cmpV_int, cmpV_eqL, cmpV_neL, cmpI_eq, cmpI_ne, cmpI_lt, cmpI_le, cmpI_gt, cmpI_ge, attrV, reduceIte, if_true, if_false, decide_true, decide_false, Bool.not_true, Bool.not_false, Bool.false_eq_true, reduceCtorEq, decide_eq_true_eq, Int.toNat_natCast, Option.map_some, nn, Int.reduceLE, Int.reduceToNat, Int.reduceLT, Int.reduceEq, Int.reduceNeg, Int.le_refl] <;> rfl) (by simp only [ev, evs, evl, ex, exs, get0, get1, get2, get3, get4, get5, get6, get7, get8, get9, get10, get11, get12, get13, get14, set0, set1, set2, set3, set4, set5, set6, set7, set8, set9, set10, set11, set12, set13, set14, ar_add, ar_sub, ar_and, ar_or, ar_shr, items_lst, itemV_lst, itemV_box0, itemV_box1, itemV_box2, cmpV_int, cmpV_eqL, cmpV_neL, cmpI_eq, cmpI_ne, cmpI_lt, cmpI_le, cmpI_gt, cmpI_ge, attrV, reduceIte, if_true, if_false, decide_true, decide_false, Bool.not_true, Bool.not_false, Bool.false_eq_true, reduceCtorEq, decide_eq_true_eq, Int.toNat_natCast, Option.map_some, nn, Int.reduceLE, Int.reduceToNat, Int.reduceLT, Int.reduceEq, Int.reduceNeg, Int.le_refl] <;> rfl) (rangeOf1 (by omega)) ⟨[], 0, .unset, .unset, rfl, rfl, rfl, Dg.nil, by omega, by omega, by simp [num]⟩ ?_ ?_
  · rintro j v _ _ hj ⟨f, c, v0, u0, rfl, rfl, hfl, hd, hc0, hc1, hnum⟩
    obtain ⟨hj1, rfl⟩ := ups_get _ _ _ _ hj
    have hja : j < a.length := by simpa using hj1
    have e1 : a[j]? = some a[j] := List.getElem?_eq_getElem hja
    have hz : (0 : Int) + (j : Int) = (j : Int) := by omega
    have da := ha.at e1
    have db : 0 ≤ b.getD j 0 ∧ b.getD j 0 < B := by
      by_cases q : j < b.length
      · have := hb.at (List.getElem?_eq_getElem q)
        simpa [List.getD, q] using this
      · simp [List.getD, List.getElem?_eq_none (Nat.le_of_not_lt q)]; omega
    have hbj : ev (callM PT (n + 1)) [V.lst a, .lst b, .int w, .hnd H.ms.length, .int c, .int B, .int j, u0] (.bin .sub (.bin .sub (.item (.loc 0 25) (.loc 6 26) 27) (.loc 4 28) 29) (.ife (.cmp .lt (.loc 6 30) (.len (.loc 1 31) 32) 34) (.item (.loc 1 35) (.loc 6 36) 37) (.int 0 38) 39) 40) ⟨H.ms ++ [f], H.bx⟩ = some (.int (a[j] - c - b.getD j 0), ⟨H.ms ++ [f], H.bx⟩) := by
      by_cases q : j < b.length
      · have hq : ((j : Int) < (b.length : Int)) := by omega
        have e2 : b[j]? = some b[j] := List.getElem?_eq_getElem q
        have e3 : b.getD j 0 = b[j] := by simp [List.getD, q]
        simp only [ev, evs, evl, ex, exs, get0, get1, get2, get3, get4, get5, get6, get7, get8, get9, get10, get11, get12, get13, get14, set0, set1, set2, set3, set4, set5, set6, set7, set8, set9, set10, set11, set12, set13, set14, ar_add, ar_sub, ar_and, ar_or, ar_shr, items_lst, itemV_lst, itemV_box0, itemV_box1, itemV_box2, cmpV_int, cmpV_eqL, cmpV_neL, cmpI_eq, cmpI_ne, cmpI_lt, cmpI_le, cmpI_gt, cmpI_ge, attrV, reduceIte, if_true, if_false, decide_true, decide_false, Bool.not_true, Bool.not_false, Bool.false_eq_true, reduceCtorEq, decide_eq_true_eq, Int.toNat_natCast, Option.map_some, nn, Int.reduceLE, Int.reduceToNat, Int.reduceLT, Int.reduceEq, Int.reduceNeg, Int.le_refl, hq, e1, e2, e3]
      · have hq : ¬ ((j : Int) < (b.length : Int)) := by omega
        have e3 : b.getD j 0 = 0 := by simp [List.getD, List.getElem?_eq_none (Nat.le_of_not_lt q)]
        simp only [ev, evs, evl, ex, exs, get0, get1, get2, get3, get4, get5, get6, get7, get8, get9, get10, get11, get12, get13, get14, set0, set1, set2, set3, set4, set5, set6, set7, set8, set9, set10, set11, set12, set13, set14, ar_add, ar_sub, ar_and, ar_or, ar_shr, items_lst, itemV_lst, itemV_box0, itemV_box1, itemV_box2, cmpV_int, cmpV_eqL, cmpV_neL, cmpI_eq, cmpI_ne, cmpI_lt, cmpI_le, cmpI_gt, cmpI_ge, attrV, reduceIte, if_true, if_false, decide_true, decide_false, Bool.not_true, Bool.not_false, Bool.false_eq_true, reduceCtorEq, decide_eq_true_eq, Int.toNat_natCast, Option.map_some, nn, Int.reduceLE, Int.reduceToNat, Int.reduceLT, Int.reduceEq, Int.reduceNeg, Int.le_refl, hq, e1, e3]
    generalize hx : b.getD j 0 = x at *
    simp only [set0, set1, set2, set3, set4, set5, set6, set7, set8, set9, set10, set11, set12, set13, set14, hz]
    refine wp_asg (v := .int (a[j] - c - x)) (H1 := ⟨H.ms ++ [f], H.bx⟩) hbj ?_
    simp only [set0, set1, set2, set3, set4, set5, set6, set7, set8, set9, set10, set11, set12, set13, set14]
    have hT : B ^ j * (a[j] - c - x) = B ^ j * a[j] - B ^ j * c - B ^ j * x := by grind
    by_cases hneg : a[j] - c - x < 0
    · refine wp_asg (v := .int 1) (H1 := ⟨H.ms ++ [f], H.bx⟩) (by simp only [ev, evs, evl, ex, exs, get0, get1, get2, get3, get4, get5, get6, get7, get8, get9, get10, get11, get12, get13, get14, set0, set1, set2, set3, set4, set5, set6, set7, set8, set9, set10, set11, set12, set13, set14, ar_add, ar_sub, ar_and, ar_or, ar_shr, items_lst, itemV_lst, itemV_box0, itemV_box1, itemV_box2, cmpV_int, cmpV_eqL, cmpV_neL, cmpI_eq, cmpI_ne, cmpI_lt, cmpI_le, cmpI_gt, cmpI_ge, attrV, reduceIte, if_true, if_false, decide_true, decide_false, Bool.not_true, Bool.not_false, Bool.false_eq_true, reduceCtorEq, decide_eq_true_eq, Int.toNat_natCast, Option.map_some, nn, Int.reduceLE, Int.reduceToNat, Int.reduceLT, Int.reduceEq, Int.reduceNeg, Int.le_refl, hneg] <;> rfl) ?_
      refine wp_app (z := a[j] - c - x + B) rfl (by simp only [ev, evs, evl, ex, exs, get0, get1, get2, get3, get4, get5, get6, get7, get8, get9, get10, get11, get12, get13, get14, set0, set1, set2, set3, set4, set5, set6, set7, set8, set9, set10, set11, set12, set13, set14, ar_add, ar_sub, ar_and, ar_or, ar_shr, items_lst, itemV_lst, itemV_box0, itemV_box1, itemV_box2, cmpV_int, cmpV_eqL, cmpV_neL, cmpI_eq, cmpI_ne, cmpI_lt, cmpI_le, cmpI_gt, cmpI_ge, attrV, reduceIte, if_true, if_false, decide_true, decide_false, Bool.not_true, Bool.not_false, Bool.false_eq_true, reduceCtorEq, decide_eq_true_eq, Int.toNat_natCast, Option.map_some, nn, Int.reduceLE, Int.reduceToNat, Int.reduceLT, Int.reduceEq, Int.reduceNeg, Int.le_refl, hneg] <;> rfl) (by omega) ?_
      have hl2 : (f ++ [a[j] - c - x + B]).length = j + 1 := by rw [List.length_append, List.length_singleton, hfl]
      refine wp_nil ⟨rfl, f ++ [a[j] - c - x + B], 1, .int j, .int (a[j] - c - x), by simp only [ev, evs, evl, ex, exs, get0, get1, get2, get3, get4, get5, get6, get7, get8, get9, get10, get11, get12, get13, get14, set0, set1, set2, set3, set4, set5, set6, set7, set8, set9, set10, set11, set12, set13, set14, ar_add, ar_sub, ar_and, ar_or, ar_shr, items_lst, itemV_lst, itemV_box0, itemV_box1, itemV_box2, cmpV_int, cmpV_eqL, cmpV_neL, cmpI_eq, cmpI_ne, cmpI_lt, cmpI_le, cmpI_gt, cmpI_ge, attrV, reduceIte, if_true, if_false, decide_true, decide_false, Bool.not_true, Bool.not_false, Bool.false_eq_true, reduceCtorEq, decide_eq_true_eq, Int.toNat_natCast, Option.map_some, nn, Int.reduceLE, Int.reduceToNat, Int.reduceLT, Int.reduceEq, Int.reduceNeg, Int.le_refl] <;> rfl, rfl, hl2, hd.append (Dg.cons (by omega) Dg.nil), by omega, by omega, ?_⟩
      rw [num_append, hfl, num_take_succ hja, num_take_getD, hx, Int.pow_succ]
      simp only [num]
      grind
    · refine wp_asg (v := .int 0) (H1 := ⟨H.ms ++ [f], H.bx⟩) (by simp only [ev, evs, evl, ex, exs, get0, get1, get2, get3, get4, get5, get6, get7, get8, get9, get10, get11, get12, get13, get14, set0, set1, set2, set3, set4, set5, set6, set7, set8, set9, set10, set11, set12, set13, set14, ar_add, ar_sub, ar_and, ar_or, ar_shr, items_lst, itemV_lst, itemV_box0, itemV_box1, itemV_box2, cmpV_int, cmpV_eqL, cmpV_neL, cmpI_eq, cmpI_ne, cmpI_lt, cmpI_le, cmpI_gt, cmpI_ge, attrV, reduceIte, if_true, if_false, decide_true, decide_false, Bool.not_true, Bool.not_false, Bool.false_eq_true, reduceCtorEq, decide_eq_true_eq, Int.toNat_natCast, Option.map_some, nn, Int.reduceLE, Int.reduceToNat, Int.reduceLT, Int.reduceEq, Int.reduceNeg, Int.le_refl, hneg] <;> rfl) ?_
      refine wp_app (z := a[j] - c - x) rfl (by simp only [ev, evs, evl, ex, exs, get0, get1, get2, get3, get4, get5, get6, get7, get8, get9, get10, get11, get12, get13, get14, set0, set1, set2, set3, set4, set5, set6, set7, set8, set9, set10, set11, set12, set13, set14, ar_add, ar_sub, ar_and, ar_or, ar_shr, items_lst, itemV_lst, itemV_box0, itemV_box1, itemV_box2, cmpV_int, cmpV_eqL, cmpV_neL, cmpI_eq, cmpI_ne, cmpI_lt, cmpI_le, cmpI_gt, cmpI_ge, attrV, reduceIte, if_true, if_false, decide_true, decide_false, Bool.not_true, Bool.not_false, Bool.false_eq_true, reduceCtorEq, decide_eq_true_eq, Int.toNat_natCast, Option.map_some, nn, Int.reduceLE, Int.reduceToNat, Int.reduceLT, Int.reduceEq, Int.reduceNeg, Int.le_refl, hneg] <;> rfl) (by omega) ?_
      have hl2 : (f ++ [a[j] - c - x]).length = j + 1 := by rw [List.length_append, List.length_singleton, hfl]
      refine wp_nil ⟨rfl, f ++ [a[j] - c - x], 0, .int j, .int (a[j] - c - x), by simp only [ev, evs, evl, ex, exs, get0, get1, get2, get3, get4, get5, get6, get7, get8, get9, get10, get11, get12, get13, get14, set0, set1, set2, set3, set4, set5, set6, set7, set8, set9, set10, set11, set12, set13, set14, ar_add, ar_sub, ar_and, ar_or, ar_shr, items_lst, itemV_lst, itemV_box0, itemV_box1, itemV_box2, cmpV_int, cmpV_eqL, cmpV_neL, cmpI_eq, cmpI_ne, cmpI_lt, cmpI_le, cmpI_gt, cmpI_ge, attrV, reduceIte, if_true, if_false, decide_true, decide_false, Bool.not_true, Bool.not_false, Bool.false_eq_true, reduceCtorEq, decide_eq_true_eq, Int.toNat_natCast, Option.map_some, nn, Int.reduceLE, Int.reduceToNat, Int.reduceLT, Int.reduceEq, Int.reduceNeg, Int.le_refl] <;> rfl, rfl, hl2, hd.append (Dg.cons (by omega) Dg.nil), by omega, by omega, ?_⟩
      rw [num_append, hfl, num_take_succ hja, num_take_getD, hx]
      simp only [num]
      grind
  · rintro _ _ ⟨f, c, v0, u0, rfl, rfl, hfl, hd, hc0, hc1, hnum⟩
    have hfa : (ups 0 (a.length : Int).toNat).length = a.length := by rw [ups_len]; omega
    rw [hfa] at hfl hnum
    rw [num_take_all, List.take_of_length_le hlen] at hnum
    have hlt := num_lt (B := B) (by omega) hd
    rw [hfl] at hlt
    have hc : c = 0 := by
      by_cases q : c = 0
      · exact q
      · have : c = 1 := by omega
        subst this
        omega
    subst hc
    have hN : num B f = num B a - num B b := by rw [← hnum]; simp
    refine wp_ret (v := .lst (row B (num B a - num B b))) (H1 := ⟨H.ms ++ [f], H.bx⟩) (ev_call1 (ev_loc rfl (by simp)) (by rw [← hN]; exact hnrm H.ms f hd (by omega))) gives_lst1

theorem lifted_v (n s : Nat) (hs : s ≤ 1000) {H : Hp} {a : List Int} (hla : a.length < 1000) : callM PT (n + 1) 5 [.lst a, .int s] H = some (.val (.lst (if a = [] then [] else List.replicate s 0 ++ a)) H) := by
  rw [callM_succ]
  show runB (callM PT n) F_lifted [.lst a, .int s] H = _
  refine runB_wp rfl ?_
  show Wp _ b_lifted [.lst a, .int s] H _
  cases a with
  | nil => exact wp_ret (v := .lst []) (H1 := H) (by simp [ev, cmpV, cmpI, items, mkL]) gives_lst
  | cons x r =>
    rw [if_neg (by simp)]
    have hpos : (0 : Int) < (((x :: r).length : Nat) : Int) := by simp
    have hs2 : (0 : Int) ≤ (s : Int) ∧ (s : Int) ≤ 1048576 := by omega
    have h1 : mkL false (List.replicate s 0) H = some (.lst (List.replicate s 0), H) := mkL_f (by simp; omega)
    have h2 : mkL false (List.replicate s 0 ++ x :: r) H = some (.lst (List.replicate s 0 ++ x :: r), H) := mkL_f (by simp at hla ⊢; omega)
    refine wp_ret (v := .lst (List.replicate s 0 ++ x :: r)) (H1 := H) (by simp only [ev, evs, evl, ex, exs, get0, get1, get2, get3, get4, get5, get6, get7, get8, get9, get10, get11, get12, get13, get14, set0, set1, set2, set3, set4, set5, set6, set7, set8, set9, set10, set11, set12, set13, set14, ar_add, ar_sub, ar_and, ar_or, ar_shr, items_lst, itemV_lst, itemV_box0, itemV_box1, itemV_box2, cmpV_int, cmpV_eqL, cmpV_neL, cmpI_eq, cmpI_ne, cmpI_lt, cmpI_le, cmpI_gt, cmpI_ge, attrV, reduceIte, if_true, if_false, decide_true, decide_false, Bool.not_true, Bool.not_false, Bool.false_eq_true, reduceCtorEq, decide_eq_true_eq, Int.toNat_natCast, Option.map_some, nn, Int.reduceLE, Int.reduceToNat, Int.reduceLT, Int.reduceEq, Int.reduceNeg, Int.le_refl, hpos, hs2, h1, h2, and_self] <;> rfl) gives_lst

theorem num_rep {B : Int} (s : Nat) : num B (List.replicate s 0) = 0 := num_zeros fun x h => (List.mem_replicate.mp h).2
theorem nm_cons_append : ∀ {xs : List Int} {y : Int} {r : List Int}, Nm (y :: r) → Nm (xs ++ y :: r)
  | [], _, _, h => h
  | [_], _, _, h => h
  | _ :: z :: t, _, _, h => nm_cons_append (xs := z :: t) h
theorem lifted_row {B : Int} (hB : 2 ≤ B) {a : List Int} (ha : Dg B a) (hn : Nm a) (s : Nat) : (if a = [] then [] else List.replicate s 0 ++ a) = row B (num B a * B ^ s) := by
  cases a with
  | nil => simp [num, row_zero]
  | cons x r =>
    rw [if_neg (by simp)]
    refine row_eq hB ?_ (nm_cons_append hn) ?_
    · exact Dg.append (fun y hy => by rw [(List.mem_replicate.mp hy).2]; omega) ha
    · rw [num_append, num_rep, List.length_replicate, Int.mul_comm]; omega

/-- one limb times one -/
theorem mul_limb1_v {w : Nat} (hw : 2 ≤ w ∧ w ≤ 9) (n : Nat) {H : Hp} {x l : Int} (hx : 0 ≤ x ∧ x < 2 ^ w) (hl : 0 ≤ l ∧ l < 2 ^ w) :
    ∃ t, callM PT (n + 1) 6 [.lst [x], .int l, .int w] H = some (.val (.lst (if l = 0 then [] else x * l % 2 ^ w :: t)) H) := by
  have hB := B_rng hw
  have hand : ∀ x, arith .and x (2 ^ w - 1) = some (x % 2 ^ w) := fun x => ar_and x w
  have hshr : ∀ x, arith .shr x (w : Int) = some (x / 2 ^ w) := fun x => ar_shr x w
  have hpow : arith .shl 1 (w : Int) = some (2 ^ w) := ar_shl1 (by omega)
  generalize hBe : (2 : Int) ^ w = B at *
  have hmk : mkL true [] H = some (.hnd H.ms.length, ⟨H.ms ++ [[]], H.bx⟩) := mkL_t (by simp)
  have hmk2 : mkL false [] H = some (.lst [], H) := mkL_f (by simp)
  have hmul : arith .mul x l = some (x * l) := ar_mul (okM_rng hx.1 (by omega)) (okM_rng hl.1 (by omega))
  refine ⟨if 0 < x * l / B then [x * l / B] else [], ?_⟩
  rw [callM_succ]
  show runB (callM PT n) F_mul_limb [.lst [x], .int l, .int w] H = _
  refine runB_wp rfl ?_
  show Wp _ b_mul_limb [.lst [x], .int l, .int w, .unset, .unset, .unset, .unset] H _
  by_cases h0 : l = 0
  · subst h0
    rw [if_pos rfl]
    refine wp_if_t (H1 := H) (by simp only [ev, evs, evl, ex, exs, get0, get1, get2, get3, get4, get5, get6, get7, get8, get9, get10, get11, get12, get13, get14, set0, set1, set2, set3, set4, set5, set6, set7, set8, set9, set10, set11, set12, set13, set14, ar_add, ar_sub, ar_and, ar_or, ar_shr, items_lst, itemV_lst, itemV_box0, itemV_box1, itemV_box2, cmpV_int, cmpV_eqL, cmpV_neL, cmpI_eq, cmpI_ne, cmpI_lt, cmpI_le, cmpI_gt, cmpI_ge, attrV, reduceIte, if_true, if_false, decide_true, decide_false, Bool.not_true, Bool.not_false, Bool.false_eq_true, reduceCtorEq, decide_eq_true_eq, Int.toNat_natCast, Option.map_some, nn, Int.reduceLE, Int.reduceToNat, Int.reduceLT, Int.reduceEq, Int.reduceNeg, Int.le_refl] <;> rfl) (wp_ret (v := .lst []) (H1 := H) (by simp only [ev, evs, evl, ex, exs, get0, get1, get2, get3, get4, get5, get6, get7, get8, get9, get10, get11, get12, get13, get14, set0, set1, set2, set3, set4, set5, set6, set7, set8, set9, set10, set11, set12, set13, set14, ar_add, ar_sub, ar_and, ar_or, ar_shr, items_lst, itemV_lst, itemV_box0, itemV_box1, itemV_box2, cmpV_int, cmpV_eqL, cmpV_neL, cmpI_eq, cmpI_ne, cmpI_lt, cmpI_le, cmpI_gt, cmpI_ge, attrV, reduceIte, if_true, if_false, decide_true, decide_false, Bool.not_true, Bool.not_false, Bool.false_eq_true, reduceCtorEq, decide_eq_true_eq, Int.toNat_natCast, Option.map_some, nn, Int.reduceLE, Int.reduceToNat, Int.reduceLT, Int.reduceEq, Int.reduceNeg, Int.le_refl, hmk2] <;> rfl) gives_lst)
  · rw [if_neg h0]
    refine wp_skip (H1 := H) (by simp only [ev, evs, evl, ex, exs, get0, get1, get2, get3, get4, get5, get6, get7, get8, get9, get10, get11, get12, get13, get14, set0, set1, set2, set3, set4, set5, set6, set7, set8, set9, set10, set11, set12, set13, set14, ar_add, ar_sub, ar_and, ar_or, ar_shr, items_lst, itemV_lst, itemV_box0, itemV_box1, itemV_box2, cmpV_int, cmpV_eqL, cmpV_neL, cmpI_eq, cmpI_ne, cmpI_lt, cmpI_le, cmpI_gt, cmpI_ge, attrV, reduceIte, if_true, if_false, decide_true, decide_false, Bool.not_true, Bool.not_false, Bool.false_eq_true, reduceCtorEq, decide_eq_true_eq, Int.toNat_natCast, Option.map_some, nn, Int.reduceLE, Int.reduceToNat, Int.reduceLT, Int.reduceEq, Int.reduceNeg, Int.le_refl, h0] <;> rfl) ?_
    refine wp_asg3 (v1 := .hnd H.ms.length) (v2 := .int 0) (v3 := .int (B - 1)) (H1 := ⟨H.ms ++ [[]], H.bx⟩) (H2 := ⟨H.ms ++ [[]], H.bx⟩) (H3 := ⟨H.ms ++ [[]], H.bx⟩) (by simp only [ev, evs, evl, ex, exs, get0, get1, get2, get3, get4, get5, get6, get7, get8, get9, get10, get11, get12, get13, get14, set0, set1, set2, set3, set4, set5, set6, set7, set8, set9, set10, set11, set12, set13, set14, ar_add, ar_sub, ar_and, ar_or, ar_shr, items_lst, itemV_lst, itemV_box0, itemV_box1, itemV_box2, cmpV_int, cmpV_eqL, cmpV_neL, cmpI_eq, cmpI_ne, cmpI_lt, cmpI_le, cmpI_gt, cmpI_ge, attrV, reduceIte, if_true, if_false, decide_true, decide_false, Bool.not_true, Bool.not_false, Bool.false_eq_true, reduceCtorEq, decide_eq_true_eq, Int.toNat_natCast, Option.map_some, nn, Int.reduceLE, Int.reduceToNat, Int.reduceLT, Int.reduceEq, Int.reduceNeg, Int.le_refl, hmk] <;> rfl) (by simp only [ev, evs, evl, ex, exs, get0, get1, get2, get3, get4, get5, get6, get7, get8, get9, get10, get11, get12, get13, get14, set0, set1, set2, set3, set4, set5, set6, set7, set8, set9, set10, set11, set12, set13, set14, ar_add, ar_sub, ar_and, ar_or, ar_shr, items_lst, itemV_lst, itemV_box0, itemV_box1, itemV_box2, cmpV_int, cmpV_eqL, cmpV_neL, cmpI_eq, cmpI_ne, cmpI_lt, cmpI_le, cmpI_gt, cmpI_ge, attrV, reduceIte, if_true, if_false, decide_true, decide_false, Bool.not_true, Bool.not_false, Bool.false_eq_true, reduceCtorEq, decide_eq_true_eq, Int.toNat_natCast, Option.map_some, nn, Int.reduceLE, Int.reduceToNat, Int.reduceLT, Int.reduceEq, Int.reduceNeg, Int.le_refl] <;> rfl) (by simp only [ev, evs, evl, ex, exs, get0, get1, get2, get3, get4, get5, get6, get7, get8, get9, get10, get11, get12, get13, get14, set0, set1, set2, set3, set4, set5, set6, set7, set8, set9, set10, set11, set12, set13, set14, ar_add, ar_sub, ar_and, ar_or, ar_shr, items_lst, itemV_lst, itemV_box0, itemV_box1, itemV_box2, cmpV_int, cmpV_eqL, cmpV_neL, cmpI_eq, cmpI_ne, cmpI_lt, cmpI_le, cmpI_gt, cmpI_ge, attrV, reduceIte, if_true, if_false, decide_true, decide_false, Bool.not_true, Bool.not_false, Bool.false_eq_true, reduceCtorEq, decide_eq_true_eq, Int.toNat_natCast, Option.map_some, nn, Int.reduceLE, Int.reduceToNat, Int.reduceLT, Int.reduceEq, Int.reduceNeg, Int.le_refl, hpow] <;> rfl) ?_
    simp only [set0, set1, set2, set3, set4, set5, set6, set7, set8, set9, set10, set11, set12, set13, set14]
    refine wp_forL (xs := [x]) (fun j loc h => ∃ v, (j = 0 ∧ loc = [.lst [x], .int l, .int w, .hnd H.ms.length, .int 0, .int (B - 1), v] ∧ h = ⟨H.ms ++ [[]], H.bx⟩) ∨ (j = 1 ∧ loc = [.lst [x], .int l, .int w, .hnd H.ms.length, .int (x * l / B), .int (B - 1), v] ∧ h = ⟨H.ms ++ [[x * l % B]], H.bx⟩)) (by simp only [ev, evs, evl, ex, exs, get0, get1, get2, get3, get4, get5, get6, get7, get8, get9, get10, get11, get12, get13, get14, set0, set1, set2, set3, set4, set5, set6, set7, set8, set9, set10, set11, set12, set13, set14, ar_add, ar_sub, ar_and, ar_or, ar_shr, items_lst, itemV_lst, itemV_box0, itemV_box1, itemV_box2, cmpV_int, cmpV_eqL, cmpV_neL, cmpI_eq, cmpI_ne, cmpI_lt, cmpI_le, cmpI_gt, cmpI_ge, attrV, reduceIte, if_true, if_false, decide_true, decide_false, Bool.not_true, Bool.not_false, Bool.false_eq_true, reduceCtorEq, decide_eq_true_eq, Int.toNat_natCast, Option.map_some, nn, Int.reduceLE, Int.reduceToNat, Int.reduceLT, Int.reduceEq, Int.reduceNeg, Int.le_refl] <;> rfl) ⟨.unset, .inl ⟨rfl, rfl, rfl⟩⟩ ?_ ?_
    · rintro j v _ _ hj ⟨v0, ⟨rfl, rfl, rfl⟩ | ⟨rfl, rfl, rfl⟩⟩
      · have hv : x = v := by simpa using hj
        subst hv
        simp only [set0, set1, set2, set3, set4, set5, set6, set7, set8, set9, set10, set11, set12, set13, set14]
        refine wp_aug (x := 0) (y := x * l) (z := x * l) rfl (by simp only [ev, evs, evl, ex, exs, get0, get1, get2, get3, get4, get5, get6, get7, get8, get9, get10, get11, get12, get13, get14, set0, set1, set2, set3, set4, set5, set6, set7, set8, set9, set10, set11, set12, set13, set14, ar_add, ar_sub, ar_and, ar_or, ar_shr, items_lst, itemV_lst, itemV_box0, itemV_box1, itemV_box2, cmpV_int, cmpV_eqL, cmpV_neL, cmpI_eq, cmpI_ne, cmpI_lt, cmpI_le, cmpI_gt, cmpI_ge, attrV, reduceIte, if_true, if_false, decide_true, decide_false, Bool.not_true, Bool.not_false, Bool.false_eq_true, reduceCtorEq, decide_eq_true_eq, Int.toNat_natCast, Option.map_some, nn, Int.reduceLE, Int.reduceToNat, Int.reduceLT, Int.reduceEq, Int.reduceNeg, Int.le_refl, hmul] <;> rfl) (by rw [ar_add]; simp) ?_
        refine wp_app (z := x * l % B) rfl (by simp only [ev, evs, evl, ex, exs, get0, get1, get2, get3, get4, get5, get6, get7, get8, get9, get10, get11, get12, get13, get14, set0, set1, set2, set3, set4, set5, set6, set7, set8, set9, set10, set11, set12, set13, set14, ar_add, ar_sub, ar_and, ar_or, ar_shr, items_lst, itemV_lst, itemV_box0, itemV_box1, itemV_box2, cmpV_int, cmpV_eqL, cmpV_neL, cmpI_eq, cmpI_ne, cmpI_lt, cmpI_le, cmpI_gt, cmpI_ge, attrV, reduceIte, if_true, if_false, decide_true, decide_false, Bool.not_true, Bool.not_false, Bool.false_eq_true, reduceCtorEq, decide_eq_true_eq, Int.toNat_natCast, Option.map_some, nn, Int.reduceLE, Int.reduceToNat, Int.reduceLT, Int.reduceEq, Int.reduceNeg, Int.le_refl, hand] <;> rfl) (by simp) ?_
        refine wp_aug (x := x * l) (y := (w : Int)) (z := x * l / B) rfl (by simp only [ev, evs, evl, ex, exs, get0, get1, get2, get3, get4, get5, get6, get7, get8, get9, get10, get11, get12, get13, get14, set0, set1, set2, set3, set4, set5, set6, set7, set8, set9, set10, set11, set12, set13, set14, ar_add, ar_sub, ar_and, ar_or, ar_shr, items_lst, itemV_lst, itemV_box0, itemV_box1, itemV_box2, cmpV_int, cmpV_eqL, cmpV_neL, cmpI_eq, cmpI_ne, cmpI_lt, cmpI_le, cmpI_gt, cmpI_ge, attrV, reduceIte, if_true, if_false, decide_true, decide_false, Bool.not_true, Bool.not_false, Bool.false_eq_true, reduceCtorEq, decide_eq_true_eq, Int.toNat_natCast, Option.map_some, nn, Int.reduceLE, Int.reduceToNat, Int.reduceLT, Int.reduceEq, Int.reduceNeg, Int.le_refl] <;> rfl) (hshr _) ?_
        exact wp_nil ⟨rfl, .int x, .inr ⟨by trivial, by simp only [ev, evs, evl, ex, exs, get0, get1, get2, get3, get4, get5, get6, get7, get8, get9, get10, get11, get12, get13, get14, set0, set1, set2, set3, set4, set5, set6, set7, set8, set9, set10, set11, set12, set13, set14, ar_add, ar_sub, ar_and, ar_or, ar_shr, items_lst, itemV_lst, itemV_box0, itemV_box1, itemV_box2, cmpV_int, cmpV_eqL, cmpV_neL, cmpI_eq, cmpI_ne, cmpI_lt, cmpI_le, cmpI_gt, cmpI_ge, attrV, reduceIte, if_true, if_false, decide_true, decide_false, Bool.not_true, Bool.not_false, Bool.false_eq_true, reduceCtorEq, decide_eq_true_eq, Int.toNat_natCast, Option.map_some, nn, Int.reduceLE, Int.reduceToNat, Int.reduceLT, Int.reduceEq, Int.reduceNeg, Int.le_refl] <;> rfl, by simp⟩⟩
      · simp at hj
    · rintro _ _ ⟨v0, ⟨h, _, _⟩ | ⟨_, rfl, rfl⟩⟩
      · simp at h
      · by_cases hc : 0 < x * l / B
        · refine wp_if_t (H1 := ⟨H.ms ++ [[x * l % B]], H.bx⟩) (by simp only [ev, evs, evl, ex, exs, get0, get1, get2, get3, get4, get5, get6, get7, get8, get9, get10, get11, get12, get13, get14, set0, set1, set2, set3, set4, set5, set6, set7, set8, set9, set10, set11, set12, set13, set14, ar_add, ar_sub, ar_and, ar_or, ar_shr, items_lst, itemV_lst, itemV_box0, itemV_box1, itemV_box2, cmpV_int, cmpV_eqL, cmpV_neL, cmpI_eq, cmpI_ne, cmpI_lt, cmpI_le, cmpI_gt, cmpI_ge, attrV, reduceIte, if_true, if_false, decide_true, decide_false, Bool.not_true, Bool.not_false, Bool.false_eq_true, reduceCtorEq, decide_eq_true_eq, Int.toNat_natCast, Option.map_some, nn, Int.reduceLE, Int.reduceToNat, Int.reduceLT, Int.reduceEq, Int.reduceNeg, Int.le_refl, hc] <;> rfl) ?_
          refine wp_app (z := x * l / B) rfl (by simp only [ev, evs, evl, ex, exs, get0, get1, get2, get3, get4, get5, get6, get7, get8, get9, get10, get11, get12, get13, get14, set0, set1, set2, set3, set4, set5, set6, set7, set8, set9, set10, set11, set12, set13, set14, ar_add, ar_sub, ar_and, ar_or, ar_shr, items_lst, itemV_lst, itemV_box0, itemV_box1, itemV_box2, cmpV_int, cmpV_eqL, cmpV_neL, cmpI_eq, cmpI_ne, cmpI_lt, cmpI_le, cmpI_gt, cmpI_ge, attrV, reduceIte, if_true, if_false, decide_true, decide_false, Bool.not_true, Bool.not_false, Bool.false_eq_true, reduceCtorEq, decide_eq_true_eq, Int.toNat_natCast, Option.map_some, nn, Int.reduceLE, Int.reduceToNat, Int.reduceLT, Int.reduceEq, Int.reduceNeg, Int.le_refl] <;> rfl) (by simp) (wp_nil ?_)
          rw [if_pos hc]
          exact wp_ret (v := .hnd H.ms.length) (by simp only [ev, evs, evl, ex, exs, get0, get1, get2, get3, get4, get5, get6, get7, get8, get9, get10, get11, get12, get13, get14, set0, set1, set2, set3, set4, set5, set6, set7, set8, set9, set10, set11, set12, set13, set14, ar_add, ar_sub, ar_and, ar_or, ar_shr, items_lst, itemV_lst, itemV_box0, itemV_box1, itemV_box2, cmpV_int, cmpV_eqL, cmpV_neL, cmpI_eq, cmpI_ne, cmpI_lt, cmpI_le, cmpI_gt, cmpI_ge, attrV, reduceIte, if_true, if_false, decide_true, decide_false, Bool.not_true, Bool.not_false, Bool.false_eq_true, reduceCtorEq, decide_eq_true_eq, Int.toNat_natCast, Option.map_some, nn, Int.reduceLE, Int.reduceToNat, Int.reduceLT, Int.reduceEq, Int.reduceNeg, Int.le_refl] <;> rfl) gives_hnd
        · refine wp_skip (H1 := ⟨H.ms ++ [[x * l % B]], H.bx⟩) (by simp only [ev, evs, evl, ex, exs, get0, get1, get2, get3, get4, get5, get6, get7, get8, get9, get10, get11, get12, get13, get14, set0, set1, set2, set3, set4, set5, set6, set7, set8, set9, set10, set11, set12, set13, set14, ar_add, ar_sub, ar_and, ar_or, ar_shr, items_lst, itemV_lst, itemV_box0, itemV_box1, itemV_box2, cmpV_int, cmpV_eqL, cmpV_neL, cmpI_eq, cmpI_ne, cmpI_lt, cmpI_le, cmpI_gt, cmpI_ge, attrV, reduceIte, if_true, if_false, decide_true, decide_false, Bool.not_true, Bool.not_false, Bool.false_eq_true, reduceCtorEq, decide_eq_true_eq, Int.toNat_natCast, Option.map_some, nn, Int.reduceLE, Int.reduceToNat, Int.reduceLT, Int.reduceEq, Int.reduceNeg, Int.le_refl, hc] <;> rfl) ?_
          rw [if_neg hc]
          exact wp_ret (v := .hnd H.ms.length) (by simp only [ev, evs, evl, ex, exs, get0, get1, get2, get3, get4, get5, get6, get7, get8, get9, get10, get11, get12, get13, get14, set0, set1, set2, set3, set4, set5, set6, set7, set8, set9, set10, set11, set12, set13, set14, ar_add, ar_sub, ar_and, ar_or, ar_shr, items_lst, itemV_lst, itemV_box0, itemV_box1, itemV_box2, cmpV_int, cmpV_eqL, cmpV_neL, cmpI_eq, cmpI_ne, cmpI_lt, cmpI_le, cmpI_gt, cmpI_ge, attrV, reduceIte, if_true, if_false, decide_true, decide_false, Bool.not_true, Bool.not_false, Bool.false_eq_true, reduceCtorEq, decide_eq_true_eq, Int.toNat_natCast, Option.map_some, nn, Int.reduceLE, Int.reduceToNat, Int.reduceLT, Int.reduceEq, Int.reduceNeg, Int.le_refl] <;> rfl) gives_hnd

theorem or_bit {c x : Int} (hc : c = 0 ∨ c = 1) : Builtin.bitOr c (x * 2) = c + x * 2 := by
  rw [bitOr_and]
  have : Builtin.bitAnd c (x * 2) = 0 := by
    rcases hc with rfl | rfl
    · have := kbt_mask (x * 2) 0
      rw [bitAnd_comm]
      simpa using this
    · rw [bitAnd_comm, bitAnd_m1]; omega
  omega

theorem shift1_v {w : Nat} (hw : 2 ≤ w ∧ w ≤ 9) (n : Nat) {H : Hp} {a : List Int} (ha : Dg (2 ^ w) a) (hna : Nm a) (hla : a.length < 1000) :
    callM PT (n + 1) 7 [.lst a, .int 1, .int w] H = some (.val (.lst (row (2 ^ w) (2 * num (2 ^ w) a))) H) := by
  have hB := B_rng hw
  have hand : ∀ x, arith .and x (2 ^ w - 1) = some (x % 2 ^ w) := fun x => ar_and x w
  have hshr : ∀ x, arith .shr x (w : Int) = some (x / 2 ^ w) := fun x => ar_shr x w
  have hpow : arith .shl 1 (w : Int) = some (2 ^ w) := ar_shl1 (by omega)
  generalize hBe : (2 : Int) ^ w = B at *
  rw [callM_succ]
  show runB (callM PT n) F_shift_left [.lst a, .int 1, .int w] H = _
  refine runB_wp rfl ?_
  show Wp _ b_shift_left [.lst a, .int 1, .int w, .unset, .unset, .unset, .unset, .unset, .unset] H _
  cases ha0 : a with
  | nil =>
    have hmk2 : mkL false [] H = some (.lst [], H) := mkL_f (by simp)
    exact wp_if_t (H1 := H) (by simp [ev, cmpV, cmpI, items]) (wp_ret (v := .lst []) (H1 := H) (by simp only [ev, evs, evl, ex, exs, get0, get1, get2, get3, get4, get5, get6, get7, get8, get9, get10, get11, get12, get13, get14, set0, set1, set2, set3, set4, set5, set6, set7, set8, set9, set10, set11, set12, set13, set14, ar_add, ar_sub, ar_and, ar_or, ar_shr, items_lst, itemV_lst, itemV_box0, itemV_box1, itemV_box2, cmpV_int, cmpV_eqL, cmpV_neL, cmpI_eq, cmpI_ne, cmpI_lt, cmpI_le, cmpI_gt, cmpI_ge, attrV, reduceIte, if_true, if_false, decide_true, decide_false, Bool.not_true, Bool.not_false, Bool.false_eq_true, reduceCtorEq, decide_eq_true_eq, Int.toNat_natCast, Option.map_some, nn, Int.reduceLE, Int.reduceToNat, Int.reduceLT, Int.reduceEq, Int.reduceNeg, Int.le_refl, hmk2] <;> rfl) gives_lst)
  | cons x0 r0 =>
    rw [← ha0]
    have hne : ¬ ((a.length : Int) = 0) := by rw [ha0]; simp; omega
    have hdiv : arith .fdiv 1 (w : Int) = some 0 := by rw [ar_fdiv (by omega) (okM_rng (by omega) (by omega)), Int.ediv_eq_zero_of_lt (by omega) (by omega)]
    have hmod : arith .mod 1 (w : Int) = some 1 := by rw [ar_mod (by omega), Int.emod_eq_of_lt (by omega) (by omega)]
    have hmk : mkL true [] H = some (.hnd H.ms.length, ⟨H.ms ++ [[]], H.bx⟩) := mkL_t (by simp)
    refine wp_skip (H1 := H) (by simp only [ev, evs, evl, ex, exs, get0, get1, get2, get3, get4, get5, get6, get7, get8, get9, get10, get11, get12, get13, get14, set0, set1, set2, set3, set4, set5, set6, set7, set8, set9, set10, set11, set12, set13, set14, ar_add, ar_sub, ar_and, ar_or, ar_shr, items_lst, itemV_lst, itemV_box0, itemV_box1, itemV_box2, cmpV_int, cmpV_eqL, cmpV_neL, cmpI_eq, cmpI_ne, cmpI_lt, cmpI_le, cmpI_gt, cmpI_ge, attrV, reduceIte, if_true, if_false, decide_true, decide_false, Bool.not_true, Bool.not_false, Bool.false_eq_true, reduceCtorEq, decide_eq_true_eq, Int.toNat_natCast, Option.map_some, nn, Int.reduceLE, Int.reduceToNat, Int.reduceLT, Int.reduceEq, Int.reduceNeg, Int.le_refl, hne] <;> rfl) ?_
    refine wp_asg2 (v1 := .int 0) (v2 := .int 1) (H1 := H) (H2 := H) (by simp only [ev, evs, evl, ex, exs, get0, get1, get2, get3, get4, get5, get6, get7, get8, get9, get10, get11, get12, get13, get14, set0, set1, set2, set3, set4, set5, set6, set7, set8, set9, set10, set11, set12, set13, set14, ar_add, ar_sub, ar_and, ar_or, ar_shr, items_lst, itemV_lst, itemV_box0, itemV_box1, itemV_box2, cmpV_int, cmpV_eqL, cmpV_neL, cmpI_eq, cmpI_ne, cmpI_lt, cmpI_le, cmpI_gt, cmpI_ge, attrV, reduceIte, if_true, if_false, decide_true, decide_false, Bool.not_true, Bool.not_false, Bool.false_eq_true, reduceCtorEq, decide_eq_true_eq, Int.toNat_natCast, Option.map_some, nn, Int.reduceLE, Int.reduceToNat, Int.reduceLT, Int.reduceEq, Int.reduceNeg, Int.le_refl, hdiv] <;> rfl) (by simp only [ev, evs, evl, ex, exs, get0, get1, get2, get3, get4, get5, get6, get7, get8, get9, get10, get11, get12, get13, get14, set0, set1, set2, set3, set4, set5, set6, set7, set8, set9, set10, set11, set12, set13, set14, ar_add, ar_sub, ar_and, ar_or, ar_shr, items_lst, itemV_lst, itemV_box0, itemV_box1, itemV_box2, cmpV_int, cmpV_eqL, cmpV_neL, cmpI_eq, cmpI_ne, cmpI_lt, cmpI_le, cmpI_gt, cmpI_ge, attrV, reduceIte, if_true, if_false, decide_true, decide_false, Bool.not_true, Bool.not_false, Bool.false_eq_true, reduceCtorEq, decide_eq_true_eq, Int.toNat_natCast, Option.map_some, nn, Int.reduceLE, Int.reduceToNat, Int.reduceLT, Int.reduceEq, Int.reduceNeg, Int.le_refl, hmod] <;> rfl) ?_
    simp only [set0, set1, set2, set3, set4, set5, set6, set7, set8, set9, set10, set11, set12, set13, set14]
    refine wp_asg3 (v1 := .hnd H.ms.length) (v2 := .int 0) (v3 := .int (B - 1)) (H1 := ⟨H.ms ++ [[]], H.bx⟩) (H2 := ⟨H.ms ++ [[]], H.bx⟩) (H3 := ⟨H.ms ++ [[]], H.bx⟩) (by simp only [ev, evs, evl, ex, exs, get0, get1, get2, get3, get4, get5, get6, get7, get8, get9, get10, get11, get12, get13, get14, set0, set1, set2, set3, set4, set5, set6, set7, set8, set9, set10, set11, set12, set13, set14, ar_add, ar_sub, ar_and, ar_or, ar_shr, items_lst, itemV_lst, itemV_box0, itemV_box1, itemV_box2, cmpV_int, cmpV_eqL, cmpV_neL, cmpI_eq, cmpI_ne, cmpI_lt, cmpI_le, cmpI_gt, cmpI_ge, attrV, reduceIte, if_true, if_false, decide_true, decide_false, Bool.not_true, Bool.not_false, Bool.false_eq_true, reduceCtorEq, decide_eq_true_eq, Int.toNat_natCast, Option.map_some, nn, Int.reduceLE, Int.reduceToNat, Int.reduceLT, Int.reduceEq, Int.reduceNeg, Int.le_refl, hmk, List.replicate_zero, and_self] <;> rfl) (by simp only [ev, evs, evl, ex, exs, get0, get1, get2, get3, get4, get5, get6, get7, get8, get9, get10, get11, get12, get13, get14, set0, set1, set2, set3, set4, set5, set6, set7, set8, set9, set10, set11, set12, set13, set14, ar_add, ar_sub, ar_and, ar_or, ar_shr, items_lst, itemV_lst, itemV_box0, itemV_box1, itemV_box2, cmpV_int, cmpV_eqL, cmpV_neL, cmpI_eq, cmpI_ne, cmpI_lt, cmpI_le, cmpI_gt, cmpI_ge, attrV, reduceIte, if_true, if_false, decide_true, decide_false, Bool.not_true, Bool.not_false, Bool.false_eq_true, reduceCtorEq, decide_eq_true_eq, Int.toNat_natCast, Option.map_some, nn, Int.reduceLE, Int.reduceToNat, Int.reduceLT, Int.reduceEq, Int.reduceNeg, Int.le_refl] <;> rfl) (by simp only [ev, evs, evl, ex, exs, get0, get1, get2, get3, get4, get5, get6, get7, get8, get9, get10, get11, get12, get13, get14, set0, set1, set2, set3, set4, set5, set6, set7, set8, set9, set10, set11, set12, set13, set14, ar_add, ar_sub, ar_and, ar_or, ar_shr, items_lst, itemV_lst, itemV_box0, itemV_box1, itemV_box2, cmpV_int, cmpV_eqL, cmpV_neL, cmpI_eq, cmpI_ne, cmpI_lt, cmpI_le, cmpI_gt, cmpI_ge, attrV, reduceIte, if_true, if_false, decide_true, decide_false, Bool.not_true, Bool.not_false, Bool.false_eq_true, reduceCtorEq, decide_eq_true_eq, Int.toNat_natCast, Option.map_some, nn, Int.reduceLE, Int.reduceToNat, Int.reduceLT, Int.reduceEq, Int.reduceNeg, Int.le_refl, hpow] <;> rfl) ?_
    simp only [set0, set1, set2, set3, set4, set5, set6, set7, set8, set9, set10, set11, set12, set13, set14]
    refine wp_forL (xs := a) (fun j l h => ∃ f c v, l = [.lst a, .int 1, .int w, .int 0, .int 1, .hnd H.ms.length, .int c, .int (B - 1), v] ∧ h = ⟨H.ms ++ [f], H.bx⟩ ∧ f.length = j ∧ Dg B f ∧ 0 ≤ c ∧ c ≤ 1 ∧ num B f + B ^ f.length * c = 2 * num B (a.take j))
      (by simp only [ev, evs, evl, ex, exs, get0, get1, get2, get3, get4, get5, get6, get7, get8, get9, get10, get11, get12, get13, get14, set0, set1, set2, set3, set4, set5, set6, set7, set8, set9, set10, set11, set12, set13, set14, ar_add, ar_sub, ar_and, ar_or, ar_shr, items_lst, itemV_lst, itemV_box0, itemV_box1, itemV_box2, cmpV_int, cmpV_eqL, cmpV_neL, cmpI_eq, cmpI_ne, cmpI_lt, cmpI_le, cmpI_gt, cmpI_ge, attrV, reduceIte, if_true, if_false, decide_true, decide_false, Bool.not_true, Bool.not_false, Bool.false_eq_true, reduceCtorEq, decide_eq_true_eq, Int.toNat_natCast, Option.map_some, nn, Int.reduceLE, Int.reduceToNat, Int.reduceLT, Int.reduceEq, Int.reduceNeg, Int.le_refl] <;> rfl) ⟨[], 0, .unset, rfl, rfl, rfl, Dg.nil, by omega, by omega, by simp [num]⟩ ?_ ?_
    · rintro j x _ _ hj ⟨f, c, v0, rfl, rfl, hfl, hd, hc0, hc1, hnum⟩
      have hja : j < a.length := by
        by_cases q : j < a.length
        · exact q
        · rw [List.getElem?_eq_none (by omega)] at hj; cases hj
      have hxa : a[j] = x := by rw [List.getElem?_eq_getElem hja] at hj; exact Option.some.inj hj
      have dx := ha.at hj
      have hsh : arith .shl x 1 = some (x * 2) := by
        have := ar_shl (x := x) (w := 1) (by omega) (okM_rng dx.1 (by omega))
        simpa using this
      have hor : arith .or c (x * 2) = some (c + x * 2) := by rw [ar_or, or_bit (by omega)]
      simp only [set0, set1, set2, set3, set4, set5, set6, set7, set8, set9, set10, set11, set12, set13, set14]
      refine wp_aug (x := c) (y := x * 2) (z := c + x * 2) rfl (by simp only [ev, evs, evl, ex, exs, get0, get1, get2, get3, get4, get5, get6, get7, get8, get9, get10, get11, get12, get13, get14, set0, set1, set2, set3, set4, set5, set6, set7, set8, set9, set10, set11, set12, set13, set14, ar_add, ar_sub, ar_and, ar_or, ar_shr, items_lst, itemV_lst, itemV_box0, itemV_box1, itemV_box2, cmpV_int, cmpV_eqL, cmpV_neL, cmpI_eq, cmpI_ne, cmpI_lt, cmpI_le, cmpI_gt, cmpI_ge, attrV, reduceIte, if_true, if_false, decide_true, decide_false, Bool.not_true, Bool.not_false, Bool.false_eq_true, reduceCtorEq, decide_eq_true_eq, Int.toNat_natCast, Option.map_some, nn, Int.reduceLE, Int.reduceToNat, Int.reduceLT, Int.reduceEq, Int.reduceNeg, Int.le_refl, hsh] <;> rfl) hor ?_
      refine wp_app (z := (c + x * 2) % B) rfl (by simp only [ev, evs, evl, ex, exs, get0, get1, get2, get3, get4, get5, get6, get7, get8, get9, get10, get11, get12, get13, get14, set0, set1, set2, set3, set4, set5, set6, set7, set8, set9, set10, set11, set12, set13, set14, ar_add, ar_sub, ar_and, ar_or, ar_shr, items_lst, itemV_lst, itemV_box0, itemV_box1, itemV_box2, cmpV_int, cmpV_eqL, cmpV_neL, cmpI_eq, cmpI_ne, cmpI_lt, cmpI_le, cmpI_gt, cmpI_ge, attrV, reduceIte, if_true, if_false, decide_true, decide_false, Bool.not_true, Bool.not_false, Bool.false_eq_true, reduceCtorEq, decide_eq_true_eq, Int.toNat_natCast, Option.map_some, nn, Int.reduceLE, Int.reduceToNat, Int.reduceLT, Int.reduceEq, Int.reduceNeg, Int.le_refl, hand] <;> rfl) (by omega) ?_
      refine wp_aug (x := c + x * 2) (y := (w : Int)) (z := (c + x * 2) / B) rfl (by simp only [ev, evs, evl, ex, exs, get0, get1, get2, get3, get4, get5, get6, get7, get8, get9, get10, get11, get12, get13, get14, set0, set1, set2, set3, set4, set5, set6, set7, set8, set9, set10, set11, set12, set13, set14, ar_add, ar_sub, ar_and, ar_or, ar_shr, items_lst, itemV_lst, itemV_box0, itemV_box1, itemV_box2, cmpV_int, cmpV_eqL, cmpV_neL, cmpI_eq, cmpI_ne, cmpI_lt, cmpI_le, cmpI_gt, cmpI_ge, attrV, reduceIte, if_true, if_false, decide_true, decide_false, Bool.not_true, Bool.not_false, Bool.false_eq_true, reduceCtorEq, decide_eq_true_eq, Int.toNat_natCast, Option.map_some, nn, Int.reduceLE, Int.reduceToNat, Int.reduceLT, Int.reduceEq, Int.reduceNeg, Int.le_refl] <;> rfl) (hshr _) ?_
      have hle : (c + x * 2) / B < 2 := Int.ediv_lt_of_lt_mul (by omega) (by omega)
      refine wp_nil ⟨rfl, f ++ [(c + x * 2) % B], (c + x * 2) / B, .int x, by simp only [ev, evs, evl, ex, exs, get0, get1, get2, get3, get4, get5, get6, get7, get8, get9, get10, get11, get12, get13, get14, set0, set1, set2, set3, set4, set5, set6, set7, set8, set9, set10, set11, set12, set13, set14, ar_add, ar_sub, ar_and, ar_or, ar_shr, items_lst, itemV_lst, itemV_box0, itemV_box1, itemV_box2, cmpV_int, cmpV_eqL, cmpV_neL, cmpI_eq, cmpI_ne, cmpI_lt, cmpI_le, cmpI_gt, cmpI_ge, attrV, reduceIte, if_true, if_false, decide_true, decide_false, Bool.not_true, Bool.not_false, Bool.false_eq_true, reduceCtorEq, decide_eq_true_eq, Int.toNat_natCast, Option.map_some, nn, Int.reduceLE, Int.reduceToNat, Int.reduceLT, Int.reduceEq, Int.reduceNeg, Int.le_refl] <;> rfl, rfl, by simp [hfl], dg_push (by omega) hd, Int.ediv_nonneg (by omega) (by omega), by omega, ?_⟩
      rw [push_num (by omega), num_take_succ hja, hxa]
      rw [hfl] at hnum ⊢
      grind
    · rintro _ _ ⟨f, c, v0, rfl, rfl, hfl, hd, hc0, hc1, hnum⟩
      rw [num_take_all] at hnum
      have hfin := finish_row (B := B) (by omega) hd (c := c) ⟨hc0, by omega⟩ hnum (by
        rw [hfl, ha0]
        right
        rw [ha0] at ha hna
        have := nm_ge (B := B) (by omega) ha hna
        have := num_nonneg (B := B) (by omega) ha
        simp only [List.length_cons, Nat.add_sub_cancel]
        omega)
      by_cases hc : 0 < c
      · rw [if_pos hc] at hfin
        refine wp_if_t (H1 := ⟨H.ms ++ [f], H.bx⟩) (by simp only [ev, evs, evl, ex, exs, get0, get1, get2, get3, get4, get5, get6, get7, get8, get9, get10, get11, get12, get13, get14, set0, set1, set2, set3, set4, set5, set6, set7, set8, set9, set10, set11, set12, set13, set14, ar_add, ar_sub, ar_and, ar_or, ar_shr, items_lst, itemV_lst, itemV_box0, itemV_box1, itemV_box2, cmpV_int, cmpV_eqL, cmpV_neL, cmpI_eq, cmpI_ne, cmpI_lt, cmpI_le, cmpI_gt, cmpI_ge, attrV, reduceIte, if_true, if_false, decide_true, decide_false, Bool.not_true, Bool.not_false, Bool.false_eq_true, reduceCtorEq, decide_eq_true_eq, Int.toNat_natCast, Option.map_some, nn, Int.reduceLE, Int.reduceToNat, Int.reduceLT, Int.reduceEq, Int.reduceNeg, Int.le_refl, hc] <;> rfl) ?_
        refine wp_app (z := c) rfl (by simp only [ev, evs, evl, ex, exs, get0, get1, get2, get3, get4, get5, get6, get7, get8, get9, get10, get11, get12, get13, get14, set0, set1, set2, set3, set4, set5, set6, set7, set8, set9, set10, set11, set12, set13, set14, ar_add, ar_sub, ar_and, ar_or, ar_shr, items_lst, itemV_lst, itemV_box0, itemV_box1, itemV_box2, cmpV_int, cmpV_eqL, cmpV_neL, cmpI_eq, cmpI_ne, cmpI_lt, cmpI_le, cmpI_gt, cmpI_ge, attrV, reduceIte, if_true, if_false, decide_true, decide_false, Bool.not_true, Bool.not_false, Bool.false_eq_true, reduceCtorEq, decide_eq_true_eq, Int.toNat_natCast, Option.map_some, nn, Int.reduceLE, Int.reduceToNat, Int.reduceLT, Int.reduceEq, Int.reduceNeg, Int.le_refl] <;> rfl) (by omega) (wp_nil ?_)
        rw [hfin]
        exact wp_ret (v := .hnd H.ms.length) (by simp only [ev, evs, evl, ex, exs, get0, get1, get2, get3, get4, get5, get6, get7, get8, get9, get10, get11, get12, get13, get14, set0, set1, set2, set3, set4, set5, set6, set7, set8, set9, set10, set11, set12, set13, set14, ar_add, ar_sub, ar_and, ar_or, ar_shr, items_lst, itemV_lst, itemV_box0, itemV_box1, itemV_box2, cmpV_int, cmpV_eqL, cmpV_neL, cmpI_eq, cmpI_ne, cmpI_lt, cmpI_le, cmpI_gt, cmpI_ge, attrV, reduceIte, if_true, if_false, decide_true, decide_false, Bool.not_true, Bool.not_false, Bool.false_eq_true, reduceCtorEq, decide_eq_true_eq, Int.toNat_natCast, Option.map_some, nn, Int.reduceLE, Int.reduceToNat, Int.reduceLT, Int.reduceEq, Int.reduceNeg, Int.le_refl] <;> rfl) gives_hnd
      · rw [if_neg hc] at hfin
        refine wp_skip (H1 := ⟨H.ms ++ [f], H.bx⟩) (by simp only [ev, evs, evl, ex, exs, get0, get1, get2, get3, get4, get5, get6, get7, get8, get9, get10, get11, get12, get13, get14, set0, set1, set2, set3, set4, set5, set6, set7, set8, set9, set10, set11, set12, set13, set14, ar_add, ar_sub, ar_and, ar_or, ar_shr, items_lst, itemV_lst, itemV_box0, itemV_box1, itemV_box2, cmpV_int, cmpV_eqL, cmpV_neL, cmpI_eq, cmpI_ne, cmpI_lt, cmpI_le, cmpI_gt, cmpI_ge, attrV, reduceIte, if_true, if_false, decide_true, decide_false, Bool.not_true, Bool.not_false, Bool.false_eq_true, reduceCtorEq, decide_eq_true_eq, Int.toNat_natCast, Option.map_some, nn, Int.reduceLE, Int.reduceToNat, Int.reduceLT, Int.reduceEq, Int.reduceNeg, Int.le_refl, hc] <;> rfl) ?_
        rw [hfin]
        exact wp_ret (v := .hnd H.ms.length) (by simp only [ev, evs, evl, ex, exs, get0, get1, get2, get3, get4, get5, get6, get7, get8, get9, get10, get11, get12, get13, get14, set0, set1, set2, set3, set4, set5, set6, set7, set8, set9, set10, set11, set12, set13, set14, ar_add, ar_sub, ar_and, ar_or, ar_shr, items_lst, itemV_lst, itemV_box0, itemV_box1, itemV_box2, cmpV_int, cmpV_eqL, cmpV_neL, cmpI_eq, cmpI_ne, cmpI_lt, cmpI_le, cmpI_gt, cmpI_ge, attrV, reduceIte, if_true, if_false, decide_true, decide_false, Bool.not_true, Bool.not_false, Bool.false_eq_true, reduceCtorEq, decide_eq_true_eq, Int.toNat_natCast, Option.map_some, nn, Int.reduceLE, Int.reduceToNat, Int.reduceLT, Int.reduceEq, Int.reduceNeg, Int.le_refl] <;> rfl) gives_hnd
end Mine

namespace Mine

/-- a number that the law may meet -/
noncomputable def Sm (n : Int) : Prop := 0 ≤ n ∧ n < 2 ^ 200
theorem row_len {B n : Int} (hB : 2 ≤ B) (h : Sm n) : (row B n).length ≤ 200 := by
  refine row_len_le hB h.1 (Int.lt_of_lt_of_le h.2 ?_)
  have : ∀ k : Nat, (2 : Int) ^ k ≤ B ^ k := by
    intro k
    induction k with
    | zero => simp
    | succ k ih =>
      rw [Int.pow_succ, Int.pow_succ]
      exact Int.mul_le_mul ih hB (by omega) (Int.pow_nonneg (by omega))
  exact this 200

section
variable {w : Nat} (hw : 2 ≤ w ∧ w ≤ 9) (n : Nat) {H : Hp} {x y : Int}
include hw
theorem compare_r (hx : Sm x) (hy : Sm y) : callM PT (n + 1) 2 [.lst (row (2 ^ w) x), .lst (row (2 ^ w) y)] H = some (.val (.int (sg x y)) H) := by
  have hB := B_rng hw
  have := compare_v (B := 2 ^ w) (by omega) n (H := H) (row_dg (by omega) hx.1) (row_nm (by omega) hx.1) (row_dg (by omega) hy.1) (row_nm (by omega) hy.1) (by have := row_len (B := 2 ^ w) (by omega) hx; omega)
  rwa [row_num (by omega) hx.1, row_num (by omega) hy.1] at this
theorem sub_r (hx : Sm x) (hy : Sm y) (hge : y ≤ x) : callM PT (n + 2) 4 [.lst (row (2 ^ w) x), .lst (row (2 ^ w) y), .int w] H = some (.val (.lst (row (2 ^ w) (x - y))) H) := by
  have hB := B_rng hw
  have := sub_v hw n (H := H) (row_dg (by omega) hx.1) (row_nm (by omega) hx.1) (row_dg (by omega) hy.1) (row_nm (by omega) hy.1) (by have := row_len (B := 2 ^ w) (by omega) hx; omega) (by rw [row_num (by omega) hx.1, row_num (by omega) hy.1]; exact hge)
  rwa [row_num (by omega) hx.1, row_num (by omega) hy.1] at this
theorem add_r (hx : Sm x) (hy : Sm y) : callM PT (n + 1) 3 [.lst (row (2 ^ w) x), .lst (row (2 ^ w) y), .int w] H = some (.val (.lst (row (2 ^ w) (x + y))) H) := by
  have hB := B_rng hw
  have := add_v hw n (H := H) (row_dg (by omega) hx.1) (row_nm (by omega) hx.1) (row_dg (by omega) hy.1) (row_nm (by omega) hy.1) (by have := row_len (B := 2 ^ w) (by omega) hx; omega) (by have := row_len (B := 2 ^ w) (by omega) hy; omega)
  rwa [row_num (by omega) hx.1, row_num (by omega) hy.1] at this
theorem shift1_r (hx : Sm x) : callM PT (n + 1) 7 [.lst (row (2 ^ w) x), .int 1, .int w] H = some (.val (.lst (row (2 ^ w) (2 * x))) H) := by
  have hB := B_rng hw
  have := shift1_v hw n (H := H) (row_dg (by omega) hx.1) (row_nm (by omega) hx.1) (by have := row_len (B := 2 ^ w) (by omega) hx; omega)
  rwa [row_num (by omega) hx.1] at this
theorem lifted_r (hx : Sm x) (s : Nat) (hs : s ≤ 1000) : callM PT (n + 1) 5 [.lst (row (2 ^ w) x), .int s] H = some (.val (.lst (row (2 ^ w) (x * (2 ^ w) ^ s))) H) := by
  have hB := B_rng hw
  have := lifted_v n s hs (H := H) (a := row (2 ^ w) x) (by have := row_len (B := 2 ^ w) (by omega) hx; omega)
  rwa [lifted_row (by omega) (row_dg (by omega) hx.1) (row_nm (by omega) hx.1), row_num (by omega) hx.1] at this

theorem taken_r (hx : Sm x) (hy : Sm y) : callM PT (n + 3) 12 [.lst (row (2 ^ w) x), .lst (row (2 ^ w) y), .int w] H = some (.val (.lst (row (2 ^ w) (if y ≤ x then x - y else x))) H) := by
  rw [callM_succ]
  show runB (callM PT (n + 2)) F_taken_once [.lst (row (2 ^ w) x), .lst (row (2 ^ w) y), .int w] H = _
  refine runB_wp rfl ?_
  show Wp _ b_taken_once [.lst (row (2 ^ w) x), .lst (row (2 ^ w) y), .int w] H _
  have h1 := compare_r hw (n + 1) (H := H) hx hy
  by_cases h : y ≤ x
  · have h2 := sub_r hw n (H := H) hx hy h
    have hs : (0 : Int) ≤ sg x y := by unfold sg; rw [if_neg (by omega)]; split <;> omega
    rw [if_pos h]
    exact wp_ret (v := .lst (row (2 ^ w) (x - y))) (H1 := H) (by simp only [ev, evs, evl, ex, exs, get0, get1, get2, get3, get4, get5, get6, get7, get8, get9, get10, get11, get12, get13, get14, set0, set1, set2, set3, set4, set5, set6, set7, set8, set9, set10, set11, set12, set13, set14, ar_add, ar_sub, ar_and, ar_or, ar_shr, items_lst, itemV_lst, itemV_box0, itemV_box1, itemV_box2, cmpV_int, cmpV_eqL, cmpV_neL, cmpI_eq, cmpI_ne, cmpI_lt, cmpI_le, cmpI_gt, cmpI_ge, attrV, reduceIte, if_true, if_false, decide_true, decide_false, Bool.not_true, Bool.not_false, Bool.false_eq_true, reduceCtorEq, decide_eq_true_eq, Int.toNat_natCast, Option.map_some, nn, Int.reduceLE, Int.reduceToNat, Int.reduceLT, Int.reduceEq, Int.reduceNeg, Int.le_refl, h1, h2, hs] <;> rfl) gives_lst
  · have hs : ¬ (0 : Int) ≤ sg x y := by rw [sg_lt (by omega)]; omega
    rw [if_neg h]
    exact wp_ret (v := .lst (row (2 ^ w) x)) (H1 := H) (by simp only [ev, evs, evl, ex, exs, get0, get1, get2, get3, get4, get5, get6, get7, get8, get9, get10, get11, get12, get13, get14, set0, set1, set2, set3, set4, set5, set6, set7, set8, set9, set10, set11, set12, set13, set14, ar_add, ar_sub, ar_and, ar_or, ar_shr, items_lst, itemV_lst, itemV_box0, itemV_box1, itemV_box2, cmpV_int, cmpV_eqL, cmpV_neL, cmpI_eq, cmpI_ne, cmpI_lt, cmpI_le, cmpI_gt, cmpI_ge, attrV, reduceIte, if_true, if_false, decide_true, decide_false, Bool.not_true, Bool.not_false, Bool.false_eq_true, reduceCtorEq, decide_eq_true_eq, Int.toNat_natCast, Option.map_some, nn, Int.reduceLE, Int.reduceToNat, Int.reduceLT, Int.reduceEq, Int.reduceNeg, Int.le_refl, h1, hs] <;> rfl) gives_lst

theorem mod_once {x m : Int} (h0 : 0 ≤ x) (h : x < m) : (if m ≤ 2 * x then 2 * x - m else 2 * x) = 2 * x % m := by
  split
  · have : 2 * x % m = (2 * x - m) % m := by rw [Int.sub_emod_right]
    rw [this, Int.emod_eq_of_lt (by omega) (by omega)]
  · rw [Int.emod_eq_of_lt (by omega) (by omega)]

theorem doubled_r (h0 : 0 ≤ x) (hlt : x < y) (hy : y < 2 ^ 190) : callM PT (n + 3) 9 [.lst (row (2 ^ w) x), .lst (row (2 ^ w) y), .int w] H = some (.val (.lst (row (2 ^ w) (2 * x % y))) H) := by
  have e1 : (2 : Int) ^ 200 = 1024 * 2 ^ 190 := by decide
  have hx : Sm x := ⟨h0, by omega⟩
  have hy' : Sm y := ⟨by omega, by omega⟩
  have hx2 : Sm (2 * x) := ⟨by omega, by omega⟩
  rw [callM_succ]
  show runB (callM PT (n + 2)) F_doubled_rest [.lst (row (2 ^ w) x), .lst (row (2 ^ w) y), .int w] H = _
  refine runB_wp rfl ?_
  show Wp _ b_doubled_rest [.lst (row (2 ^ w) x), .lst (row (2 ^ w) y), .int w, .unset] H _
  refine wp_asg (v := .lst (row (2 ^ w) (2 * x))) (H1 := H) (by simp only [ev, evs, evl, ex, exs, get0, get1, get2, get3, get4, get5, get6, get7, get8, get9, get10, get11, get12, get13, get14, set0, set1, set2, set3, set4, set5, set6, set7, set8, set9, set10, set11, set12, set13, set14, ar_add, ar_sub, ar_and, ar_or, ar_shr, items_lst, itemV_lst, itemV_box0, itemV_box1, itemV_box2, cmpV_int, cmpV_eqL, cmpV_neL, cmpI_eq, cmpI_ne, cmpI_lt, cmpI_le, cmpI_gt, cmpI_ge, attrV, reduceIte, if_true, if_false, decide_true, decide_false, Bool.not_true, Bool.not_false, Bool.false_eq_true, reduceCtorEq, decide_eq_true_eq, Int.toNat_natCast, Option.map_some, nn, Int.reduceLE, Int.reduceToNat, Int.reduceLT, Int.reduceEq, Int.reduceNeg, Int.le_refl, shift1_r hw (n + 1) (H := H) hx] <;> rfl) ?_
  simp only [set0, set1, set2, set3, set4, set5, set6, set7, set8, set9, set10, set11, set12, set13, set14]
  have h1 := compare_r hw (n + 1) (H := H) hx2 hy'
  rw [← mod_once hw h0 hlt]
  by_cases h : y ≤ 2 * x
  · have h2 := sub_r hw n (H := H) hx2 hy' h
    have hs : (0 : Int) ≤ sg (2 * x) y := by unfold sg; rw [if_neg (by omega)]; split <;> omega
    rw [if_pos h]
    exact wp_ret (v := .lst (row (2 ^ w) (2 * x - y))) (H1 := H) (by simp only [ev, evs, evl, ex, exs, get0, get1, get2, get3, get4, get5, get6, get7, get8, get9, get10, get11, get12, get13, get14, set0, set1, set2, set3, set4, set5, set6, set7, set8, set9, set10, set11, set12, set13, set14, ar_add, ar_sub, ar_and, ar_or, ar_shr, items_lst, itemV_lst, itemV_box0, itemV_box1, itemV_box2, cmpV_int, cmpV_eqL, cmpV_neL, cmpI_eq, cmpI_ne, cmpI_lt, cmpI_le, cmpI_gt, cmpI_ge, attrV, reduceIte, if_true, if_false, decide_true, decide_false, Bool.not_true, Bool.not_false, Bool.false_eq_true, reduceCtorEq, decide_eq_true_eq, Int.toNat_natCast, Option.map_some, nn, Int.reduceLE, Int.reduceToNat, Int.reduceLT, Int.reduceEq, Int.reduceNeg, Int.le_refl, h1, h2, hs] <;> rfl) gives_lst
  · have hs : ¬ (0 : Int) ≤ sg (2 * x) y := by rw [sg_lt (by omega)]; omega
    rw [if_neg h]
    exact wp_ret (v := .lst (row (2 ^ w) (2 * x))) (H1 := H) (by simp only [ev, evs, evl, ex, exs, get0, get1, get2, get3, get4, get5, get6, get7, get8, get9, get10, get11, get12, get13, get14, set0, set1, set2, set3, set4, set5, set6, set7, set8, set9, set10, set11, set12, set13, set14, ar_add, ar_sub, ar_and, ar_or, ar_shr, items_lst, itemV_lst, itemV_box0, itemV_box1, itemV_box2, cmpV_int, cmpV_eqL, cmpV_neL, cmpI_eq, cmpI_ne, cmpI_lt, cmpI_le, cmpI_gt, cmpI_ge, attrV, reduceIte, if_true, if_false, decide_true, decide_false, Bool.not_true, Bool.not_false, Bool.false_eq_true, reduceCtorEq, decide_eq_true_eq, Int.toNat_natCast, Option.map_some, nn, Int.reduceLE, Int.reduceToNat, Int.reduceLT, Int.reduceEq, Int.reduceNeg, Int.le_refl, h1, hs] <;> rfl) gives_lst
end

/-- the inverse of an odd limb -/
theorem inv_step {d f k : Int} (hk : (d * f - 1) % k = 0) : (d * (f * (2 - d * f)) - 1) % (k * k) = 0 := by
  obtain ⟨q, hq⟩ := Int.dvd_of_emod_eq_zero hk
  refine Int.emod_eq_zero_of_dvd ⟨-(q * q), ?_⟩
  have : d * f = 1 + k * q := by omega
  have e : d * (f * (2 - d * f)) - 1 = -((d * f - 1) * (d * f - 1)) := by grind
  rw [e, this]; grind
theorem odd_sq {d : Int} (h : d % 2 = 1) : (d * d - 1) % 8 = 0 := by
  obtain ⟨k, hk⟩ : ∃ k, d = 2 * k + 1 := ⟨d / 2, by omega⟩
  subst hk
  obtain ⟨j, hj⟩ : ∃ j, k * (k + 1) = 2 * j := by
    rcases (show k % 2 = 0 ∨ k % 2 = 1 by omega) with q | q
    · exact ⟨k / 2 * (k + 1), by
        have : k = 2 * (k / 2) := by omega
        grind⟩
    · exact ⟨k * ((k + 1) / 2), by
        have : k + 1 = 2 * ((k + 1) / 2) := by omega
        grind⟩
  refine Int.emod_eq_zero_of_dvd ⟨j, ?_⟩
  grind
/-- what is so for a modulus is so when the number is taken modulo a multiple -/
theorem inv_mod {d f k W : Int} (hW : k ∣ W) (h : (d * f - 1) % k = 0) : (d * (f % W) - 1) % k = 0 := by
  obtain ⟨q, rfl⟩ := hW
  obtain ⟨r, hr⟩ := Int.dvd_of_emod_eq_zero h
  have e := Int.emod_add_mul_ediv f (k * q)
  refine Int.emod_eq_zero_of_dvd ⟨r - d * q * (f / (k * q)), ?_⟩
  have : f % (k * q) = f - k * q * (f / (k * q)) := by omega
  rw [this]
  grind
theorem ipow_dvd {a b : Nat} (h : a ≤ b) : (2 : Int) ^ a ∣ 2 ^ b := by
  obtain ⟨d, rfl⟩ := Nat.exists_eq_add_of_le h
  rw [Int.pow_add]
  exact Int.dvd_mul_right _ _
theorem cong_shift {d g K W t : Int} (hW : K ∣ W) (h : (d * g - 1) % K = 0) : (d * (g - W * t) - 1) % K = 0 := by
  obtain ⟨q, rfl⟩ := hW
  obtain ⟨r, hr⟩ := Int.dvd_of_emod_eq_zero h
  refine Int.emod_eq_zero_of_dvd ⟨r - d * q * t, ?_⟩
  grind
theorem mod_down {x K L : Int} (h : K ∣ L) (hx : x % L = 0) : x % K = 0 := Int.emod_eq_zero_of_dvd (Int.dvd_trans h (Int.dvd_of_emod_eq_zero hx))

theorem inverse_limb_v {w : Nat} (hw : 2 ≤ w ∧ w ≤ 9) (n : Nat) {H : Hp} {d : Int} (hd : 0 ≤ d ∧ d < 2 ^ w) (hodd : d % 2 = 1) :
    ∃ r, callM PT (n + 1) 8 [.int d, .int w] H = some (.val (.int r) H) ∧ 0 ≤ r ∧ r < 2 ^ w ∧ (d * r - 1) % 2 ^ w = 0 := by
  have hB := B_rng hw
  have main : Wp (callM PT n) b_inverse_limb [.int d, .int w, .unset, .unset, .unset] H (fun fl l h => ∃ r, fl = .ret (.int r) ∧ H = h ∧ 0 ≤ r ∧ r < 2 ^ w ∧ (d * r - 1) % 2 ^ w = 0) := by
    have hpow : arith .shl 1 (w : Int) = some (2 ^ w) := ar_shl1 (by omega)
    have hm2 : arith .mod d 2 = some 1 := by rw [ar_mod (by omega), hodd]
    have hmodW : ∀ x, arith .mod x (2 ^ w) = some (x % 2 ^ w) := fun x => ar_mod (by omega)
    have hmul : ∀ a b : Int, 0 ≤ a → a < 2 ^ w → 0 ≤ b → b < 2 ^ w → arith .mul a b = some (a * b) := fun a b h1 h2 h3 h4 => ar_mul (okM_rng h1 (by omega)) (okM_rng h3 (by omega))
    refine wp_skip (H1 := H) (by simp only [ev, evs, evl, ex, exs, get0, get1, get2, get3, get4, get5, get6, get7, get8, get9, get10, get11, get12, get13, get14, set0, set1, set2, set3, set4, set5, set6, set7, set8, set9, set10, set11, set12, set13, set14, ar_add, ar_sub, ar_and, ar_or, ar_shr, items_lst, itemV_lst, itemV_box0, itemV_box1, itemV_box2, cmpV_int, cmpV_eqL, cmpV_neL, cmpI_eq, cmpI_ne, cmpI_lt, cmpI_le, cmpI_gt, cmpI_ge, attrV, reduceIte, if_true, if_false, decide_true, decide_false, Bool.not_true, Bool.not_false, Bool.false_eq_true, reduceCtorEq, decide_eq_true_eq, Int.toNat_natCast, Option.map_some, nn, Int.reduceLE, Int.reduceToNat, Int.reduceLT, Int.reduceEq, Int.reduceNeg, Int.le_refl, hm2] <;> rfl) ?_
    refine wp_asg (v := .int (2 ^ w)) (H1 := H) (by simp only [ev, evs, evl, ex, exs, get0, get1, get2, get3, get4, get5, get6, get7, get8, get9, get10, get11, get12, get13, get14, set0, set1, set2, set3, set4, set5, set6, set7, set8, set9, set10, set11, set12, set13, set14, ar_add, ar_sub, ar_and, ar_or, ar_shr, items_lst, itemV_lst, itemV_box0, itemV_box1, itemV_box2, cmpV_int, cmpV_eqL, cmpV_neL, cmpI_eq, cmpI_ne, cmpI_lt, cmpI_le, cmpI_gt, cmpI_ge, attrV, reduceIte, if_true, if_false, decide_true, decide_false, Bool.not_true, Bool.not_false, Bool.false_eq_true, reduceCtorEq, decide_eq_true_eq, Int.toNat_natCast, Option.map_some, nn, Int.reduceLE, Int.reduceToNat, Int.reduceLT, Int.reduceEq, Int.reduceNeg, Int.le_refl, hpow] <;> rfl) ?_
    simp only [set0, set1, set2, set3, set4, set5, set6, set7, set8, set9, set10, set11, set12, set13, set14]
    refine wp_asg2 (v1 := .int (d % 2 ^ w)) (v2 := .int 3) (H1 := H) (H2 := H) (by simp only [ev, evs, evl, ex, exs, get0, get1, get2, get3, get4, get5, get6, get7, get8, get9, get10, get11, get12, get13, get14, set0, set1, set2, set3, set4, set5, set6, set7, set8, set9, set10, set11, set12, set13, set14, ar_add, ar_sub, ar_and, ar_or, ar_shr, items_lst, itemV_lst, itemV_box0, itemV_box1, itemV_box2, cmpV_int, cmpV_eqL, cmpV_neL, cmpI_eq, cmpI_ne, cmpI_lt, cmpI_le, cmpI_gt, cmpI_ge, attrV, reduceIte, if_true, if_false, decide_true, decide_false, Bool.not_true, Bool.not_false, Bool.false_eq_true, reduceCtorEq, decide_eq_true_eq, Int.toNat_natCast, Option.map_some, nn, Int.reduceLE, Int.reduceToNat, Int.reduceLT, Int.reduceEq, Int.reduceNeg, Int.le_refl, hmodW] <;> rfl) (by simp only [ev, evs, evl, ex, exs, get0, get1, get2, get3, get4, get5, get6, get7, get8, get9, get10, get11, get12, get13, get14, set0, set1, set2, set3, set4, set5, set6, set7, set8, set9, set10, set11, set12, set13, set14, ar_add, ar_sub, ar_and, ar_or, ar_shr, items_lst, itemV_lst, itemV_box0, itemV_box1, itemV_box2, cmpV_int, cmpV_eqL, cmpV_neL, cmpI_eq, cmpI_ne, cmpI_lt, cmpI_le, cmpI_gt, cmpI_ge, attrV, reduceIte, if_true, if_false, decide_true, decide_false, Bool.not_true, Bool.not_false, Bool.false_eq_true, reduceCtorEq, decide_eq_true_eq, Int.toNat_natCast, Option.map_some, nn, Int.reduceLE, Int.reduceToNat, Int.reduceLT, Int.reduceEq, Int.reduceNeg, Int.le_refl] <;> rfl) ?_
    simp only [set0, set1, set2, set3, set4, set5, set6, set7, set8, set9, set10, set11, set12, set13, set14]
    refine wp_whl (fun k l h => ∃ (f : Int) (s : Nat), l = [.int d, .int w, .int (2 ^ w), .int f, .int s] ∧ H = h ∧ 0 ≤ f ∧ f < 2 ^ w ∧ (d * f - 1) % 2 ^ (min s w) = 0 ∧ 3 ≤ s ∧ s ≤ 100 ∧ w ≤ s + k) w (by unfold wfuel; omega) ?_ ?_
    · refine ⟨d % 2 ^ w, 3, rfl, rfl, Int.emod_nonneg _ (by omega), Int.emod_lt_of_pos _ (by omega), ?_, by omega, by omega, by omega⟩
      rw [Int.emod_eq_of_lt hd.1 hd.2]
      refine mod_down (L := 8) ?_ (odd_sq hodd)
      have := ipow_dvd (a := min 3 w) (b := 3) (by omega)
      have e : (2 : Int) ^ 3 = 8 := by decide
      rwa [e] at this
    · rintro k _ _ ⟨f, s, rfl, rfl, h1, h2, h3, h4, h5, h6⟩
      by_cases hs : s < w
      · right
        have hsi : (s : Int) < (w : Int) := by omega
        obtain ⟨k', rfl⟩ : ∃ k', k = k' + 1 := ⟨k - 1, by omega⟩
        refine ⟨k', H, rfl, by simp only [ev, evs, evl, ex, exs, get0, get1, get2, get3, get4, get5, get6, get7, get8, get9, get10, get11, get12, get13, get14, set0, set1, set2, set3, set4, set5, set6, set7, set8, set9, set10, set11, set12, set13, set14, ar_add, ar_sub, ar_and, ar_or, ar_shr, items_lst, itemV_lst, itemV_box0, itemV_box1, itemV_box2, cmpV_int, cmpV_eqL, cmpV_neL, cmpI_eq, cmpI_ne, cmpI_lt, cmpI_le, cmpI_gt, cmpI_ge, attrV, reduceIte, if_true, if_false, decide_true, decide_false, Bool.not_true, Bool.not_false, Bool.false_eq_true, reduceCtorEq, decide_eq_true_eq, Int.toNat_natCast, Option.map_some, nn, Int.reduceLE, Int.reduceToNat, Int.reduceLT, Int.reduceEq, Int.reduceNeg, Int.le_refl, hsi] <;> rfl, ?_⟩
        have hr0 := Int.emod_nonneg (2 - d * f) (b := 2 ^ w) (by omega)
        have hr1 := Int.emod_lt_of_pos (2 - d * f) (b := 2 ^ w) (by omega)
        have a1 := hmul d f hd.1 hd.2 h1 h2
        have a2 := hmul f ((2 - d * f) % 2 ^ w) h1 h2 hr0 hr1
        have a3 : arith .mul 2 (s : Int) = some (2 * (s : Int)) := ar_mul (okM_lit (by decide)) (okM_rng (by omega) (by omega))
        refine wp_asg (v := .int (f * ((2 - d * f) % 2 ^ w) % 2 ^ w)) (H1 := H) (by simp only [ev, evs, evl, ex, exs, get0, get1, get2, get3, get4, get5, get6, get7, get8, get9, get10, get11, get12, get13, get14, set0, set1, set2, set3, set4, set5, set6, set7, set8, set9, set10, set11, set12, set13, set14, ar_add, ar_sub, ar_and, ar_or, ar_shr, items_lst, itemV_lst, itemV_box0, itemV_box1, itemV_box2, cmpV_int, cmpV_eqL, cmpV_neL, cmpI_eq, cmpI_ne, cmpI_lt, cmpI_le, cmpI_gt, cmpI_ge, attrV, reduceIte, if_true, if_false, decide_true, decide_false, Bool.not_true, Bool.not_false, Bool.false_eq_true, reduceCtorEq, decide_eq_true_eq, Int.toNat_natCast, Option.map_some, nn, Int.reduceLE, Int.reduceToNat, Int.reduceLT, Int.reduceEq, Int.reduceNeg, Int.le_refl, a1, a2, hmodW] <;> rfl) ?_
        simp only [set0, set1, set2, set3, set4, set5, set6, set7, set8, set9, set10, set11, set12, set13, set14]
        refine wp_asg (v := .int (2 * (s : Int))) (H1 := H) (by simp only [ev, evs, evl, ex, exs, get0, get1, get2, get3, get4, get5, get6, get7, get8, get9, get10, get11, get12, get13, get14, set0, set1, set2, set3, set4, set5, set6, set7, set8, set9, set10, set11, set12, set13, set14, ar_add, ar_sub, ar_and, ar_or, ar_shr, items_lst, itemV_lst, itemV_box0, itemV_box1, itemV_box2, cmpV_int, cmpV_eqL, cmpV_neL, cmpI_eq, cmpI_ne, cmpI_lt, cmpI_le, cmpI_gt, cmpI_ge, attrV, reduceIte, if_true, if_false, decide_true, decide_false, Bool.not_true, Bool.not_false, Bool.false_eq_true, reduceCtorEq, decide_eq_true_eq, Int.toNat_natCast, Option.map_some, nn, Int.reduceLE, Int.reduceToNat, Int.reduceLT, Int.reduceEq, Int.reduceNeg, Int.le_refl, a3] <;> rfl) ?_
        refine wp_nil ⟨rfl, f * ((2 - d * f) % 2 ^ w) % 2 ^ w, 2 * s, by simp only [ev, evs, evl, ex, exs, get0, get1, get2, get3, get4, get5, get6, get7, get8, get9, get10, get11, get12, get13, get14, set0, set1, set2, set3, set4, set5, set6, set7, set8, set9, set10, set11, set12, set13, set14, ar_add, ar_sub, ar_and, ar_or, ar_shr, items_lst, itemV_lst, itemV_box0, itemV_box1, itemV_box2, cmpV_int, cmpV_eqL, cmpV_neL, cmpI_eq, cmpI_ne, cmpI_lt, cmpI_le, cmpI_gt, cmpI_ge, attrV, reduceIte, if_true, if_false, decide_true, decide_false, Bool.not_true, Bool.not_false, Bool.false_eq_true, reduceCtorEq, decide_eq_true_eq, Int.toNat_natCast, Option.map_some, nn, Int.reduceLE, Int.reduceToNat, Int.reduceLT, Int.reduceEq, Int.reduceNeg, Int.le_refl, Int.natCast_mul] <;> rfl, rfl, Int.emod_nonneg _ (by omega), Int.emod_lt_of_pos _ (by omega), ?_, by omega, by omega, by omega⟩
        have hK : (2 : Int) ^ (min (2 * s) w) ∣ 2 ^ w := ipow_dvd (by omega)
        rw [show min s w = s by omega] at h3
        have c1 := inv_step h3
        rw [← Int.pow_add] at c1
        have c2 := mod_down (ipow_dvd (show min (2 * s) w ≤ s + s by omega)) c1
        refine inv_mod hK ?_
        have e := Int.emod_add_mul_ediv (2 - d * f) (2 ^ w)
        have e2 : f * ((2 - d * f) % 2 ^ w) = f * (2 - d * f) - 2 ^ w * (f * ((2 - d * f) / 2 ^ w)) := by
          have : (2 - d * f) % 2 ^ w = (2 - d * f) - 2 ^ w * ((2 - d * f) / 2 ^ w) := by omega
          rw [this]; grind
        rw [e2]
        exact cong_shift hK c2
      · left
        have hsi : ¬ (s : Int) < (w : Int) := by omega
        refine ⟨by simp only [ev, evs, evl, ex, exs, get0, get1, get2, get3, get4, get5, get6, get7, get8, get9, get10, get11, get12, get13, get14, set0, set1, set2, set3, set4, set5, set6, set7, set8, set9, set10, set11, set12, set13, set14, ar_add, ar_sub, ar_and, ar_or, ar_shr, items_lst, itemV_lst, itemV_box0, itemV_box1, itemV_box2, cmpV_int, cmpV_eqL, cmpV_neL, cmpI_eq, cmpI_ne, cmpI_lt, cmpI_le, cmpI_gt, cmpI_ge, attrV, reduceIte, if_true, if_false, decide_true, decide_false, Bool.not_true, Bool.not_false, Bool.false_eq_true, reduceCtorEq, decide_eq_true_eq, Int.toNat_natCast, Option.map_some, nn, Int.reduceLE, Int.reduceToNat, Int.reduceLT, Int.reduceEq, Int.reduceNeg, Int.le_refl, hsi] <;> rfl, wp_ret (v := .int f) (H1 := H) (by simp only [ev, evs, evl, ex, exs, get0, get1, get2, get3, get4, get5, get6, get7, get8, get9, get10, get11, get12, get13, get14, set0, set1, set2, set3, set4, set5, set6, set7, set8, set9, set10, set11, set12, set13, set14, ar_add, ar_sub, ar_and, ar_or, ar_shr, items_lst, itemV_lst, itemV_box0, itemV_box1, itemV_box2, cmpV_int, cmpV_eqL, cmpV_neL, cmpI_eq, cmpI_ne, cmpI_lt, cmpI_le, cmpI_gt, cmpI_ge, attrV, reduceIte, if_true, if_false, decide_true, decide_false, Bool.not_true, Bool.not_false, Bool.false_eq_true, reduceCtorEq, decide_eq_true_eq, Int.toNat_natCast, Option.map_some, nn, Int.reduceLE, Int.reduceToNat, Int.reduceLT, Int.reduceEq, Int.reduceNeg, Int.le_refl] <;> rfl) ⟨f, rfl, rfl, h1, h2, ?_⟩⟩
        rw [show min s w = w by omega] at h3
        exact h3
  obtain ⟨fl, l, h', e, r, rfl, rfl, h1, h2, h3⟩ := main
  refine ⟨r, ?_, h1, h2, h3⟩
  rw [callM_succ]
  show runB (callM PT n) F_inverse_limb [.int d, .int w] _ = _
  exact runB_ret rfl e (by rw [fin_int, take_len])
end Mine

namespace Mine

theorem num_set {B : Int} : ∀ {xs : List Int} {i : Nat} {x : Int} (y : Int), xs[i]? = some x → num B (xs.set i y) = num B xs + B ^ i * (y - x)
  | [], i, x, y, h => by simp at h
  | z :: xs, 0, x, y, h => by
    simp at h; subst h
    simp [num]; omega
  | z :: xs, i + 1, x, y, h => by
    have ih := num_set (B := B) y (by simpa using h : xs[i]? = some x)
    simp only [List.set_cons_succ, num, ih, Int.pow_succ]
    grind
theorem setI_h {H : Hp} {k i : Nat} {xs : List Int} {z : Int} (h : H.ms[k]? = some xs) (hi : i < xs.length) : setI H (.hnd k) (i : Int) (.int z) = some ⟨H.ms.set k (xs.set i z), H.bx⟩ := by
  simp only [setI, h]
  rw [if_pos ⟨by omega, by omega⟩, Int.toNat_natCast]
theorem set_same {α : Type} {l : List α} {k : Nat} {x : α} (h : l[k]? = some x) : l.set k x = l := by
  apply List.ext_getElem?
  intro j
  by_cases q : j = k
  · subst q
    have hlt : j < l.length := by
      by_cases q : j < l.length
      · exact q
      · rw [List.getElem?_eq_none (by omega)] at h; cases h
    rw [List.getElem?_set_self hlt, h]
  · rw [List.getElem?_set_ne (Ne.symm q)]

theorem add_row_v {w : Nat} (hw : 2 ≤ w ∧ w ≤ 9) (n : Nat) {H : Hp} {k at_ : Nat} {rest m : List Int} {limb : Int} (hk : H.ms[k]? = some rest) (hr : Dg (2 ^ w) rest) (hm : Dg (2 ^ w) m) (hl : 0 ≤ limb ∧ limb < 2 ^ w)
    (hat : at_ + m.length ≤ rest.length) (hlen : rest.length ≤ 2000) (hov : num (2 ^ w) rest + num (2 ^ w) m * limb * (2 ^ w) ^ at_ < (2 ^ w) ^ rest.length) :
    ∃ r, callM PT (n + 1) 11 [.hnd k, .lst m, .int limb, .int at_, .int w] H = some (.val .none ⟨H.ms.set k r, H.bx⟩) ∧ Dg (2 ^ w) r ∧ r.length = rest.length ∧ num (2 ^ w) r = num (2 ^ w) rest + num (2 ^ w) m * limb * (2 ^ w) ^ at_ := by
  have hB := B_rng hw
  have hand : ∀ x, arith .and x (2 ^ w - 1) = some (x % 2 ^ w) := fun x => ar_and x w
  have hshr : ∀ x, arith .shr x (w : Int) = some (x / 2 ^ w) := fun x => ar_shr x w
  have hpow : arith .shl 1 (w : Int) = some (2 ^ w) := ar_shl1 (by omega)
  generalize hBe : (2 : Int) ^ w = B at *
  generalize hN : num B rest + num B m * limb * B ^ at_ = N at *
  have hg : ∀ r : List Int, (H.ms.set k r)[k]? = some r := fun r => by
    have hlt : k < H.ms.length := by
      by_cases q : k < H.ms.length
      · exact q
      · rw [List.getElem?_eq_none (by omega)] at hk; cases hk
    exact List.getElem?_set_self hlt
  have main : Wp (callM PT n) b_add_row [.hnd k, .lst m, .int limb, .int at_, .int w, .unset, .unset, .unset] H (fun fl l h => fl = .next ∧ ∃ r, h = ⟨H.ms.set k r, H.bx⟩ ∧ Dg B r ∧ r.length = rest.length ∧ num B r = N) := by
    have h0 : H = ⟨H.ms.set k rest, H.bx⟩ := by rw [set_same hk]
    refine wp_asg2 (v1 := .int 0) (v2 := .int (B - 1)) (H1 := H) (H2 := H) (by simp only [ev, evs, evl, ex, exs, get0, get1, get2, get3, get4, get5, get6, get7, get8, get9, get10, get11, get12, get13, get14, set0, set1, set2, set3, set4, set5, set6, set7, set8, set9, set10, set11, set12, set13, set14, ar_add, ar_sub, ar_and, ar_or, ar_shr, items_lst, itemV_lst, itemV_box0, itemV_box1, itemV_box2, cmpV_int, cmpV_eqL, cmpV_neL, cmpI_eq, cmpI_ne, cmpI_lt, cmpI_le, cmpI_gt, cmpI_ge, attrV, reduceIte, if_true, if_false, decide_true, decide_false, Bool.not_true, Bool.not_false, Bool.false_eq_true, reduceCtorEq, decide_eq_true_eq, Int.toNat_natCast, Option.map_some, nn, Int.reduceLE, Int.reduceToNat, Int.reduceLT, Int.reduceEq, Int.reduceNeg, Int.le_refl] <;> rfl) (by simp only [ev, evs, evl, ex, exs, get0, get1, get2, get3, get4, get5, get6, get7, get8, get9, get10, get11, get12, get13, get14, set0, set1, set2, set3, set4, set5, set6, set7, set8, set9, set10, set11, set12, set13, set14, ar_add, ar_sub, ar_and, ar_or, ar_shr, items_lst, itemV_lst, itemV_box0, itemV_box1, itemV_box2, cmpV_int, cmpV_eqL, cmpV_neL, cmpI_eq, cmpI_ne, cmpI_lt, cmpI_le, cmpI_gt, cmpI_ge, attrV, reduceIte, if_true, if_false, decide_true, decide_false, Bool.not_true, Bool.not_false, Bool.false_eq_true, reduceCtorEq, decide_eq_true_eq, Int.toNat_natCast, Option.map_some, nn, Int.reduceLE, Int.reduceToNat, Int.reduceLT, Int.reduceEq, Int.reduceNeg, Int.le_refl, hpow] <;> rfl) ?_
    simp only [set0, set1, set2, set3, set4, set5, set6, set7, set8, set9, set10, set11, set12, set13, set14]
    refine wp_forL (xs := m) (fun j l h => ∃ (r : List Int) (c : Int) (i : Nat) (v : V), l = [.hnd k, .lst m, .int limb, .int i, .int w, .int c, .int (B - 1), v] ∧ h = ⟨H.ms.set k r, H.bx⟩ ∧ Dg B r ∧ r.length = rest.length ∧ 0 ≤ c ∧ c < B ∧ i = at_ + j ∧ num B r + B ^ i * c = num B rest + num B (m.take j) * limb * B ^ at_)
      (by simp only [ev, evs, evl, ex, exs, get0, get1, get2, get3, get4, get5, get6, get7, get8, get9, get10, get11, get12, get13, get14, set0, set1, set2, set3, set4, set5, set6, set7, set8, set9, set10, set11, set12, set13, set14, ar_add, ar_sub, ar_and, ar_or, ar_shr, items_lst, itemV_lst, itemV_box0, itemV_box1, itemV_box2, cmpV_int, cmpV_eqL, cmpV_neL, cmpI_eq, cmpI_ne, cmpI_lt, cmpI_le, cmpI_gt, cmpI_ge, attrV, reduceIte, if_true, if_false, decide_true, decide_false, Bool.not_true, Bool.not_false, Bool.false_eq_true, reduceCtorEq, decide_eq_true_eq, Int.toNat_natCast, Option.map_some, nn, Int.reduceLE, Int.reduceToNat, Int.reduceLT, Int.reduceEq, Int.reduceNeg, Int.le_refl] <;> rfl) ⟨rest, 0, at_, .unset, rfl, h0, hr, rfl, by omega, by omega, rfl, by simp [num]⟩ ?_ ?_
    · rintro j y _ _ hj ⟨r, c, i, v0, rfl, rfl, hd, hrl, hc0, hc1, hi, hnum⟩
      have hjm : j < m.length := by
        by_cases q : j < m.length
        · exact q
        · rw [List.getElem?_eq_none (by omega)] at hj; cases hj
      have hym : m[j] = y := by rw [List.getElem?_eq_getElem hjm] at hj; exact Option.some.inj hj
      have hir : i < r.length := by omega
      have e1 : r[i]? = some r[i] := List.getElem?_eq_getElem hir
      have dy := hm.at hj
      have dx := hd.at e1
      generalize hx : r[i] = x at *
      have hmul : arith .mul y limb = some (y * limb) := ar_mul (okM_rng dy.1 (by omega)) (okM_rng hl.1 (by omega))
      have hyl0 : 0 ≤ y * limb := Int.mul_nonneg dy.1 hl.1
      have hyl1 : y * limb ≤ (B - 1) * (B - 1) := Int.mul_le_mul (by omega) (by omega) hl.1 (by omega)
      have hsq : (B - 1) * (B - 1) = B * B - 2 * B + 1 := by grind
      have hdiv : (c + (x + y * limb)) / B < B := Int.ediv_lt_of_lt_mul (by omega) (by omega)
      have hmod0 := Int.emod_nonneg (c + (x + y * limb)) (b := B) (by omega)
      have hmod1 := Int.emod_lt_of_pos (c + (x + y * limb)) (b := B) (by omega)
      simp only [set0, set1, set2, set3, set4, set5, set6, set7, set8, set9, set10, set11, set12, set13, set14]
      refine wp_aug (x := c) (y := x + y * limb) (z := c + (x + y * limb)) rfl (by simp only [ev, evs, evl, ex, exs, get0, get1, get2, get3, get4, get5, get6, get7, get8, get9, get10, get11, get12, get13, get14, set0, set1, set2, set3, set4, set5, set6, set7, set8, set9, set10, set11, set12, set13, set14, ar_add, ar_sub, ar_and, ar_or, ar_shr, items_lst, itemV_lst, itemV_box0, itemV_box1, itemV_box2, cmpV_int, cmpV_eqL, cmpV_neL, cmpI_eq, cmpI_ne, cmpI_lt, cmpI_le, cmpI_gt, cmpI_ge, attrV, reduceIte, if_true, if_false, decide_true, decide_false, Bool.not_true, Bool.not_false, Bool.false_eq_true, reduceCtorEq, decide_eq_true_eq, Int.toNat_natCast, Option.map_some, nn, Int.reduceLE, Int.reduceToNat, Int.reduceLT, Int.reduceEq, Int.reduceNeg, Int.le_refl, itemV_hnd, hg, e1, hmul] <;> rfl) rfl ?_
      simp only [set0, set1, set2, set3, set4, set5, set6, set7, set8, set9, set10, set11, set12, set13, set14]
      refine wp_asgI (x := .int ((c + (x + y * limb)) % B)) (bv := .hnd k) (kk := (i : Int)) (H1 := ⟨H.ms.set k r, H.bx⟩) (H2 := ⟨H.ms.set k r, H.bx⟩) (by simp only [ev, evs, evl, ex, exs, get0, get1, get2, get3, get4, get5, get6, get7, get8, get9, get10, get11, get12, get13, get14, set0, set1, set2, set3, set4, set5, set6, set7, set8, set9, set10, set11, set12, set13, set14, ar_add, ar_sub, ar_and, ar_or, ar_shr, items_lst, itemV_lst, itemV_box0, itemV_box1, itemV_box2, cmpV_int, cmpV_eqL, cmpV_neL, cmpI_eq, cmpI_ne, cmpI_lt, cmpI_le, cmpI_gt, cmpI_ge, attrV, reduceIte, if_true, if_false, decide_true, decide_false, Bool.not_true, Bool.not_false, Bool.false_eq_true, reduceCtorEq, decide_eq_true_eq, Int.toNat_natCast, Option.map_some, nn, Int.reduceLE, Int.reduceToNat, Int.reduceLT, Int.reduceEq, Int.reduceNeg, Int.le_refl, hand] <;> rfl) rfl (by simp only [ev, evs, evl, ex, exs, get0, get1, get2, get3, get4, get5, get6, get7, get8, get9, get10, get11, get12, get13, get14, set0, set1, set2, set3, set4, set5, set6, set7, set8, set9, set10, set11, set12, set13, set14, ar_add, ar_sub, ar_and, ar_or, ar_shr, items_lst, itemV_lst, itemV_box0, itemV_box1, itemV_box2, cmpV_int, cmpV_eqL, cmpV_neL, cmpI_eq, cmpI_ne, cmpI_lt, cmpI_le, cmpI_gt, cmpI_ge, attrV, reduceIte, if_true, if_false, decide_true, decide_false, Bool.not_true, Bool.not_false, Bool.false_eq_true, reduceCtorEq, decide_eq_true_eq, Int.toNat_natCast, Option.map_some, nn, Int.reduceLE, Int.reduceToNat, Int.reduceLT, Int.reduceEq, Int.reduceNeg, Int.le_refl] <;> rfl) (setI_h (hg r) hir) ?_
      rw [show (⟨(⟨H.ms.set k r, H.bx⟩ : Hp).ms.set k (r.set i ((c + (x + y * limb)) % B)), (⟨H.ms.set k r, H.bx⟩ : Hp).bx⟩ : Hp) = ⟨H.ms.set k (r.set i ((c + (x + y * limb)) % B)), H.bx⟩ by simp only [List.set_set]]
      refine wp_aug (x := c + (x + y * limb)) (y := (w : Int)) (z := (c + (x + y * limb)) / B) rfl (by simp only [ev, evs, evl, ex, exs, get0, get1, get2, get3, get4, get5, get6, get7, get8, get9, get10, get11, get12, get13, get14, set0, set1, set2, set3, set4, set5, set6, set7, set8, set9, set10, set11, set12, set13, set14, ar_add, ar_sub, ar_and, ar_or, ar_shr, items_lst, itemV_lst, itemV_box0, itemV_box1, itemV_box2, cmpV_int, cmpV_eqL, cmpV_neL, cmpI_eq, cmpI_ne, cmpI_lt, cmpI_le, cmpI_gt, cmpI_ge, attrV, reduceIte, if_true, if_false, decide_true, decide_false, Bool.not_true, Bool.not_false, Bool.false_eq_true, reduceCtorEq, decide_eq_true_eq, Int.toNat_natCast, Option.map_some, nn, Int.reduceLE, Int.reduceToNat, Int.reduceLT, Int.reduceEq, Int.reduceNeg, Int.le_refl] <;> rfl) (hshr _) ?_
      simp only [set0, set1, set2, set3, set4, set5, set6, set7, set8, set9, set10, set11, set12, set13, set14]
      refine wp_aug (x := (i : Int)) (y := 1) (z := (i : Int) + 1) rfl (by simp only [ev, evs, evl, ex, exs, get0, get1, get2, get3, get4, get5, get6, get7, get8, get9, get10, get11, get12, get13, get14, set0, set1, set2, set3, set4, set5, set6, set7, set8, set9, set10, set11, set12, set13, set14, ar_add, ar_sub, ar_and, ar_or, ar_shr, items_lst, itemV_lst, itemV_box0, itemV_box1, itemV_box2, cmpV_int, cmpV_eqL, cmpV_neL, cmpI_eq, cmpI_ne, cmpI_lt, cmpI_le, cmpI_gt, cmpI_ge, attrV, reduceIte, if_true, if_false, decide_true, decide_false, Bool.not_true, Bool.not_false, Bool.false_eq_true, reduceCtorEq, decide_eq_true_eq, Int.toNat_natCast, Option.map_some, nn, Int.reduceLE, Int.reduceToNat, Int.reduceLT, Int.reduceEq, Int.reduceNeg, Int.le_refl] <;> rfl) rfl ?_
      refine wp_nil ⟨rfl, r.set i ((c + (x + y * limb)) % B), (c + (x + y * limb)) / B, i + 1, .int y, by simp only [ev, evs, evl, ex, exs, get0, get1, get2, get3, get4, get5, get6, get7, get8, get9, get10, get11, get12, get13, get14, set0, set1, set2, set3, set4, set5, set6, set7, set8, set9, set10, set11, set12, set13, set14, ar_add, ar_sub, ar_and, ar_or, ar_shr, items_lst, itemV_lst, itemV_box0, itemV_box1, itemV_box2, cmpV_int, cmpV_eqL, cmpV_neL, cmpI_eq, cmpI_ne, cmpI_lt, cmpI_le, cmpI_gt, cmpI_ge, attrV, reduceIte, if_true, if_false, decide_true, decide_false, Bool.not_true, Bool.not_false, Bool.false_eq_true, reduceCtorEq, decide_eq_true_eq, Int.toNat_natCast, Option.map_some, nn, Int.reduceLE, Int.reduceToNat, Int.reduceLT, Int.reduceEq, Int.reduceNeg, Int.le_refl, Int.natCast_add, Int.natCast_one, Int.cast_ofNat_Int] <;> rfl, rfl, hd.set ⟨hmod0, hmod1⟩, by rw [List.length_set]; exact hrl, Int.ediv_nonneg (by omega) (by omega), hdiv, by omega, ?_⟩
      rw [num_set _ e1, num_take_succ hjm, hym, Int.pow_succ]
      have e := Int.emod_add_mul_ediv (c + (x + y * limb)) B
      generalize (c + (x + y * limb)) % B = p at e ⊢
      generalize (c + (x + y * limb)) / B = q at e ⊢
      have hp : p = c + (x + y * limb) - B * q := by omega
      rw [hp]
      have hBi : B ^ i = B ^ at_ * B ^ j := by rw [hi, Int.pow_add]
      have e3 : num B r + B ^ i * (c + (x + y * limb) - B * q - x) + B ^ i * B * q = (num B r + B ^ i * c) + B ^ i * (y * limb) := by grind
      rw [e3, hnum, hBi]
      grind
    · rintro _ _ ⟨r, c, i, v0, rfl, rfl, hd, hrl, hc0, hc1, hi, hnum⟩
      rw [num_take_all, hN] at hnum
      refine wp_whl (fun u l h => ∃ (r : List Int) (c : Int) (i : Nat), l = [.hnd k, .lst m, .int limb, .int i, .int w, .int c, .int (B - 1), v0] ∧ h = ⟨H.ms.set k r, H.bx⟩ ∧ Dg B r ∧ r.length = rest.length ∧ 0 ≤ c ∧ c < B ∧ i + u = rest.length ∧ num B r + B ^ i * c = N)
        (rest.length - i) (by unfold wfuel; omega) ⟨r, c, i, rfl, rfl, hd, hrl, hc0, hc1, by omega, hnum⟩ ?_
      clear hnum hd hrl hc0 hc1 hi r c i
      rintro u _ _ ⟨r, c, i, rfl, rfl, hd, hrl, hc0, hc1, hi, hnum⟩
      by_cases hc : 0 < c
      · right
        have hir : i < r.length := by
          by_cases q : i < r.length
          · exact q
          · have h1 := num_nonneg (B := B) (by omega) hd
            have h2 : B ^ rest.length ≤ B ^ i := ipow_mono (by omega) (by omega)
            have h3 : B ^ i * 1 ≤ B ^ i * c := Int.mul_le_mul_of_nonneg_left (by omega) (Int.pow_nonneg (by omega))
            omega
        obtain ⟨u', rfl⟩ : ∃ u', u = u' + 1 := ⟨u - 1, by omega⟩
        have e1 : r[i]? = some r[i] := List.getElem?_eq_getElem hir
        have dx := hd.at e1
        generalize hx : r[i] = x at *
        have hdiv : (c + x) / B < B := Int.ediv_lt_of_lt_mul (by omega) (by
          have : B * 2 ≤ B * B := Int.mul_le_mul_of_nonneg_left (by omega) (by omega)
          omega)
        have hmod0 := Int.emod_nonneg (c + x) (b := B) (by omega)
        have hmod1 := Int.emod_lt_of_pos (c + x) (b := B) (by omega)
        refine ⟨u', ⟨H.ms.set k r, H.bx⟩, rfl, by simp only [ev, evs, evl, ex, exs, get0, get1, get2, get3, get4, get5, get6, get7, get8, get9, get10, get11, get12, get13, get14, set0, set1, set2, set3, set4, set5, set6, set7, set8, set9, set10, set11, set12, set13, set14, ar_add, ar_sub, ar_and, ar_or, ar_shr, items_lst, itemV_lst, itemV_box0, itemV_box1, itemV_box2, cmpV_int, cmpV_eqL, cmpV_neL, cmpI_eq, cmpI_ne, cmpI_lt, cmpI_le, cmpI_gt, cmpI_ge, attrV, reduceIte, if_true, if_false, decide_true, decide_false, Bool.not_true, Bool.not_false, Bool.false_eq_true, reduceCtorEq, decide_eq_true_eq, Int.toNat_natCast, Option.map_some, nn, Int.reduceLE, Int.reduceToNat, Int.reduceLT, Int.reduceEq, Int.reduceNeg, Int.le_refl, hc] <;> rfl, ?_⟩
        refine wp_aug (x := c) (y := x) (z := c + x) rfl (by simp only [ev, evs, evl, ex, exs, get0, get1, get2, get3, get4, get5, get6, get7, get8, get9, get10, get11, get12, get13, get14, set0, set1, set2, set3, set4, set5, set6, set7, set8, set9, set10, set11, set12, set13, set14, ar_add, ar_sub, ar_and, ar_or, ar_shr, items_lst, itemV_lst, itemV_box0, itemV_box1, itemV_box2, cmpV_int, cmpV_eqL, cmpV_neL, cmpI_eq, cmpI_ne, cmpI_lt, cmpI_le, cmpI_gt, cmpI_ge, attrV, reduceIte, if_true, if_false, decide_true, decide_false, Bool.not_true, Bool.not_false, Bool.false_eq_true, reduceCtorEq, decide_eq_true_eq, Int.toNat_natCast, Option.map_some, nn, Int.reduceLE, Int.reduceToNat, Int.reduceLT, Int.reduceEq, Int.reduceNeg, Int.le_refl, itemV_hnd, hg, e1] <;> rfl) rfl ?_
        simp only [set0, set1, set2, set3, set4, set5, set6, set7, set8, set9, set10, set11, set12, set13, set14]
        refine wp_asgI (x := .int ((c + x) % B)) (bv := .hnd k) (kk := (i : Int)) (H1 := ⟨H.ms.set k r, H.bx⟩) (H2 := ⟨H.ms.set k r, H.bx⟩) (by simp only [ev, evs, evl, ex, exs, get0, get1, get2, get3, get4, get5, get6, get7, get8, get9, get10, get11, get12, get13, get14, set0, set1, set2, set3, set4, set5, set6, set7, set8, set9, set10, set11, set12, set13, set14, ar_add, ar_sub, ar_and, ar_or, ar_shr, items_lst, itemV_lst, itemV_box0, itemV_box1, itemV_box2, cmpV_int, cmpV_eqL, cmpV_neL, cmpI_eq, cmpI_ne, cmpI_lt, cmpI_le, cmpI_gt, cmpI_ge, attrV, reduceIte, if_true, if_false, decide_true, decide_false, Bool.not_true, Bool.not_false, Bool.false_eq_true, reduceCtorEq, decide_eq_true_eq, Int.toNat_natCast, Option.map_some, nn, Int.reduceLE, Int.reduceToNat, Int.reduceLT, Int.reduceEq, Int.reduceNeg, Int.le_refl, hand] <;> rfl) rfl (by simp only [ev, evs, evl, ex, exs, get0, get1, get2, get3, get4, get5, get6, get7, get8, get9, get10, get11, get12, get13, get14, set0, set1, set2, set3, set4, set5, set6, set7, set8, set9, set10, set11, set12, set13, set14, ar_add, ar_sub, ar_and, ar_or, ar_shr, items_lst, itemV_lst, itemV_box0, itemV_box1, itemV_box2, cmpV_int, cmpV_eqL, cmpV_neL, cmpI_eq, cmpI_ne, cmpI_lt, cmpI_le, cmpI_gt, cmpI_ge, attrV, reduceIte, if_true, if_false, decide_true, decide_false, Bool.not_true, Bool.not_false, Bool.false_eq_true, reduceCtorEq, decide_eq_true_eq, Int.toNat_natCast, Option.map_some, nn, Int.reduceLE, Int.reduceToNat, Int.reduceLT, Int.reduceEq, Int.reduceNeg, Int.le_refl] <;> rfl) (setI_h (hg r) hir) ?_
        rw [show (⟨(⟨H.ms.set k r, H.bx⟩ : Hp).ms.set k (r.set i ((c + x) % B)), (⟨H.ms.set k r, H.bx⟩ : Hp).bx⟩ : Hp) = ⟨H.ms.set k (r.set i ((c + x) % B)), H.bx⟩ by simp only [List.set_set]]
        refine wp_aug (x := c + x) (y := (w : Int)) (z := (c + x) / B) rfl (by simp only [ev, evs, evl, ex, exs, get0, get1, get2, get3, get4, get5, get6, get7, get8, get9, get10, get11, get12, get13, get14, set0, set1, set2, set3, set4, set5, set6, set7, set8, set9, set10, set11, set12, set13, set14, ar_add, ar_sub, ar_and, ar_or, ar_shr, items_lst, itemV_lst, itemV_box0, itemV_box1, itemV_box2, cmpV_int, cmpV_eqL, cmpV_neL, cmpI_eq, cmpI_ne, cmpI_lt, cmpI_le, cmpI_gt, cmpI_ge, attrV, reduceIte, if_true, if_false, decide_true, decide_false, Bool.not_true, Bool.not_false, Bool.false_eq_true, reduceCtorEq, decide_eq_true_eq, Int.toNat_natCast, Option.map_some, nn, Int.reduceLE, Int.reduceToNat, Int.reduceLT, Int.reduceEq, Int.reduceNeg, Int.le_refl] <;> rfl) (hshr _) ?_
        simp only [set0, set1, set2, set3, set4, set5, set6, set7, set8, set9, set10, set11, set12, set13, set14]
        refine wp_aug (x := (i : Int)) (y := 1) (z := (i : Int) + 1) rfl (by simp only [ev, evs, evl, ex, exs, get0, get1, get2, get3, get4, get5, get6, get7, get8, get9, get10, get11, get12, get13, get14, set0, set1, set2, set3, set4, set5, set6, set7, set8, set9, set10, set11, set12, set13, set14, ar_add, ar_sub, ar_and, ar_or, ar_shr, items_lst, itemV_lst, itemV_box0, itemV_box1, itemV_box2, cmpV_int, cmpV_eqL, cmpV_neL, cmpI_eq, cmpI_ne, cmpI_lt, cmpI_le, cmpI_gt, cmpI_ge, attrV, reduceIte, if_true, if_false, decide_true, decide_false, Bool.not_true, Bool.not_false, Bool.false_eq_true, reduceCtorEq, decide_eq_true_eq, Int.toNat_natCast, Option.map_some, nn, Int.reduceLE, Int.reduceToNat, Int.reduceLT, Int.reduceEq, Int.reduceNeg, Int.le_refl] <;> rfl) rfl ?_
        refine wp_nil ⟨rfl, r.set i ((c + x) % B), (c + x) / B, i + 1, by simp only [ev, evs, evl, ex, exs, get0, get1, get2, get3, get4, get5, get6, get7, get8, get9, get10, get11, get12, get13, get14, set0, set1, set2, set3, set4, set5, set6, set7, set8, set9, set10, set11, set12, set13, set14, ar_add, ar_sub, ar_and, ar_or, ar_shr, items_lst, itemV_lst, itemV_box0, itemV_box1, itemV_box2, cmpV_int, cmpV_eqL, cmpV_neL, cmpI_eq, cmpI_ne, cmpI_lt, cmpI_le, cmpI_gt, cmpI_ge, attrV, reduceIte, if_true, if_false, decide_true, decide_false, Bool.not_true, Bool.not_false, Bool.false_eq_true, reduceCtorEq, decide_eq_true_eq, Int.toNat_natCast, Option.map_some, nn, Int.reduceLE, Int.reduceToNat, Int.reduceLT, Int.reduceEq, Int.reduceNeg, Int.le_refl, Int.natCast_add, Int.natCast_one, Int.cast_ofNat_Int] <;> rfl, rfl, hd.set ⟨hmod0, hmod1⟩, by rw [List.length_set]; exact hrl, Int.ediv_nonneg (by omega) (by omega), hdiv, by omega, ?_⟩
        rw [num_set _ e1, Int.pow_succ, ← hnum]
        have e := Int.emod_add_mul_ediv (c + x) B
        generalize (c + x) % B = p at e ⊢
        generalize (c + x) / B = q at e ⊢
        have hp : p = c + x - B * q := by omega
        rw [hp]
        grind
      · left
        have hc' : c = 0 := by omega
        subst hc'
        refine ⟨by simp only [ev, evs, evl, ex, exs, get0, get1, get2, get3, get4, get5, get6, get7, get8, get9, get10, get11, get12, get13, get14, set0, set1, set2, set3, set4, set5, set6, set7, set8, set9, set10, set11, set12, set13, set14, ar_add, ar_sub, ar_and, ar_or, ar_shr, items_lst, itemV_lst, itemV_box0, itemV_box1, itemV_box2, cmpV_int, cmpV_eqL, cmpV_neL, cmpI_eq, cmpI_ne, cmpI_lt, cmpI_le, cmpI_gt, cmpI_ge, attrV, reduceIte, if_true, if_false, decide_true, decide_false, Bool.not_true, Bool.not_false, Bool.false_eq_true, reduceCtorEq, decide_eq_true_eq, Int.toNat_natCast, Option.map_some, nn, Int.reduceLE, Int.reduceToNat, Int.reduceLT, Int.reduceEq, Int.reduceNeg, Int.le_refl] <;> rfl, wp_nil ⟨rfl, r, rfl, hd, hrl, ?_⟩⟩
        rw [← hnum]; simp
  obtain ⟨fl, l, h', e, rfl, r, rfl, h1, h2, h3⟩ := main
  refine ⟨r, ?_, h1, h2, h3⟩
  rw [callM_succ]
  show runB (callM PT n) F_add_row [.hnd k, .lst m, .int limb, .int at_, .int w] H = _
  refine runB_next rfl e ?_
  rw [fin_none, List.take_of_length_le (by simp)]
end Mine

namespace Mine

theorem two_cancel {M z : Int} (hM : M % 2 = 1) (h : 2 * z % M = 0) : z % M = 0 := by
  obtain ⟨t, ht⟩ := Int.dvd_of_emod_eq_zero h
  have ht2 : t % 2 = 0 := by
    rcases (show t % 2 = 0 ∨ t % 2 = 1 by omega) with q | q
    · exact q
    · exfalso
      obtain ⟨a, ha⟩ : ∃ a, M = 2 * a + 1 := ⟨M / 2, by omega⟩
      obtain ⟨b, hb⟩ : ∃ b, t = 2 * b + 1 := ⟨t / 2, by omega⟩
      have : M * t = 2 * (2 * (a * b) + a + b) + 1 := by rw [ha, hb]; grind
      omega
  obtain ⟨s, hs⟩ : ∃ s, t = 2 * s := ⟨t / 2, by omega⟩
  refine Int.emod_eq_zero_of_dvd ⟨s, ?_⟩
  have : 2 * z = 2 * (M * s) := by rw [ht, hs]; grind
  omega
theorem pow2_cancel {M z : Int} (hM : M % 2 = 1) : ∀ (k : Nat), 2 ^ k * z % M = 0 → z % M = 0
  | 0, h => by simpa using h
  | k + 1, h => by
    refine pow2_cancel hM k (two_cancel hM ?_)
    have e : (2 : Int) * (2 ^ k * z) = 2 ^ (k + 1) * z := by rw [Int.pow_succ]; grind
    rw [e]; exact h
theorem eq_of_cong {M a b : Int} (ha : 0 ≤ a ∧ a < M) (hb : 0 ≤ b ∧ b < M) (h : (a - b) % M = 0) : a = b := by
  obtain ⟨t, ht⟩ := Int.dvd_of_emod_eq_zero h
  have h1 : t = 0 := by
    rcases Int.lt_trichotomy t 0 with q | q | q
    · have : M * t ≤ M * (-1) := Int.mul_le_mul_of_nonneg_left (by omega) (by omega)
      omega
    · exact q
    · have : M * 1 ≤ M * t := Int.mul_le_mul_of_nonneg_left (by omega) (by omega)
      omega
  subst h1
  omega
/-- congruence: a word for «M divides the difference» -/
noncomputable def Cg (M a b : Int) : Prop := (a - b) % M = 0
section
variable {M a b c d : Int}
theorem Cg.refl (M a : Int) : Cg M a a := by unfold Cg; simp
theorem Cg.symm (h : Cg M a b) : Cg M b a := by
  obtain ⟨t, ht⟩ := Int.dvd_of_emod_eq_zero h
  exact Int.emod_eq_zero_of_dvd ⟨-t, by grind⟩
theorem Cg.trans (h : Cg M a b) (h' : Cg M b c) : Cg M a c := by
  obtain ⟨t, ht⟩ := Int.dvd_of_emod_eq_zero h
  obtain ⟨s, hs⟩ := Int.dvd_of_emod_eq_zero h'
  exact Int.emod_eq_zero_of_dvd ⟨t + s, by grind⟩
theorem Cg.mul (h : Cg M a b) (h' : Cg M c d) : Cg M (a * c) (b * d) := by
  obtain ⟨t, ht⟩ := Int.dvd_of_emod_eq_zero h
  obtain ⟨s, hs⟩ := Int.dvd_of_emod_eq_zero h'
  exact Int.emod_eq_zero_of_dvd ⟨t * c + b * s, by grind⟩
theorem Cg.add (h : Cg M a b) (h' : Cg M c d) : Cg M (a + c) (b + d) := by
  obtain ⟨t, ht⟩ := Int.dvd_of_emod_eq_zero h
  obtain ⟨s, hs⟩ := Int.dvd_of_emod_eq_zero h'
  exact Int.emod_eq_zero_of_dvd ⟨t + s, by grind⟩
theorem Cg.mod (M a : Int) : Cg M (a % M) a := by
  have e := Int.emod_add_mul_ediv a M
  exact Int.emod_eq_zero_of_dvd ⟨-(a / M), by grind⟩
theorem Cg.eq (h : Cg M a b) (ha : 0 ≤ a ∧ a < M) (hb : 0 ≤ b ∧ b < M) : a = b := eq_of_cong ha hb h
theorem Cg.cancel (hM : M % 2 = 1) {k : Nat} (h : Cg M (a * 2 ^ k) (b * 2 ^ k)) : Cg M a b := by
  refine pow2_cancel hM k ?_
  have e : 2 ^ k * (a - b) = a * 2 ^ k - b * 2 ^ k := by grind
  rw [e]; exact h
theorem Cg.modEq (h : Cg M a b) (hM : 0 < M) : a % M = b % M :=
  Cg.eq (((Cg.mod M a).trans h).trans (Cg.mod M b).symm) ⟨Int.emod_nonneg _ (by omega), Int.emod_lt_of_pos _ hM⟩ ⟨Int.emod_nonneg _ (by omega), Int.emod_lt_of_pos _ hM⟩
theorem Cg.of_sub (h : ∃ t, a - b = M * t) : Cg M a b := by
  obtain ⟨t, ht⟩ := h
  exact Int.emod_eq_zero_of_dvd ⟨t, ht⟩
end

theorem num_split {B : Int} (xs : List Int) {j : Nat} (h : j ≤ xs.length) : num B xs = num B (xs.take j) + B ^ j * num B (xs.drop j) := by
  conv => lhs; rw [← List.take_append_drop j xs]
  rw [num_append, List.length_take, Nat.min_eq_left h]
theorem drop_digit {B : Int} {xs : List Int} {j : Nat} (h : j < xs.length) : num B (xs.drop j) = xs[j] + B * num B (xs.drop (j + 1)) := by
  rw [List.drop_eq_getElem_cons h]; rfl
/-- a number of low zeros: what stands above -/
theorem high_of {B : Int} (hB : 2 ≤ B) {xs : List Int} (hd : Dg B xs) {j : Nat} (h : j ≤ xs.length) {t : Int} (ht : num B xs = B ^ j * t) : num B (xs.drop j) = t := by
  have h1 := num_split (B := B) xs h
  have h2 := num_take_lt hB hd h
  have hP : 0 < B ^ j := Int.pow_pos (by omega)
  have e : num B (xs.take j) = B ^ j * (t - num B (xs.drop j)) := by grind
  have hz : t - num B (xs.drop j) = 0 := by
    rcases Int.lt_trichotomy (t - num B (xs.drop j)) 0 with q | q | q
    · have : B ^ j * (t - num B (xs.drop j)) ≤ B ^ j * (-1) := Int.mul_le_mul_of_nonneg_left (by omega) (by omega)
      omega
    · exact q
    · have : B ^ j * 1 ≤ B ^ j * (t - num B (xs.drop j)) := Int.mul_le_mul_of_nonneg_left (by omega) (by omega)
      omega
  omega

/-- the step of the reduction: one limb more is nought -/
theorem redc_step {B M q t d u r : Int} (hq : (q * M + 1) % B = 0) (ht : t = d + B * r) (hu : u = d * q % B) : ∃ t', t + M * u = B * t' := by
  obtain ⟨s, hs⟩ := Int.dvd_of_emod_eq_zero hq
  have e := Int.emod_add_mul_ediv (d * q) B
  refine ⟨r + d * s - M * (d * q / B), ?_⟩
  have hu' : u = d * q - B * (d * q / B) := by omega
  rw [ht, hu']
  have : M * (d * q) = d * (q * M) := by grind
  grind

theorem pow_w {w L : Nat} : ((2 : Int) ^ w) ^ L = 2 ^ (w * L) := by rw [Int.pow_mul]

theorem row_head {B M : Int} (hB : 2 ≤ B) (hM : 0 < M) : ∃ r, row B M = (M % B) :: r := by
  unfold row
  obtain ⟨k, hk⟩ : ∃ k, M.toNat = k + 1 := ⟨M.toNat - 1, by omega⟩
  rw [hk]
  exact ⟨_, by simp only [rowF]; rw [if_pos hM]⟩
theorem row_one {B : Int} (hB : 2 ≤ B) : row B 1 = [1] := by
  refine (row_eq hB (Dg.cons (by omega) Dg.nil) (by simp [Nm]) (by simp [num])).symm
theorem row_is_one {B M : Int} (hB : 2 ≤ B) (hM : 0 ≤ M) : row B M = [1] ↔ M = 1 := by
  rw [← row_one hB]
  exact ⟨fun h => row_inj hB hM (by omega) h, fun h => by rw [h]⟩
end Mine

namespace Mine

structure Par (w : Nat) (M : Int) : Prop where
  hw : 2 ≤ w ∧ w ≤ 9
  pos : 0 < M
  odd : M % 2 = 1
  small : M < 2 ^ 40
noncomputable abbrev len (w : Nat) (M : Int) : Nat := (row (2 ^ w) M).length
/-- the base to the power of the limbs -/
noncomputable abbrev big (w : Nat) (M : Int) : Int := (2 ^ w) ^ len w M

theorem Par.sm {w : Nat} {M : Int} (h : Par w M) : Sm M := ⟨Int.le_of_lt h.pos, Int.lt_trans h.small (by decide)⟩
theorem Par.len_le {w : Nat} {M : Int} (h : Par w M) : len w M ≤ 20 := by
  have hB := B_rng h.hw
  refine row_len_le (by omega) (Int.le_of_lt h.pos) (Int.lt_of_lt_of_le h.small ?_)
  rw [pow_w]
  have h1 := h.hw.1
  exact ipow_mono (by omega) (by omega)
theorem Par.len_pos {w : Nat} {M : Int} (h : Par w M) : 1 ≤ len w M := by
  have hB := B_rng h.hw
  obtain ⟨r, hr⟩ := row_head (B := 2 ^ w) (M := M) (by omega) h.pos
  unfold len
  rw [hr]; simp
theorem Par.lt_big {w : Nat} {M : Int} (h : Par w M) : M < big w M := by
  have hB := B_rng h.hw
  exact row_lt_pow (by omega) (Int.le_of_lt h.pos)
theorem Par.big_le {w : Nat} {M : Int} (h : Par w M) : big w M ≤ 2 ^ w * M := by
  have hB := B_rng h.hw
  have hp := h.pos
  obtain ⟨r, hr⟩ := row_head (B := 2 ^ w) (M := M) (by omega) h.pos
  have hd := row_dg (B := 2 ^ w) (n := M) (by omega) (by omega)
  have hn := row_nm (B := 2 ^ w) (n := M) (by omega) (by omega)
  have e := row_num (B := 2 ^ w) (n := M) (by omega) (by omega)
  unfold big len
  rw [hr] at hd hn e ⊢
  have := nm_ge (B := 2 ^ w) (by omega) hd hn
  rw [e] at this
  rw [List.length_cons, Int.pow_succ, Int.mul_comm]
  exact Int.mul_le_mul_of_nonneg_left this (by omega)
theorem Par.big_lt {w : Nat} {M : Int} (h : Par w M) : big w M < 2 ^ 50 := by
  have hB := B_rng h.hw
  have h1 := h.big_le
  have h2 := h.small
  have h3 : 2 ^ w * M ≤ 512 * M := Int.mul_le_mul_of_nonneg_right hB.2 (Int.le_of_lt h.pos)
  have : (512 : Int) * 2 ^ 40 = 2 ^ 49 := by decide
  have : (2 : Int) ^ 49 < 2 ^ 50 := by decide
  omega
theorem Par.big_pow {w : Nat} {M : Int} : big w M = 2 ^ (w * len w M) := pow_w
theorem Par.mbig_lt {w : Nat} {M : Int} (h : Par w M) : M * big w M < 2 ^ 90 := by
  have h1 := h.big_lt
  have h2 := h.small
  have h3 : M * big w M ≤ M * 2 ^ 50 := Int.mul_le_mul_of_nonneg_left (by omega) (Int.le_of_lt h.pos)
  have h4 : M * 2 ^ 50 < 2 ^ 40 * 2 ^ 50 := Int.mul_lt_mul_of_pos_right h2 (by decide)
  have : (2 : Int) ^ 40 * 2 ^ 50 = 2 ^ 90 := by decide
  omega

/-- what the told word holds -/
noncomputable def Qok (w : Nat) (M q : Int) : Prop := 0 ≤ q ∧ q < 2 ^ w ∧ (q * M + 1) % 2 ^ w = 0

theorem redc_exc {w : Nat} {M : Int} (hp : Par w M) (n : Nat) {H : Hp} {x q : Int} {o s : List Int} (hx : Sm x) (hge : M * big w M ≤ x) :
    callM PT (n + 4) 13 [.lst (row (2 ^ w) x), .mont (row (2 ^ w) M) q o s, .int w] H = some .exc := by
  have hB := B_rng hp.hw
  have hb := hp.mbig_lt
  have hbp : 0 ≤ M * big w M := Int.mul_nonneg (Int.le_of_lt hp.pos) (Int.pow_nonneg (by omega))
  have hmb : Sm (M * big w M) := ⟨hbp, Int.lt_trans hb (by decide)⟩
  rw [callM_succ]
  show runB (callM PT (n + 3)) F_redc [.lst (row (2 ^ w) x), .mont (row (2 ^ w) M) q o s, .int w] H = _
  refine runB_wpE rfl ?_
  show Wp _ b_redc [.lst (row (2 ^ w) x), .mont (row (2 ^ w) M) q o s, .int w, .unset, .unset, .unset, .unset, .unset] H _
  refine wp_asg (v := .lst (row (2 ^ w) M)) (H1 := H) (by simp only [ev, evs, evl, ex, exs, get0, get1, get2, get3, get4, get5, get6, get7, get8, get9, get10, get11, get12, get13, get14, set0, set1, set2, set3, set4, set5, set6, set7, set8, set9, set10, set11, set12, set13, set14, ar_add, ar_sub, ar_and, ar_or, ar_shr, items_lst, itemV_lst, itemV_box0, itemV_box1, itemV_box2, cmpV_int, cmpV_eqL, cmpV_neL, cmpI_eq, cmpI_ne, cmpI_lt, cmpI_le, cmpI_gt, cmpI_ge, attrV, reduceIte, if_true, if_false, decide_true, decide_false, Bool.not_true, Bool.not_false, Bool.false_eq_true, reduceCtorEq, decide_eq_true_eq, Int.toNat_natCast, Option.map_some, nn, Int.reduceLE, Int.reduceToNat, Int.reduceLT, Int.reduceEq, Int.reduceNeg, Int.le_refl] <;> rfl) ?_
  simp only [set0, set1, set2, set3, set4, set5, set6, set7, set8, set9, set10, set11, set12, set13, set14]
  refine wp_asg (v := .int (len w M)) (H1 := H) (by simp only [ev, evs, evl, ex, exs, get0, get1, get2, get3, get4, get5, get6, get7, get8, get9, get10, get11, get12, get13, get14, set0, set1, set2, set3, set4, set5, set6, set7, set8, set9, set10, set11, set12, set13, set14, ar_add, ar_sub, ar_and, ar_or, ar_shr, items_lst, itemV_lst, itemV_box0, itemV_box1, itemV_box2, cmpV_int, cmpV_eqL, cmpV_neL, cmpI_eq, cmpI_ne, cmpI_lt, cmpI_le, cmpI_gt, cmpI_ge, attrV, reduceIte, if_true, if_false, decide_true, decide_false, Bool.not_true, Bool.not_false, Bool.false_eq_true, reduceCtorEq, decide_eq_true_eq, Int.toNat_natCast, Option.map_some, nn, Int.reduceLE, Int.reduceToNat, Int.reduceLT, Int.reduceEq, Int.reduceNeg, Int.le_refl] <;> rfl) ?_
  simp only [set0, set1, set2, set3, set4, set5, set6, set7, set8, set9, set10, set11, set12, set13, set14]
  have h1 := lifted_r hp.hw (n + 2) (H := H) hp.sm (len w M) (by have := hp.len_le; omega)
  have h2 := compare_r hp.hw (n + 2) (H := H) hx hmb
  have hs : (0 : Int) ≤ sg x (M * big w M) := by unfold sg; rw [if_neg (by omega)]; split <;> omega
  exact wp_if_t (H1 := H) (by simp only [ev, evs, evl, ex, exs, get0, get1, get2, get3, get4, get5, get6, get7, get8, get9, get10, get11, get12, get13, get14, set0, set1, set2, set3, set4, set5, set6, set7, set8, set9, set10, set11, set12, set13, set14, ar_add, ar_sub, ar_and, ar_or, ar_shr, items_lst, itemV_lst, itemV_box0, itemV_box1, itemV_box2, cmpV_int, cmpV_eqL, cmpV_neL, cmpI_eq, cmpI_ne, cmpI_lt, cmpI_le, cmpI_gt, cmpI_ge, attrV, reduceIte, if_true, if_false, decide_true, decide_false, Bool.not_true, Bool.not_false, Bool.false_eq_true, reduceCtorEq, decide_eq_true_eq, Int.toNat_natCast, Option.map_some, nn, Int.reduceLE, Int.reduceToNat, Int.reduceLT, Int.reduceEq, Int.reduceNeg, Int.le_refl, h1, h2, hs] <;> rfl) (wp_raise rfl)

theorem redc_v {w : Nat} {M : Int} (hp : Par w M) (n : Nat) {H : Hp} {x q : Int} {o s : List Int} (hx0 : 0 ≤ x) (hlt : x < M * big w M) (hq : Qok w M q) :
    ∃ y, callM PT (n + 4) 13 [.lst (row (2 ^ w) x), .mont (row (2 ^ w) M) q o s, .int w] H = some (.val (.lst (row (2 ^ w) y)) H) ∧ 0 ≤ y ∧ y < M ∧ Cg M (y * big w M) x := by
  have hB := B_rng hp.hw
  have hb := hp.mbig_lt
  have hM0 := hp.pos
  have hbp : 0 ≤ M * big w M := Int.mul_nonneg (Int.le_of_lt hp.pos) (Int.pow_nonneg (by omega))
  have hmb : Sm (M * big w M) := ⟨hbp, Int.lt_trans hb (by decide)⟩
  have hx : Sm x := ⟨hx0, by have := hmb.2; omega⟩
  have hL1 := hp.len_pos
  have hL2 := hp.len_le
  have hMb := hp.lt_big
  have h1 := lifted_r hp.hw (n + 2) (H := H) hp.sm (len w M) (by omega)
  have h2 := compare_r hp.hw (n + 2) (H := H) hx hmb
  have hs : ¬ (0 : Int) ≤ sg x (M * big w M) := by rw [sg_lt hlt]; omega
  have hadd := fun (r : List Int) (at_ : Nat) (u : Int) => add_row_v hp.hw (n + 2) (H := ⟨H.ms ++ [r], H.bx⟩) (k := H.ms.length) (at_ := at_) (rest := r) (m := row (2 ^ w) M) (limb := u) (ms_get _ _)
  have hnrm := fun (xs : List Int) (hd : Dg (2 ^ w) xs) (hl : xs.length < 90000) (H' : Hp) => normal_v (B := 2 ^ w) (by omega) (n + 2) (H := H') (v := .lst xs) (xs := xs) rfl hd hl
  have htak := fun (t : Int) (ht : Sm t) (H' : Hp) => taken_r hp.hw n (H := H') (x := t) (y := M) ht hp.sm
  have hdM := row_dg (B := 2 ^ w) (n := M) (by omega) (by omega)
  have hnM := row_num (B := 2 ^ w) (n := M) (by omega) (by omega)
  have hdx := row_dg (B := 2 ^ w) (n := x) (by omega) hx0
  have hnx := row_num (B := 2 ^ w) (n := x) (by omega) hx0
  have hlx : (row (2 ^ w) x).length ≤ 2 * len w M := by
    refine row_len_le (by omega) hx0 (Int.lt_trans hlt ?_)
    have : M * big w M < big w M * big w M := Int.mul_lt_mul_of_pos_right hMb (by omega)
    rw [show 2 * len w M = len w M + len w M by omega, Int.pow_add]
    exact this
  have hpow : arith .shl 1 (w : Int) = some (2 ^ w) := ar_shl1 (by have := hp.hw; omega)
  have hand : ∀ x, arith .and x (2 ^ w - 1) = some (x % 2 ^ w) := fun x => ar_and x w
  obtain ⟨hq0, hq1, hq2⟩ := hq
  generalize hLe : len w M = L at *
  have hbig : big w M = (2 ^ w) ^ L := by rw [← hLe]
  rw [hbig] at hlt hb hbp hmb hMb h2 hs ⊢
  clear hbig
  have hLen : (row (2 ^ w) M).length = L := hLe
  have hLx : (row (2 ^ w) x).length ≤ 2 * L := hlx
  generalize hBe : (2 : Int) ^ w = B at *
  have main : Wp (callM PT (n + 3)) b_redc [.lst (row B x), .mont (row B M) q o s, .int w, .unset, .unset, .unset, .unset, .unset] H (fun fl l h => ∃ y, fl = .ret (.lst (row B y)) ∧ (∃ r, h = ⟨H.ms ++ [r], H.bx⟩) ∧ 0 ≤ y ∧ y < M ∧ Cg M (y * B ^ L) x) := by
    refine wp_asg (v := .lst (row B M)) (H1 := H) (by simp only [ev, evs, evl, ex, exs, get0, get1, get2, get3, get4, get5, get6, get7, get8, get9, get10, get11, get12, get13, get14, set0, set1, set2, set3, set4, set5, set6, set7, set8, set9, set10, set11, set12, set13, set14, ar_add, ar_sub, ar_and, ar_or, ar_shr, items_lst, itemV_lst, itemV_box0, itemV_box1, itemV_box2, cmpV_int, cmpV_eqL, cmpV_neL, cmpI_eq, cmpI_ne, cmpI_lt, cmpI_le, cmpI_gt, cmpI_ge, attrV, reduceIte, if_true, if_false, decide_true, decide_false, Bool.not_true, Bool.not_false, Bool.false_eq_true, reduceCtorEq, decide_eq_true_eq, Int.toNat_natCast, Option.map_some, nn, Int.reduceLE, Int.reduceToNat, Int.reduceLT, Int.reduceEq, Int.reduceNeg, Int.le_refl] <;> rfl) ?_
    simp only [set0, set1, set2, set3, set4, set5, set6, set7, set8, set9, set10, set11, set12, set13, set14]
    refine wp_asg (v := .int L) (H1 := H) (by simp only [ev, evs, evl, ex, exs, get0, get1, get2, get3, get4, get5, get6, get7, get8, get9, get10, get11, get12, get13, get14, set0, set1, set2, set3, set4, set5, set6, set7, set8, set9, set10, set11, set12, set13, set14, ar_add, ar_sub, ar_and, ar_or, ar_shr, items_lst, itemV_lst, itemV_box0, itemV_box1, itemV_box2, cmpV_int, cmpV_eqL, cmpV_neL, cmpI_eq, cmpI_ne, cmpI_lt, cmpI_le, cmpI_gt, cmpI_ge, attrV, reduceIte, if_true, if_false, decide_true, decide_false, Bool.not_true, Bool.not_false, Bool.false_eq_true, reduceCtorEq, decide_eq_true_eq, Int.toNat_natCast, Option.map_some, nn, Int.reduceLE, Int.reduceToNat, Int.reduceLT, Int.reduceEq, Int.reduceNeg, Int.le_refl, hLen] <;> rfl) ?_
    simp only [set0, set1, set2, set3, set4, set5, set6, set7, set8, set9, set10, set11, set12, set13, set14]
    refine wp_skip (H1 := H) (by simp only [ev, evs, evl, ex, exs, get0, get1, get2, get3, get4, get5, get6, get7, get8, get9, get10, get11, get12, get13, get14, set0, set1, set2, set3, set4, set5, set6, set7, set8, set9, set10, set11, set12, set13, set14, ar_add, ar_sub, ar_and, ar_or, ar_shr, items_lst, itemV_lst, itemV_box0, itemV_box1, itemV_box2, cmpV_int, cmpV_eqL, cmpV_neL, cmpI_eq, cmpI_ne, cmpI_lt, cmpI_le, cmpI_gt, cmpI_ge, attrV, reduceIte, if_true, if_false, decide_true, decide_false, Bool.not_true, Bool.not_false, Bool.false_eq_true, reduceCtorEq, decide_eq_true_eq, Int.toNat_natCast, Option.map_some, nn, Int.reduceLE, Int.reduceToNat, Int.reduceLT, Int.reduceEq, Int.reduceNeg, Int.le_refl, h1, h2, hs] <;> rfl) ?_
    have hmul : arith .mul 2 (L : Int) = some (2 * (L : Int)) := ar_mul (okM_lit (by decide)) (okM_rng (by omega) (by omega))
    have hz0 : (0 : Int) ≤ 2 * (L : Int) + 1 - ((row B x).length : Int) ∧ 2 * (L : Int) + 1 - ((row B x).length : Int) ≤ 1048576 := by omega
    have hzn : (2 * (L : Int) + 1 - ((row B x).length : Int)).toNat = 2 * L + 1 - (row B x).length := by omega
    have hm1 : mkL false (List.replicate (2 * L + 1 - (row B x).length) 0) H = some (.lst (List.replicate (2 * L + 1 - (row B x).length) 0), H) := mkL_f (by simp; omega)
    have hm2 : mkL true (row B x ++ List.replicate (2 * L + 1 - (row B x).length) 0) H = some (.hnd H.ms.length, ⟨H.ms ++ [row B x ++ List.replicate (2 * L + 1 - (row B x).length) 0], H.bx⟩) := mkL_t (by simp; omega)
    generalize hr0 : row B x ++ List.replicate (2 * L + 1 - (row B x).length) 0 = r0 at *
    refine wp_asg2 (v1 := .hnd H.ms.length) (v2 := .int (B - 1)) (H1 := ⟨H.ms ++ [r0], H.bx⟩) (H2 := ⟨H.ms ++ [r0], H.bx⟩) (by simp only [ev, evs, evl, ex, exs, get0, get1, get2, get3, get4, get5, get6, get7, get8, get9, get10, get11, get12, get13, get14, set0, set1, set2, set3, set4, set5, set6, set7, set8, set9, set10, set11, set12, set13, set14, ar_add, ar_sub, ar_and, ar_or, ar_shr, items_lst, itemV_lst, itemV_box0, itemV_box1, itemV_box2, cmpV_int, cmpV_eqL, cmpV_neL, cmpI_eq, cmpI_ne, cmpI_lt, cmpI_le, cmpI_gt, cmpI_ge, attrV, reduceIte, if_true, if_false, decide_true, decide_false, Bool.not_true, Bool.not_false, Bool.false_eq_true, reduceCtorEq, decide_eq_true_eq, Int.toNat_natCast, Option.map_some, nn, Int.reduceLE, Int.reduceToNat, Int.reduceLT, Int.reduceEq, Int.reduceNeg, Int.le_refl, hmul, hz0, hzn, hm1, hr0, hm2, and_self] <;> rfl) (by simp only [ev, evs, evl, ex, exs, get0, get1, get2, get3, get4, get5, get6, get7, get8, get9, get10, get11, get12, get13, get14, set0, set1, set2, set3, set4, set5, set6, set7, set8, set9, set10, set11, set12, set13, set14, ar_add, ar_sub, ar_and, ar_or, ar_shr, items_lst, itemV_lst, itemV_box0, itemV_box1, itemV_box2, cmpV_int, cmpV_eqL, cmpV_neL, cmpI_eq, cmpI_ne, cmpI_lt, cmpI_le, cmpI_gt, cmpI_ge, attrV, reduceIte, if_true, if_false, decide_true, decide_false, Bool.not_true, Bool.not_false, Bool.false_eq_true, reduceCtorEq, decide_eq_true_eq, Int.toNat_natCast, Option.map_some, nn, Int.reduceLE, Int.reduceToNat, Int.reduceLT, Int.reduceEq, Int.reduceNeg, Int.le_refl, hpow] <;> rfl) ?_
    simp only [set0, set1, set2, set3, set4, set5, set6, set7, set8, set9, set10, set11, set12, set13, set14]
    have hP : ∀ j : Nat, 0 < B ^ j := fun j => Int.pow_pos (by omega)
    have r0len : r0.length = 2 * L + 1 := by rw [← hr0]; simp; omega
    have r0dg : Dg B r0 := by rw [← hr0]; exact hdx.append fun y hy => by rw [(List.mem_replicate.mp hy).2]; omega
    have r0num : num B r0 = x := by rw [← hr0, num_append, num_rep, hnx]; simp
    refine wp_forR (fun j l h => ∃ (r : List Int) (t : Int) (v : V), l = [.lst (row B x), .mont (row B M) q o s, .int w, .lst (row B M), .int L, .hnd H.ms.length, .int (B - 1), v] ∧ h = ⟨H.ms ++ [r], H.bx⟩ ∧ Dg B r ∧ r.length = 2 * L + 1 ∧ num B r = B ^ j * t ∧ Cg M (num B r) x ∧ num B r ≤ x + M * (B ^ j - 1))
      (v := .int L) (vs := []) (by simp only [ev, evs, evl, ex, exs, get0, get1, get2, get3, get4, get5, get6, get7, get8, get9, get10, get11, get12, get13, get14, set0, set1, set2, set3, set4, set5, set6, set7, set8, set9, set10, set11, set12, set13, set14, ar_add, ar_sub, ar_and, ar_or, ar_shr, items_lst, itemV_lst, itemV_box0, itemV_box1, itemV_box2, cmpV_int, cmpV_eqL, cmpV_neL, cmpI_eq, cmpI_ne, cmpI_lt, cmpI_le, cmpI_gt, cmpI_ge, attrV, reduceIte, if_true, if_false, decide_true, decide_false, Bool.not_true, Bool.not_false, Bool.false_eq_true, reduceCtorEq, decide_eq_true_eq, Int.toNat_natCast, Option.map_some, nn, Int.reduceLE, Int.reduceToNat, Int.reduceLT, Int.reduceEq, Int.reduceNeg, Int.le_refl] <;> rfl) (by simp only [ev, evs, evl, ex, exs, get0, get1, get2, get3, get4, get5, get6, get7, get8, get9, get10, get11, get12, get13, get14, set0, set1, set2, set3, set4, set5, set6, set7, set8, set9, set10, set11, set12, set13, set14, ar_add, ar_sub, ar_and, ar_or, ar_shr, items_lst, itemV_lst, itemV_box0, itemV_box1, itemV_box2, cmpV_int, cmpV_eqL, cmpV_neL, cmpI_eq, cmpI_ne, cmpI_lt, cmpI_le, cmpI_gt, cmpI_ge, attrV, reduceIte, if_true, if_false, decide_true, decide_false, Bool.not_true, Bool.not_false, Bool.false_eq_true, reduceCtorEq, decide_eq_true_eq, Int.toNat_natCast, Option.map_some, nn, Int.reduceLE, Int.reduceToNat, Int.reduceLT, Int.reduceEq, Int.reduceNeg, Int.le_refl] <;> rfl) (rangeOf1 (by omega)) ⟨r0, x, .unset, rfl, rfl, r0dg, r0len, by rw [r0num]; simp, by rw [r0num]; exact Cg.refl M x, by rw [r0num]; simp⟩ ?_ ?_
    · rintro j v _ _ hj ⟨r, t, v0, rfl, rfl, hd, hrl, hnum, hcg, hle⟩
      obtain ⟨hj1, rfl⟩ := ups_get _ _ _ _ hj
      have hjL : j < L := by simpa using hj1
      have hz : (0 : Int) + (j : Int) = (j : Int) := by omega
      have hjr : j < r.length := by omega
      have e1 : r[j]? = some r[j] := List.getElem?_eq_getElem hjr
      have dd := hd.at e1
      have hhi := high_of (by omega) hd (by omega) hnum
      rw [drop_digit hjr] at hhi
      generalize hde : r[j] = d at *
      have hmulq : arith .mul d q = some (d * q) := ar_mul (okM_rng dd.1 (by omega)) (okM_rng hq0 (by omega))
      have hu0 := Int.emod_nonneg (d * q) (b := B) (by omega)
      have hu1 := Int.emod_lt_of_pos (d * q) (b := B) (by omega)
      obtain ⟨t', ht'⟩ := redc_step (B := B) (M := M) (q := q) (t := t) (d := d) (u := d * q % B) (r := num B (r.drop (j + 1))) hq2 hhi.symm rfl
      generalize hue : d * q % B = u at *
      have hMu : M * u ≤ M * (B - 1) := Int.mul_le_mul_of_nonneg_left (by omega) (by omega)
      have hMuP : M * u * B ^ j ≤ M * (B - 1) * B ^ j := Int.mul_le_mul_of_nonneg_right hMu (Int.le_of_lt (hP j))
      have hsum : x + M * (B ^ j - 1) + M * (B - 1) * B ^ j = x + M * (B ^ (j + 1) - 1) := by rw [Int.pow_succ]; grind
      have hov : num B r + num B (row B M) * u * B ^ j < B ^ r.length := by
        rw [hnM, hrl]
        have a1 : B ^ (j + 1) ≤ B ^ L := ipow_mono (by omega) (by omega)
        have a2 : M * (B ^ (j + 1) - 1) ≤ M * B ^ L := Int.mul_le_mul_of_nonneg_left (by omega) (by omega)
        have a3 : M * B ^ L < B ^ L * B ^ L := Int.mul_lt_mul_of_pos_right hMb (hP L)
        have a4 : B ^ (2 * L + 1) = B ^ L * B ^ L * B := by rw [Int.pow_succ, show 2 * L = L + L by omega, Int.pow_add]
        have a5 : B ^ L * B ^ L * 2 ≤ B ^ L * B ^ L * B := Int.mul_le_mul_of_nonneg_left (by omega) (Int.mul_nonneg (Int.le_of_lt (hP L)) (Int.le_of_lt (hP L)))
        rw [a4]
        omega
      obtain ⟨r', hc, hd', hl', hn'⟩ := hadd r j u hd hdM ⟨hu0, hu1⟩ (by rw [hLen]; omega) (by omega) hov
      rw [hnM] at hn'
      simp only [set0, set1, set2, set3, set4, set5, set6, set7, set8, set9, set10, set11, set12, set13, set14, hz]
      have hms : (⟨(⟨H.ms ++ [r], H.bx⟩ : Hp).ms.set H.ms.length r', (⟨H.ms ++ [r], H.bx⟩ : Hp).bx⟩ : Hp) = ⟨H.ms ++ [r'], H.bx⟩ := by simp only [ms_set]
      rw [hms] at hc
      refine wp_exp (H1 := ⟨H.ms ++ [r'], H.bx⟩) (by simp only [ev, evs, evl, ex, exs, get0, get1, get2, get3, get4, get5, get6, get7, get8, get9, get10, get11, get12, get13, get14, set0, set1, set2, set3, set4, set5, set6, set7, set8, set9, set10, set11, set12, set13, set14, ar_add, ar_sub, ar_and, ar_or, ar_shr, items_lst, itemV_lst, itemV_box0, itemV_box1, itemV_box2, cmpV_int, cmpV_eqL, cmpV_neL, cmpI_eq, cmpI_ne, cmpI_lt, cmpI_le, cmpI_gt, cmpI_ge, attrV, reduceIte, if_true, if_false, decide_true, decide_false, Bool.not_true, Bool.not_false, Bool.false_eq_true, reduceCtorEq, decide_eq_true_eq, Int.toNat_natCast, Option.map_some, nn, Int.reduceLE, Int.reduceToNat, Int.reduceLT, Int.reduceEq, Int.reduceNeg, Int.le_refl, itemV_hnd, ms_get, e1, hmulq, hand, hue, hc] <;> rfl) ?_
      refine wp_nil ⟨rfl, r', t', .int j, by simp only [ev, evs, evl, ex, exs, get0, get1, get2, get3, get4, get5, get6, get7, get8, get9, get10, get11, get12, get13, get14, set0, set1, set2, set3, set4, set5, set6, set7, set8, set9, set10, set11, set12, set13, set14, ar_add, ar_sub, ar_and, ar_or, ar_shr, items_lst, itemV_lst, itemV_box0, itemV_box1, itemV_box2, cmpV_int, cmpV_eqL, cmpV_neL, cmpI_eq, cmpI_ne, cmpI_lt, cmpI_le, cmpI_gt, cmpI_ge, attrV, reduceIte, if_true, if_false, decide_true, decide_false, Bool.not_true, Bool.not_false, Bool.false_eq_true, reduceCtorEq, decide_eq_true_eq, Int.toNat_natCast, Option.map_some, nn, Int.reduceLE, Int.reduceToNat, Int.reduceLT, Int.reduceEq, Int.reduceNeg, Int.le_refl] <;> rfl, rfl, hd', by omega, ?_, ?_, ?_⟩
      · rw [hn', hnum, Int.pow_succ]
        have : B ^ j * t + M * u * B ^ j = B ^ j * (t + M * u) := by grind
        rw [this, ht']; grind
      · rw [hn']
        refine Cg.trans (Cg.of_sub ⟨u * B ^ j, ?_⟩) hcg
        grind
      · rw [hn']; omega
    · rintro _ _ ⟨r, t, v0, rfl, rfl, hd, hrl, hnum, hcg, hle⟩
      have hups : (ups 0 (L : Int).toNat).length = L := by rw [ups_len]; omega
      rw [hups] at hnum hle
      have hhi := high_of (by omega) hd (by omega) hnum
      have hPL := hP L
      have ht0 : 0 ≤ t := by rw [← hhi]; exact num_nonneg (by omega) (hd.drop L)
      have ht1 : t < 2 * M := by
        have : B ^ L * t < B ^ L * (2 * M) := by
          have e1 : M * (B ^ L - 1) = M * B ^ L - M := by grind
          have e2 : B ^ L * (2 * M) = 2 * (M * B ^ L) := by grind
          omega
        exact Int.lt_of_mul_lt_mul_left this (Int.le_of_lt hPL)
      have htS : Sm t := ⟨ht0, by have := hp.small; have : (2 : Int) * 2 ^ 40 < 2 ^ 200 := by decide
                                  omega⟩
      have hn1 := hnrm (r.drop L) (hd.drop L) (by simp; omega) ⟨H.ms ++ [r], H.bx⟩
      rw [hhi] at hn1
      refine wp_ret (v := .lst (row B (if M ≤ t then t - M else t))) (H1 := ⟨H.ms ++ [r], H.bx⟩) (by simp only [ev, evs, evl, ex, exs, get0, get1, get2, get3, get4, get5, get6, get7, get8, get9, get10, get11, get12, get13, get14, set0, set1, set2, set3, set4, set5, set6, set7, set8, set9, set10, set11, set12, set13, set14, ar_add, ar_sub, ar_and, ar_or, ar_shr, items_lst, itemV_lst, itemV_box0, itemV_box1, itemV_box2, cmpV_int, cmpV_eqL, cmpV_neL, cmpI_eq, cmpI_ne, cmpI_lt, cmpI_le, cmpI_gt, cmpI_ge, attrV, reduceIte, if_true, if_false, decide_true, decide_false, Bool.not_true, Bool.not_false, Bool.false_eq_true, reduceCtorEq, decide_eq_true_eq, Int.toNat_natCast, Option.map_some, nn, Int.reduceLE, Int.reduceToNat, Int.reduceLT, Int.reduceEq, Int.reduceNeg, Int.le_refl, items_hnd, ms_get, hn1, htak t htS] <;> rfl) ⟨_, rfl, ⟨r, rfl⟩, by split <;> omega, by split <;> omega, ?_⟩
      have c1 : Cg M (t * B ^ L) x := by rw [Int.mul_comm, ← hnum]; exact hcg
      split
      · refine Cg.trans (Cg.of_sub ⟨-(B ^ L), ?_⟩) c1
        grind
      · exact c1
  obtain ⟨fl, l, h', e, y, rfl, ⟨r, rfl⟩, a1, a2, a3⟩ := main
  refine ⟨y, ?_, a1, a2, a3⟩
  rw [callM_succ]
  show runB (callM PT (n + 3)) F_redc [.lst (row B x), .mont (row B M) q o s, .int w] H = _
  exact runB_ret rfl e (by rw [fin_lst]; simp)
end Mine

namespace Mine

theorem head_par {w : Nat} (hw : 2 ≤ w ∧ w ≤ 9) {M : Int} : (M % 2 ^ w) % 2 = M % 2 := by
  have hB := B_even hw
  rw [hB]
  have e := Int.emod_add_mul_ediv M (4 * 2 ^ (w - 2))
  generalize M % (4 * 2 ^ (w - 2)) = r at e ⊢
  generalize M / (4 * 2 ^ (w - 2)) = k at e
  have : 4 * 2 ^ (w - 2) * k = 2 * (2 * (2 ^ (w - 2) * k)) := by grind
  omega

theorem is_even_r {w : Nat} (hw : 2 ≤ w ∧ w ≤ 9) (n : Nat) {H : Hp} {M : Int} (hM : 0 < M) : callM PT (n + 1) 1 [.lst (row (2 ^ w) M)] H = some (.val (.bool (decide (M % 2 = 0))) H) := by
  have hB := B_rng hw
  obtain ⟨r, hr⟩ := row_head (B := 2 ^ w) (M := M) (by omega) hM
  rw [is_even_v, hr]
  dsimp only
  rw [head_par hw]

theorem mont_make_exc {w : Nat} (hw : 2 ≤ w ∧ w ≤ 9) (n : Nat) {H : Hp} {M : Int} (hM : 0 ≤ M) (he : M % 2 = 0) : callM PT (n + 4) 10 [.lst (row (2 ^ w) M), .int w] H = some .exc := by
  rw [callM_succ]
  show runB (callM PT (n + 3)) F_mont_make [.lst (row (2 ^ w) M), .int w] H = _
  refine runB_wpE rfl ?_
  show Wp _ b_mont_make [.lst (row (2 ^ w) M), .int w, .unset, .unset, .unset] H _
  have hev : callM PT (n + 3) 1 [.lst (row (2 ^ w) M)] H = some (.val (.bool true) H) := by
    by_cases h0 : M = 0
    · subst h0; exact is_even_v (n + 2)
    · rw [is_even_r hw (n + 2) (by omega), he]; simp
  exact wp_if_t (H1 := H) (by simp only [ev, evs, evl, ex, exs, get0, get1, get2, get3, get4, get5, get6, get7, get8, get9, get10, get11, get12, get13, get14, set0, set1, set2, set3, set4, set5, set6, set7, set8, set9, set10, set11, set12, set13, set14, ar_add, ar_sub, ar_and, ar_or, ar_shr, items_lst, itemV_lst, itemV_box0, itemV_box1, itemV_box2, cmpV_int, cmpV_eqL, cmpV_neL, cmpI_eq, cmpI_ne, cmpI_lt, cmpI_le, cmpI_gt, cmpI_ge, attrV, reduceIte, if_true, if_false, decide_true, decide_false, Bool.not_true, Bool.not_false, Bool.false_eq_true, reduceCtorEq, decide_eq_true_eq, Int.toNat_natCast, Option.map_some, nn, Int.reduceLE, Int.reduceToNat, Int.reduceLT, Int.reduceEq, Int.reduceNeg, Int.le_refl, hev] <;> rfl) (wp_raise rfl)

theorem pow_double {M : Int} (k : Nat) : 2 * (2 ^ k % M) % M = 2 ^ (k + 1) % M := by
  rw [Int.pow_succ, Int.mul_comm ((2 : Int) ^ k) 2, Int.mul_emod 2 (2 ^ k % M), Int.emod_emod_of_dvd _ (Int.dvd_refl M), ← Int.mul_emod]

theorem mont_make_v {w : Nat} {M : Int} (hp : Par w M) (n : Nat) {H : Hp} :
    ∃ q, callM PT (n + 4) 10 [.lst (row (2 ^ w) M), .int w] H = some (.val (.mont (row (2 ^ w) M) q (row (2 ^ w) (big w M % M)) (row (2 ^ w) (big w M * big w M % M))) H) ∧ Qok w M q := by
  have hw := hp.hw
  have hB := B_rng hw
  have hM0 := hp.pos
  have hL2 := hp.len_le
  have hev := is_even_r hw (n + 2) (H := H) hM0
  have hodd := hp.odd
  rw [hodd] at hev
  obtain ⟨r0, hr0⟩ := row_head (B := 2 ^ w) (M := M) (by omega) hM0
  have hm0 := Int.emod_nonneg M (b := 2 ^ w) (by omega)
  have hm1 := Int.emod_lt_of_pos M (b := 2 ^ w) (by omega)
  obtain ⟨r, hinv, hi0, hi1, hi2⟩ := inverse_limb_v hw (n + 2) (H := H) (d := M % 2 ^ w) ⟨hm0, hm1⟩ (by rw [head_par hw]; exact hodd)
  have hdbl := fun (j : Nat) => doubled_r hw n (H := H) (x := 2 ^ j % M) (y := M) (Int.emod_nonneg _ (by omega)) (Int.emod_lt_of_pos _ hM0) (Int.lt_trans hp.small (by decide))
  have h1M : row (2 ^ w) (1 % M) = if M = 1 then [] else [1] := by
    by_cases h : M = 1
    · subst h; rw [if_pos rfl]; rfl
    · rw [if_neg h, Int.emod_eq_of_lt (by omega) (by omega), row_one (by omega)]
  have hone : (row (2 ^ w) M = [1]) = (M = 1) := propext (row_is_one (by omega) (by omega))
  have hmk : mkL false [] H = some (.lst [], H) := mkL_f (by simp)
  have hLw : arith .mul (len w M : Int) (w : Int) = some ((len w M * w : Nat) : Int) := by
    rw [ar_mul (okM_rng (by omega) (by omega)) (okM_rng (by omega) (by omega))]; simp
  have hpow : arith .shl 1 (w : Int) = some (2 ^ w) := ar_shl1 (by omega)
  have hand : ∀ x, arith .and x (2 ^ w - 1) = some (x % 2 ^ w) := fun x => ar_and x w
  have hLb : len w M * w < 1000 := by
    have : len w M * w ≤ 20 * 9 := Nat.mul_le_mul hL2 hw.2
    omega
  have hbig : big w M = 2 ^ (len w M * w) := by rw [Par.big_pow, Nat.mul_comm]
  refine ⟨(-r) % 2 ^ w, ?_, Int.emod_nonneg _ (by omega), Int.emod_lt_of_pos _ (by omega), ?_⟩
  · rw [callM_succ]
    show runB (callM PT (n + 3)) F_mont_make [.lst (row (2 ^ w) M), .int w] H = _
    refine runB_wp rfl ?_
    show Wp _ b_mont_make [.lst (row (2 ^ w) M), .int w, .unset, .unset, .unset] H _
    refine wp_skip (H1 := H) (by simp only [ev, evs, evl, ex, exs, get0, get1, get2, get3, get4, get5, get6, get7, get8, get9, get10, get11, get12, get13, get14, set0, set1, set2, set3, set4, set5, set6, set7, set8, set9, set10, set11, set12, set13, set14, ar_add, ar_sub, ar_and, ar_or, ar_shr, items_lst, itemV_lst, itemV_box0, itemV_box1, itemV_box2, cmpV_int, cmpV_eqL, cmpV_neL, cmpI_eq, cmpI_ne, cmpI_lt, cmpI_le, cmpI_gt, cmpI_ge, attrV, reduceIte, if_true, if_false, decide_true, decide_false, Bool.not_true, Bool.not_false, Bool.false_eq_true, reduceCtorEq, decide_eq_true_eq, Int.toNat_natCast, Option.map_some, nn, Int.reduceLE, Int.reduceToNat, Int.reduceLT, Int.reduceEq, Int.reduceNeg, Int.le_refl, hev] <;> rfl) ?_
    refine wp_asg (v := .lst (row (2 ^ w) (2 ^ 0 % M))) (H1 := H) ?_ ?_
    · rw [Int.pow_zero, h1M]
      by_cases h : M = 1
      · have e : (row (2 ^ w) M = [1]) = True := by rw [hone]; exact eq_true h
        rw [if_pos h]; simp only [ev, evs, evl, ex, exs, get0, get1, get2, get3, get4, get5, get6, get7, get8, get9, get10, get11, get12, get13, get14, set0, set1, set2, set3, set4, set5, set6, set7, set8, set9, set10, set11, set12, set13, set14, ar_add, ar_sub, ar_and, ar_or, ar_shr, items_lst, itemV_lst, itemV_box0, itemV_box1, itemV_box2, cmpV_int, cmpV_eqL, cmpV_neL, cmpI_eq, cmpI_ne, cmpI_lt, cmpI_le, cmpI_gt, cmpI_ge, attrV, reduceIte, if_true, if_false, decide_true, decide_false, Bool.not_true, Bool.not_false, Bool.false_eq_true, reduceCtorEq, decide_eq_true_eq, Int.toNat_natCast, Option.map_some, nn, Int.reduceLE, Int.reduceToNat, Int.reduceLT, Int.reduceEq, Int.reduceNeg, Int.le_refl, e, hmk]
      · have e : (row (2 ^ w) M = [1]) = False := by rw [hone]; exact eq_false h
        rw [if_neg h]; simp only [ev, evs, evl, ex, exs, get0, get1, get2, get3, get4, get5, get6, get7, get8, get9, get10, get11, get12, get13, get14, set0, set1, set2, set3, set4, set5, set6, set7, set8, set9, set10, set11, set12, set13, set14, ar_add, ar_sub, ar_and, ar_or, ar_shr, items_lst, itemV_lst, itemV_box0, itemV_box1, itemV_box2, cmpV_int, cmpV_eqL, cmpV_neL, cmpI_eq, cmpI_ne, cmpI_lt, cmpI_le, cmpI_gt, cmpI_ge, attrV, reduceIte, if_true, if_false, decide_true, decide_false, Bool.not_true, Bool.not_false, Bool.false_eq_true, reduceCtorEq, decide_eq_true_eq, Int.toNat_natCast, Option.map_some, nn, Int.reduceLE, Int.reduceToNat, Int.reduceLT, Int.reduceEq, Int.reduceNeg, Int.le_refl, e]
    simp only [set0, set1, set2, set3, set4, set5, set6, set7, set8, set9, set10, set11, set12, set13, set14]
    refine wp_forR (fun j l h => ∃ v, l = [.lst (row (2 ^ w) M), .int w, .lst (row (2 ^ w) (2 ^ j % M)), v, .unset] ∧ H = h) (v := .int ((len w M * w : Nat) : Int)) (vs := []) (by simp only [ev, evs, evl, ex, exs, get0, get1, get2, get3, get4, get5, get6, get7, get8, get9, get10, get11, get12, get13, get14, set0, set1, set2, set3, set4, set5, set6, set7, set8, set9, set10, set11, set12, set13, set14, ar_add, ar_sub, ar_and, ar_or, ar_shr, items_lst, itemV_lst, itemV_box0, itemV_box1, itemV_box2, cmpV_int, cmpV_eqL, cmpV_neL, cmpI_eq, cmpI_ne, cmpI_lt, cmpI_le, cmpI_gt, cmpI_ge, attrV, reduceIte, if_true, if_false, decide_true, decide_false, Bool.not_true, Bool.not_false, Bool.false_eq_true, reduceCtorEq, decide_eq_true_eq, Int.toNat_natCast, Option.map_some, nn, Int.reduceLE, Int.reduceToNat, Int.reduceLT, Int.reduceEq, Int.reduceNeg, Int.le_refl, hLw] <;> rfl) (by simp only [ev, evs, evl, ex, exs, get0, get1, get2, get3, get4, get5, get6, get7, get8, get9, get10, get11, get12, get13, get14, set0, set1, set2, set3, set4, set5, set6, set7, set8, set9, set10, set11, set12, set13, set14, ar_add, ar_sub, ar_and, ar_or, ar_shr, items_lst, itemV_lst, itemV_box0, itemV_box1, itemV_box2, cmpV_int, cmpV_eqL, cmpV_neL, cmpI_eq, cmpI_ne, cmpI_lt, cmpI_le, cmpI_gt, cmpI_ge, attrV, reduceIte, if_true, if_false, decide_true, decide_false, Bool.not_true, Bool.not_false, Bool.false_eq_true, reduceCtorEq, decide_eq_true_eq, Int.toNat_natCast, Option.map_some, nn, Int.reduceLE, Int.reduceToNat, Int.reduceLT, Int.reduceEq, Int.reduceNeg, Int.le_refl] <;> rfl) (rangeOf1 (by omega)) ⟨.unset, rfl, rfl⟩ ?_ ?_
    · rintro j v _ _ hj ⟨v0, rfl, rfl⟩
      simp only [set0, set1, set2, set3, set4, set5, set6, set7, set8, set9, set10, set11, set12, set13, set14]
      exact wp_asg (v := .lst (row (2 ^ w) (2 ^ (j + 1) % M))) (H1 := H) (by rw [← pow_double]; simp only [ev, evs, evl, ex, exs, get0, get1, get2, get3, get4, get5, get6, get7, get8, get9, get10, get11, get12, get13, get14, set0, set1, set2, set3, set4, set5, set6, set7, set8, set9, set10, set11, set12, set13, set14, ar_add, ar_sub, ar_and, ar_or, ar_shr, items_lst, itemV_lst, itemV_box0, itemV_box1, itemV_box2, cmpV_int, cmpV_eqL, cmpV_neL, cmpI_eq, cmpI_ne, cmpI_lt, cmpI_le, cmpI_gt, cmpI_ge, attrV, reduceIte, if_true, if_false, decide_true, decide_false, Bool.not_true, Bool.not_false, Bool.false_eq_true, reduceCtorEq, decide_eq_true_eq, Int.toNat_natCast, Option.map_some, nn, Int.reduceLE, Int.reduceToNat, Int.reduceLT, Int.reduceEq, Int.reduceNeg, Int.le_refl, hdbl]) (wp_nil ⟨rfl, v, by simp only [ev, evs, evl, ex, exs, get0, get1, get2, get3, get4, get5, get6, get7, get8, get9, get10, get11, get12, get13, get14, set0, set1, set2, set3, set4, set5, set6, set7, set8, set9, set10, set11, set12, set13, set14, ar_add, ar_sub, ar_and, ar_or, ar_shr, items_lst, itemV_lst, itemV_box0, itemV_box1, itemV_box2, cmpV_int, cmpV_eqL, cmpV_neL, cmpI_eq, cmpI_ne, cmpI_lt, cmpI_le, cmpI_gt, cmpI_ge, attrV, reduceIte, if_true, if_false, decide_true, decide_false, Bool.not_true, Bool.not_false, Bool.false_eq_true, reduceCtorEq, decide_eq_true_eq, Int.toNat_natCast, Option.map_some, nn, Int.reduceLE, Int.reduceToNat, Int.reduceLT, Int.reduceEq, Int.reduceNeg, Int.le_refl] <;> rfl, rfl⟩)
    · rintro _ _ ⟨v0, rfl, rfl⟩
      have hups : (ups 0 ((len w M * w : Nat) : Int).toNat).length = len w M * w := by rw [ups_len]; omega
      rw [hups]
      refine wp_asg (v := .lst (row (2 ^ w) (2 ^ (len w M * w) % M))) (H1 := H) (by simp only [ev, evs, evl, ex, exs, get0, get1, get2, get3, get4, get5, get6, get7, get8, get9, get10, get11, get12, get13, get14, set0, set1, set2, set3, set4, set5, set6, set7, set8, set9, set10, set11, set12, set13, set14, ar_add, ar_sub, ar_and, ar_or, ar_shr, items_lst, itemV_lst, itemV_box0, itemV_box1, itemV_box2, cmpV_int, cmpV_eqL, cmpV_neL, cmpI_eq, cmpI_ne, cmpI_lt, cmpI_le, cmpI_gt, cmpI_ge, attrV, reduceIte, if_true, if_false, decide_true, decide_false, Bool.not_true, Bool.not_false, Bool.false_eq_true, reduceCtorEq, decide_eq_true_eq, Int.toNat_natCast, Option.map_some, nn, Int.reduceLE, Int.reduceToNat, Int.reduceLT, Int.reduceEq, Int.reduceNeg, Int.le_refl] <;> rfl) ?_
      simp only [set0, set1, set2, set3, set4, set5, set6, set7, set8, set9, set10, set11, set12, set13, set14]
      refine wp_forR (fun j l h => ∃ v, l = [.lst (row (2 ^ w) M), .int w, .lst (row (2 ^ w) (2 ^ (len w M * w) % M)), v, .lst (row (2 ^ w) (2 ^ (len w M * w + j) % M))] ∧ H = h) (v := .int ((len w M * w : Nat) : Int)) (vs := []) (by simp only [ev, evs, evl, ex, exs, get0, get1, get2, get3, get4, get5, get6, get7, get8, get9, get10, get11, get12, get13, get14, set0, set1, set2, set3, set4, set5, set6, set7, set8, set9, set10, set11, set12, set13, set14, ar_add, ar_sub, ar_and, ar_or, ar_shr, items_lst, itemV_lst, itemV_box0, itemV_box1, itemV_box2, cmpV_int, cmpV_eqL, cmpV_neL, cmpI_eq, cmpI_ne, cmpI_lt, cmpI_le, cmpI_gt, cmpI_ge, attrV, reduceIte, if_true, if_false, decide_true, decide_false, Bool.not_true, Bool.not_false, Bool.false_eq_true, reduceCtorEq, decide_eq_true_eq, Int.toNat_natCast, Option.map_some, nn, Int.reduceLE, Int.reduceToNat, Int.reduceLT, Int.reduceEq, Int.reduceNeg, Int.le_refl, hLw] <;> rfl) (by simp only [ev, evs, evl, ex, exs, get0, get1, get2, get3, get4, get5, get6, get7, get8, get9, get10, get11, get12, get13, get14, set0, set1, set2, set3, set4, set5, set6, set7, set8, set9, set10, set11, set12, set13, set14, ar_add, ar_sub, ar_and, ar_or, ar_shr, items_lst, itemV_lst, itemV_box0, itemV_box1, itemV_box2, cmpV_int, cmpV_eqL, cmpV_neL, cmpI_eq, cmpI_ne, cmpI_lt, cmpI_le, cmpI_gt, cmpI_ge, attrV, reduceIte, if_true, if_false, decide_true, decide_false, Bool.not_true, Bool.not_false, Bool.false_eq_true, reduceCtorEq, decide_eq_true_eq, Int.toNat_natCast, Option.map_some, nn, Int.reduceLE, Int.reduceToNat, Int.reduceLT, Int.reduceEq, Int.reduceNeg, Int.le_refl] <;> rfl) (rangeOf1 (by omega)) ⟨v0, rfl, rfl⟩ ?_ ?_
      · rintro j v _ _ hj ⟨v1, rfl, rfl⟩
        simp only [set0, set1, set2, set3, set4, set5, set6, set7, set8, set9, set10, set11, set12, set13, set14]
        exact wp_asg (v := .lst (row (2 ^ w) (2 ^ (len w M * w + (j + 1)) % M))) (H1 := H) (by rw [← Nat.add_assoc, ← pow_double]; simp only [ev, evs, evl, ex, exs, get0, get1, get2, get3, get4, get5, get6, get7, get8, get9, get10, get11, get12, get13, get14, set0, set1, set2, set3, set4, set5, set6, set7, set8, set9, set10, set11, set12, set13, set14, ar_add, ar_sub, ar_and, ar_or, ar_shr, items_lst, itemV_lst, itemV_box0, itemV_box1, itemV_box2, cmpV_int, cmpV_eqL, cmpV_neL, cmpI_eq, cmpI_ne, cmpI_lt, cmpI_le, cmpI_gt, cmpI_ge, attrV, reduceIte, if_true, if_false, decide_true, decide_false, Bool.not_true, Bool.not_false, Bool.false_eq_true, reduceCtorEq, decide_eq_true_eq, Int.toNat_natCast, Option.map_some, nn, Int.reduceLE, Int.reduceToNat, Int.reduceLT, Int.reduceEq, Int.reduceNeg, Int.le_refl, hdbl]) (wp_nil ⟨rfl, v, by simp only [ev, evs, evl, ex, exs, get0, get1, get2, get3, get4, get5, get6, get7, get8, get9, get10, get11, get12, get13, get14, set0, set1, set2, set3, set4, set5, set6, set7, set8, set9, set10, set11, set12, set13, set14, ar_add, ar_sub, ar_and, ar_or, ar_shr, items_lst, itemV_lst, itemV_box0, itemV_box1, itemV_box2, cmpV_int, cmpV_eqL, cmpV_neL, cmpI_eq, cmpI_ne, cmpI_lt, cmpI_le, cmpI_gt, cmpI_ge, attrV, reduceIte, if_true, if_false, decide_true, decide_false, Bool.not_true, Bool.not_false, Bool.false_eq_true, reduceCtorEq, decide_eq_true_eq, Int.toNat_natCast, Option.map_some, nn, Int.reduceLE, Int.reduceToNat, Int.reduceLT, Int.reduceEq, Int.reduceNeg, Int.le_refl] <;> rfl, rfl⟩)
      · rintro _ _ ⟨v1, rfl, rfl⟩
        rw [hups]
        have hd : (row (2 ^ w) M)[0]? = some (M % 2 ^ w) := by rw [hr0]; rfl
        refine wp_ret (v := .mont (row (2 ^ w) M) ((-r) % 2 ^ w) (row (2 ^ w) (big w M % M)) (row (2 ^ w) (big w M * big w M % M))) (H1 := H) ?_ ⟨_, rfl, by rw [fin_mont, take_len]⟩
        rw [hbig, ← Int.pow_add]
        simp only [ev, evs, evl, ex, exs, get0, get1, get2, get3, get4, get5, get6, get7, get8, get9, get10, get11, get12, get13, get14, set0, set1, set2, set3, set4, set5, set6, set7, set8, set9, set10, set11, set12, set13, set14, ar_add, ar_sub, ar_and, ar_or, ar_shr, items_lst, itemV_lst, itemV_box0, itemV_box1, itemV_box2, cmpV_int, cmpV_eqL, cmpV_neL, cmpI_eq, cmpI_ne, cmpI_lt, cmpI_le, cmpI_gt, cmpI_ge, attrV, reduceIte, if_true, if_false, decide_true, decide_false, Bool.not_true, Bool.not_false, Bool.false_eq_true, reduceCtorEq, decide_eq_true_eq, Int.toNat_natCast, Option.map_some, nn, Int.reduceLE, Int.reduceToNat, Int.reduceLT, Int.reduceEq, Int.reduceNeg, Int.le_refl, hd, hinv, hpow, hand]
  · have c1 : Cg (2 ^ w) (-r % 2 ^ w * M + 1) 0 := by
      have a1 : Cg (2 ^ w) (-r % 2 ^ w) (-r) := Cg.mod _ _
      have a2 : Cg (2 ^ w) M (M % 2 ^ w) := (Cg.mod _ _).symm
      refine Cg.trans (Cg.add (Cg.mul a1 a2) (Cg.refl _ 1)) ?_
      have : Cg (2 ^ w) ((M % 2 ^ w) * r) 1 := hi2
      obtain ⟨t, ht⟩ := Int.dvd_of_emod_eq_zero this
      exact Cg.of_sub ⟨-t, by grind⟩
    have := c1
    unfold Cg at this
    simpa using this
end Mine

namespace Mine

theorem row_step {B t : Int} (hB : 2 ≤ B) (ht : 0 < t) : row B t = t % B :: row B (t / B) := by
  have h0 : 0 ≤ t / B := Int.ediv_nonneg (by omega) (by omega)
  have hm := Int.emod_nonneg t (b := B) (by omega)
  have hm2 := Int.emod_lt_of_pos t (b := B) (by omega)
  have e := Int.emod_add_mul_ediv t B
  refine (row_eq hB ((row_dg hB h0).cons ⟨hm, hm2⟩) ?_ ?_).symm
  · have hn := row_nm (B := B) hB h0
    have hz := row_nil_iff (B := B) hB h0
    cases hr : row B (t / B) with
    | nil =>
      have := hz.mp hr
      rw [this] at e
      show t % B ≠ 0
      omega
    | cons y r => rw [hr] at hn; exact hn
  · simp only [num]
    rw [row_num hB h0]; exact e

theorem law_row_v {w : Nat} (hw : 2 ≤ w ∧ w ≤ 9) (n : Nat) {H : Hp} {x : Int} (hx : Sm x) : callM PT (n + 1) 20 [.int x, .int w] H = some (.val (.lst (row (2 ^ w) x)) H) := by
  have hB := B_rng hw
  have hlen := row_len (B := 2 ^ w) (by omega) hx
  have hpow : arith .pow 2 (w : Int) = some (2 ^ w) := ar_pow2 (by omega)
  have hmod : ∀ t, arith .mod t (2 ^ w) = some (t % 2 ^ w) := fun t => ar_mod (by omega)
  have hdiv : ∀ t, arith .fdiv t (2 ^ w) = some (t / 2 ^ w) := fun t => ar_fdiv (by omega) (okM_rng (by omega) (by omega))
  generalize hBe : (2 : Int) ^ w = B at *
  have hmk : mkL true [] H = some (.hnd H.ms.length, ⟨H.ms ++ [[]], H.bx⟩) := mkL_t (by simp)
  rw [callM_succ]
  show runB (callM PT n) F_law_row [.int x, .int w] H = _
  refine runB_wp rfl ?_
  show Wp _ b_law_row [.int x, .int w, .unset] H _
  refine wp_asg (v := .hnd H.ms.length) (H1 := ⟨H.ms ++ [[]], H.bx⟩) (by simp only [ev, evs, evl, ex, exs, get0, get1, get2, get3, get4, get5, get6, get7, get8, get9, get10, get11, get12, get13, get14, set0, set1, set2, set3, set4, set5, set6, set7, set8, set9, set10, set11, set12, set13, set14, ar_add, ar_sub, ar_and, ar_or, ar_shr, items_lst, itemV_lst, itemV_box0, itemV_box1, itemV_box2, cmpV_int, cmpV_eqL, cmpV_neL, cmpI_eq, cmpI_ne, cmpI_lt, cmpI_le, cmpI_gt, cmpI_ge, attrV, reduceIte, if_true, if_false, decide_true, decide_false, Bool.not_true, Bool.not_false, Bool.false_eq_true, reduceCtorEq, decide_eq_true_eq, Int.toNat_natCast, Option.map_some, nn, Int.reduceLE, Int.reduceToNat, Int.reduceLT, Int.reduceEq, Int.reduceNeg, Int.le_refl, hmk] <;> rfl) ?_
  simp only [set0, set1, set2, set3, set4, set5, set6, set7, set8, set9, set10, set11, set12, set13, set14]
  refine wp_whl (fun k l h => ∃ (t : Int) (f : List Int), l = [.int t, .int w, .hnd H.ms.length] ∧ h = ⟨H.ms ++ [f], H.bx⟩ ∧ 0 ≤ t ∧ f ++ row B t = row B x ∧ k = (row B t).length) (row B x).length (by unfold wfuel; omega) ⟨x, [], rfl, rfl, hx.1, rfl, rfl⟩ ?_
  rintro k _ _ ⟨t, f, rfl, rfl, ht0, hf, rfl⟩
  by_cases ht : 0 < t
  · right
    have hs := row_step (B := B) (by omega) ht
    have hfl : f.length + (row B t).length ≤ 200 := by rw [← List.length_append, hf]; exact hlen
    refine ⟨(row B (t / B)).length, ⟨H.ms ++ [f], H.bx⟩, by rw [hs]; rfl, by simp only [ev, evs, evl, ex, exs, get0, get1, get2, get3, get4, get5, get6, get7, get8, get9, get10, get11, get12, get13, get14, set0, set1, set2, set3, set4, set5, set6, set7, set8, set9, set10, set11, set12, set13, set14, ar_add, ar_sub, ar_and, ar_or, ar_shr, items_lst, itemV_lst, itemV_box0, itemV_box1, itemV_box2, cmpV_int, cmpV_eqL, cmpV_neL, cmpI_eq, cmpI_ne, cmpI_lt, cmpI_le, cmpI_gt, cmpI_ge, attrV, reduceIte, if_true, if_false, decide_true, decide_false, Bool.not_true, Bool.not_false, Bool.false_eq_true, reduceCtorEq, decide_eq_true_eq, Int.toNat_natCast, Option.map_some, nn, Int.reduceLE, Int.reduceToNat, Int.reduceLT, Int.reduceEq, Int.reduceNeg, Int.le_refl, ht] <;> rfl, ?_⟩
    refine wp_app (z := t % B) rfl (by simp only [ev, evs, evl, ex, exs, get0, get1, get2, get3, get4, get5, get6, get7, get8, get9, get10, get11, get12, get13, get14, set0, set1, set2, set3, set4, set5, set6, set7, set8, set9, set10, set11, set12, set13, set14, ar_add, ar_sub, ar_and, ar_or, ar_shr, items_lst, itemV_lst, itemV_box0, itemV_box1, itemV_box2, cmpV_int, cmpV_eqL, cmpV_neL, cmpI_eq, cmpI_ne, cmpI_lt, cmpI_le, cmpI_gt, cmpI_ge, attrV, reduceIte, if_true, if_false, decide_true, decide_false, Bool.not_true, Bool.not_false, Bool.false_eq_true, reduceCtorEq, decide_eq_true_eq, Int.toNat_natCast, Option.map_some, nn, Int.reduceLE, Int.reduceToNat, Int.reduceLT, Int.reduceEq, Int.reduceNeg, Int.le_refl, hpow, hmod] <;> rfl) (by omega) ?_
    refine wp_asg (v := .int (t / B)) (H1 := ⟨H.ms ++ [f ++ [t % B]], H.bx⟩) (by simp only [ev, evs, evl, ex, exs, get0, get1, get2, get3, get4, get5, get6, get7, get8, get9, get10, get11, get12, get13, get14, set0, set1, set2, set3, set4, set5, set6, set7, set8, set9, set10, set11, set12, set13, set14, ar_add, ar_sub, ar_and, ar_or, ar_shr, items_lst, itemV_lst, itemV_box0, itemV_box1, itemV_box2, cmpV_int, cmpV_eqL, cmpV_neL, cmpI_eq, cmpI_ne, cmpI_lt, cmpI_le, cmpI_gt, cmpI_ge, attrV, reduceIte, if_true, if_false, decide_true, decide_false, Bool.not_true, Bool.not_false, Bool.false_eq_true, reduceCtorEq, decide_eq_true_eq, Int.toNat_natCast, Option.map_some, nn, Int.reduceLE, Int.reduceToNat, Int.reduceLT, Int.reduceEq, Int.reduceNeg, Int.le_refl, hpow, hdiv] <;> rfl) ?_
    refine wp_nil ⟨rfl, t / B, f ++ [t % B], by simp only [ev, evs, evl, ex, exs, get0, get1, get2, get3, get4, get5, get6, get7, get8, get9, get10, get11, get12, get13, get14, set0, set1, set2, set3, set4, set5, set6, set7, set8, set9, set10, set11, set12, set13, set14, ar_add, ar_sub, ar_and, ar_or, ar_shr, items_lst, itemV_lst, itemV_box0, itemV_box1, itemV_box2, cmpV_int, cmpV_eqL, cmpV_neL, cmpI_eq, cmpI_ne, cmpI_lt, cmpI_le, cmpI_gt, cmpI_ge, attrV, reduceIte, if_true, if_false, decide_true, decide_false, Bool.not_true, Bool.not_false, Bool.false_eq_true, reduceCtorEq, decide_eq_true_eq, Int.toNat_natCast, Option.map_some, nn, Int.reduceLE, Int.reduceToNat, Int.reduceLT, Int.reduceEq, Int.reduceNeg, Int.le_refl] <;> rfl, rfl, Int.ediv_nonneg (by omega) (by omega), ?_, rfl⟩
    rw [← hf, hs]; simp
  · left
    have ht' : t = 0 := by omega
    subst ht'
    refine ⟨by simp only [ev, evs, evl, ex, exs, get0, get1, get2, get3, get4, get5, get6, get7, get8, get9, get10, get11, get12, get13, get14, set0, set1, set2, set3, set4, set5, set6, set7, set8, set9, set10, set11, set12, set13, set14, ar_add, ar_sub, ar_and, ar_or, ar_shr, items_lst, itemV_lst, itemV_box0, itemV_box1, itemV_box2, cmpV_int, cmpV_eqL, cmpV_neL, cmpI_eq, cmpI_ne, cmpI_lt, cmpI_le, cmpI_gt, cmpI_ge, attrV, reduceIte, if_true, if_false, decide_true, decide_false, Bool.not_true, Bool.not_false, Bool.false_eq_true, reduceCtorEq, decide_eq_true_eq, Int.toNat_natCast, Option.map_some, nn, Int.reduceLE, Int.reduceToNat, Int.reduceLT, Int.reduceEq, Int.reduceNeg, Int.le_refl] <;> rfl, wp_ret (v := .hnd H.ms.length) (H1 := ⟨H.ms ++ [f], H.bx⟩) (by simp only [ev, evs, evl, ex, exs, get0, get1, get2, get3, get4, get5, get6, get7, get8, get9, get10, get11, get12, get13, get14, set0, set1, set2, set3, set4, set5, set6, set7, set8, set9, set10, set11, set12, set13, set14, ar_add, ar_sub, ar_and, ar_or, ar_shr, items_lst, itemV_lst, itemV_box0, itemV_box1, itemV_box2, cmpV_int, cmpV_eqL, cmpV_neL, cmpI_eq, cmpI_ne, cmpI_lt, cmpI_le, cmpI_gt, cmpI_ge, attrV, reduceIte, if_true, if_false, decide_true, decide_false, Bool.not_true, Bool.not_false, Bool.false_eq_true, reduceCtorEq, decide_eq_true_eq, Int.toNat_natCast, Option.map_some, nn, Int.reduceLE, Int.reduceToNat, Int.reduceLT, Int.reduceEq, Int.reduceNeg, Int.le_refl] <;> rfl) ?_⟩
    rw [row_zero, List.append_nil] at hf
    rw [hf]
    exact gives_hnd

theorem law_number_v {w : Nat} (hw : 2 ≤ w ∧ w ≤ 9) (n : Nat) {H : Hp} {xs : List Int} (hd : Dg (2 ^ w) xs) (hsm : num (2 ^ w) xs < 2 ^ 200) : callM PT (n + 1) 21 [.lst xs, .int w] H = some (.val (.int (num (2 ^ w) xs)) H) := by
  have hB := B_rng hw
  have hpow : arith .pow 2 (w : Int) = some (2 ^ w) := ar_pow2 (by omega)
  generalize hBe : (2 : Int) ^ w = B at *
  rw [callM_succ]
  show runB (callM PT n) F_law_number [.lst xs, .int w] H = _
  refine runB_wp rfl ?_
  show Wp _ b_law_number [.lst xs, .int w, .unset, .unset] H _
  refine wp_asg (v := .int 0) (H1 := H) (by simp only [ev, evs, evl, ex, exs, get0, get1, get2, get3, get4, get5, get6, get7, get8, get9, get10, get11, get12, get13, get14, set0, set1, set2, set3, set4, set5, set6, set7, set8, set9, set10, set11, set12, set13, set14, ar_add, ar_sub, ar_and, ar_or, ar_shr, items_lst, itemV_lst, itemV_box0, itemV_box1, itemV_box2, cmpV_int, cmpV_eqL, cmpV_neL, cmpI_eq, cmpI_ne, cmpI_lt, cmpI_le, cmpI_gt, cmpI_ge, attrV, reduceIte, if_true, if_false, decide_true, decide_false, Bool.not_true, Bool.not_false, Bool.false_eq_true, reduceCtorEq, decide_eq_true_eq, Int.toNat_natCast, Option.map_some, nn, Int.reduceLE, Int.reduceToNat, Int.reduceLT, Int.reduceEq, Int.reduceNeg, Int.le_refl] <;> rfl) ?_
  simp only [set0, set1, set2, set3, set4, set5, set6, set7, set8, set9, set10, set11, set12, set13, set14]
  refine wp_forV (xs := xs) (fun j l h => ∃ v, l = [.lst xs, .int w, .int (num B (xs.drop (xs.length - j))), v] ∧ H = h) (by simp only [ev, evs, evl, ex, exs, get0, get1, get2, get3, get4, get5, get6, get7, get8, get9, get10, get11, get12, get13, get14, set0, set1, set2, set3, set4, set5, set6, set7, set8, set9, set10, set11, set12, set13, set14, ar_add, ar_sub, ar_and, ar_or, ar_shr, items_lst, itemV_lst, itemV_box0, itemV_box1, itemV_box2, cmpV_int, cmpV_eqL, cmpV_neL, cmpI_eq, cmpI_ne, cmpI_lt, cmpI_le, cmpI_gt, cmpI_ge, attrV, reduceIte, if_true, if_false, decide_true, decide_false, Bool.not_true, Bool.not_false, Bool.false_eq_true, reduceCtorEq, decide_eq_true_eq, Int.toNat_natCast, Option.map_some, nn, Int.reduceLE, Int.reduceToNat, Int.reduceLT, Int.reduceEq, Int.reduceNeg, Int.le_refl] <;> rfl) ⟨.unset, by simp [num], rfl⟩ ?_ ?_
  · rintro j v _ _ hj ⟨v0, rfl, rfl⟩
    have hjl : j < xs.length := by
      by_cases q : j < xs.length
      · exact q
      · rw [List.getElem?_eq_none (by rw [List.length_reverse]; omega)] at hj; cases hj
    rw [List.getElem?_reverse hjl] at hj
    have hi : xs.length - 1 - j < xs.length := by omega
    have hv : xs[xs.length - 1 - j] = v := by rw [List.getElem?_eq_getElem hi] at hj; exact Option.some.inj hj
    have hs := drop_digit (B := B) hi
    have e1 : xs.length - 1 - j + 1 = xs.length - j := by omega
    have e2 : xs.length - 1 - j = xs.length - (j + 1) := by omega
    rw [hv, e1] at hs
    have hd0 := num_nonneg (B := B) (by omega) (hd.drop (xs.length - j))
    have hle : num B (xs.drop (xs.length - j)) ≤ num B xs := by
      have h1 := num_split (B := B) xs (j := xs.length - j) (by omega)
      have h2 := num_take_lt (B := B) (by omega) hd (k := xs.length - j) (by omega)
      have h3 : 1 * num B (xs.drop (xs.length - j)) ≤ B ^ (xs.length - j) * num B (xs.drop (xs.length - j)) := Int.mul_le_mul_of_nonneg_right (by
        have : 0 < B ^ (xs.length - j) := Int.pow_pos (by omega)
        omega) hd0
      omega
    have hmul : arith .mul (num B (xs.drop (xs.length - j))) B = some (num B (xs.drop (xs.length - j)) * B) := ar_mul (okM_rng hd0 (by
      have : (2 : Int) ^ 200 < 2 ^ 256 := by decide
      omega)) (okM_rng (by omega) (by omega))
    simp only [set0, set1, set2, set3, set4, set5, set6, set7, set8, set9, set10, set11, set12, set13, set14]
    refine wp_asg (v := .int (num B (xs.drop (xs.length - j)) * B + v)) (H1 := H) (by simp only [ev, evs, evl, ex, exs, get0, get1, get2, get3, get4, get5, get6, get7, get8, get9, get10, get11, get12, get13, get14, set0, set1, set2, set3, set4, set5, set6, set7, set8, set9, set10, set11, set12, set13, set14, ar_add, ar_sub, ar_and, ar_or, ar_shr, items_lst, itemV_lst, itemV_box0, itemV_box1, itemV_box2, cmpV_int, cmpV_eqL, cmpV_neL, cmpI_eq, cmpI_ne, cmpI_lt, cmpI_le, cmpI_gt, cmpI_ge, attrV, reduceIte, if_true, if_false, decide_true, decide_false, Bool.not_true, Bool.not_false, Bool.false_eq_true, reduceCtorEq, decide_eq_true_eq, Int.toNat_natCast, Option.map_some, nn, Int.reduceLE, Int.reduceToNat, Int.reduceLT, Int.reduceEq, Int.reduceNeg, Int.le_refl, hpow, hmul] <;> rfl) (wp_nil ⟨rfl, .int v, ?_, rfl⟩)
    simp only [set0, set1, set2, set3, set4, set5, set6, set7, set8, set9, set10, set11, set12, set13, set14]
    rw [← e2, hs]
    have : v + B * num B (xs.drop (xs.length - j)) = num B (xs.drop (xs.length - j)) * B + v := by grind
    rw [this]
  · rintro _ _ ⟨v0, rfl, rfl⟩
    rw [Nat.sub_self, List.drop_zero]
    exact wp_ret (v := .int (num B xs)) (H1 := H) (by simp only [ev, evs, evl, ex, exs, get0, get1, get2, get3, get4, get5, get6, get7, get8, get9, get10, get11, get12, get13, get14, set0, set1, set2, set3, set4, set5, set6, set7, set8, set9, set10, set11, set12, set13, set14, ar_add, ar_sub, ar_and, ar_or, ar_shr, items_lst, itemV_lst, itemV_box0, itemV_box1, itemV_box2, cmpV_int, cmpV_eqL, cmpV_neL, cmpI_eq, cmpI_ne, cmpI_lt, cmpI_le, cmpI_gt, cmpI_ge, attrV, reduceIte, if_true, if_false, decide_true, decide_false, Bool.not_true, Bool.not_false, Bool.false_eq_true, reduceCtorEq, decide_eq_true_eq, Int.toNat_natCast, Option.map_some, nn, Int.reduceLE, Int.reduceToNat, Int.reduceLT, Int.reduceEq, Int.reduceNeg, Int.le_refl] <;> rfl) gives_int

theorem law_number_r {w : Nat} (hw : 2 ≤ w ∧ w ≤ 9) (n : Nat) {H : Hp} {x : Int} (hx : Sm x) : callM PT (n + 1) 21 [.lst (row (2 ^ w) x), .int w] H = some (.val (.int x) H) := by
  have hB := B_rng hw
  have := law_number_v hw n (H := H) (xs := row (2 ^ w) x) (row_dg (by omega) hx.1) (by rw [row_num (by omega) hx.1]; exact hx.2)
  rwa [row_num (by omega) hx.1] at this

theorem law_mul_v {w : Nat} (hw : 2 ≤ w ∧ w ≤ 9) (n : Nat) {H : Hp} {x y : Int} (hx : 0 ≤ x ∧ x < 2 ^ 90) (hy : 0 ≤ y ∧ y < 2 ^ 90) : callM PT (n + 2) 22 [.lst (row (2 ^ w) x), .lst (row (2 ^ w) y), .int w] H = some (.val (.lst (row (2 ^ w) (x * y))) H) := by
  have hb : (2 : Int) ^ 90 < 2 ^ 200 := by decide
  have hb2 : (2 : Int) ^ 90 < 2 ^ 256 := by decide
  have hxy0 : 0 ≤ x * y := Int.mul_nonneg hx.1 hy.1
  have hxy1 : x * y ≤ 2 ^ 90 * 2 ^ 90 := Int.mul_le_mul (by omega) (by omega) hy.1 (by decide)
  have hb3 : (2 : Int) ^ 90 * 2 ^ 90 < 2 ^ 200 := by decide
  have h1 := law_number_r hw n (H := H) (x := x) ⟨hx.1, by omega⟩
  have h2 := law_number_r hw n (H := H) (x := y) ⟨hy.1, by omega⟩
  have h3 := law_row_v hw n (H := H) (x := x * y) ⟨hxy0, by omega⟩
  have hmul : arith .mul x y = some (x * y) := ar_mul (okM_rng hx.1 (by omega)) (okM_rng hy.1 (by omega))
  rw [callM_succ]
  show runB (callM PT (n + 1)) F_law_mul [.lst (row (2 ^ w) x), .lst (row (2 ^ w) y), .int w] H = _
  refine runB_wp rfl ?_
  show Wp _ b_law_mul [.lst (row (2 ^ w) x), .lst (row (2 ^ w) y), .int w] H _
  exact wp_ret (v := .lst (row (2 ^ w) (x * y))) (H1 := H) (by simp only [ev, evs, evl, ex, exs, get0, get1, get2, get3, get4, get5, get6, get7, get8, get9, get10, get11, get12, get13, get14, set0, set1, set2, set3, set4, set5, set6, set7, set8, set9, set10, set11, set12, set13, set14, ar_add, ar_sub, ar_and, ar_or, ar_shr, items_lst, itemV_lst, itemV_box0, itemV_box1, itemV_box2, cmpV_int, cmpV_eqL, cmpV_neL, cmpI_eq, cmpI_ne, cmpI_lt, cmpI_le, cmpI_gt, cmpI_ge, attrV, reduceIte, if_true, if_false, decide_true, decide_false, Bool.not_true, Bool.not_false, Bool.false_eq_true, reduceCtorEq, decide_eq_true_eq, Int.toNat_natCast, Option.map_some, nn, Int.reduceLE, Int.reduceToNat, Int.reduceLT, Int.reduceEq, Int.reduceNeg, Int.le_refl, h1, h2, h3, hmul] <;> rfl) gives_lst

section
variable {w : Nat} {M : Int} (hp : Par w M)
include hp
theorem Par.mod_rng (a : Int) : 0 ≤ a % M ∧ a % M < M := ⟨Int.emod_nonneg _ (by have := hp.pos; omega), Int.emod_lt_of_pos _ hp.pos⟩
theorem Par.big_pos : 0 < big w M := Int.pow_pos (by have := B_rng hp.hw; omega)
/-- a product of what stands below the modulus and the power -/
theorem Par.below {a b : Int} (ha : 0 ≤ a ∧ a < M) (hb : 0 ≤ b ∧ b < M) : 0 ≤ a * b ∧ a * b < M * big w M := by
  refine ⟨Int.mul_nonneg ha.1 hb.1, ?_⟩
  have h1 : a * b ≤ M * b := Int.mul_le_mul_of_nonneg_right (by omega) hb.1
  have h2 : M * b < M * big w M := Int.mul_lt_mul_of_pos_left (by have := hp.lt_big; omega) hp.pos
  omega
theorem Par.below1 {a : Int} (ha : a < M) (h0 : 0 ≤ a) : a < M * big w M := by
  have h1 : M * 1 ≤ M * big w M := Int.mul_le_mul_of_nonneg_left (by have := hp.big_pos; omega) (Int.le_of_lt hp.pos)
  omega
theorem Par.cancel {a b : Int} (h : Cg M (a * big w M) (b * big w M)) : Cg M a b := by
  rw [Par.big_pow] at h
  exact h.cancel hp.odd

/-- one reduction, its answer named -/
theorem redc_eq (n : Nat) {H : Hp} {x y q : Int} {o s : List Int} (hx0 : 0 ≤ x) (hlt : x < M * big w M) (hq : Qok w M q) (hy : 0 ≤ y ∧ y < M) (hc : Cg M (y * big w M) x) :
    callM PT (n + 4) 13 [.lst (row (2 ^ w) x), .mont (row (2 ^ w) M) q o s, .int w] H = some (.val (.lst (row (2 ^ w) y)) H) := by
  obtain ⟨z, h, h0, h1, h2⟩ := redc_v hp n (H := H) (o := o) (s := s) hx0 hlt hq
  have : z = y := (hp.cancel (h2.trans hc.symm)).eq ⟨h0, h1⟩ hy
  rw [← this]; exact h

/-- the told word as the law makes it -/
noncomputable abbrev told (w : Nat) (M q : Int) : V := .mont (row (2 ^ w) M) q (row (2 ^ w) (big w M % M)) (row (2 ^ w) (big w M * big w M % M))

theorem qcheck {q : Int} (h0 : 0 ≤ q) (h1 : q < 2 ^ w) : ((q * M + 1) % 2 ^ w = 0) = (M % 2 ^ w * q % 2 ^ w = 2 ^ w - 1) := by
  have hB := B_rng hp.hw
  generalize (2 : Int) ^ w = B at *
  have c : Cg B (q * M) (M % B * q) := by
    rw [Int.mul_comm q M]
    exact Cg.mul (Cg.mod B M).symm (Cg.refl B q)
  have hr0 := Int.emod_nonneg (M % B * q) (b := B) (by omega)
  have hr1 := Int.emod_lt_of_pos (M % B * q) (b := B) (by omega)
  apply propext
  constructor
  · intro h
    have c2 : Cg B (M % B * q % B) (B - 1) := by
      refine ((Cg.mod B _).trans c.symm).trans ?_
      obtain ⟨t, ht⟩ := Int.dvd_of_emod_eq_zero h
      exact Cg.of_sub ⟨t - 1, by grind⟩
    exact c2.eq ⟨hr0, hr1⟩ (by omega)
  · intro h
    have c2 : Cg B (q * M) (B - 1) := by
      rw [← h]; exact c.trans (Cg.mod B _).symm
    obtain ⟨t, ht⟩ := Int.dvd_of_emod_eq_zero c2
    exact Int.emod_eq_zero_of_dvd ⟨t + 1, by grind⟩

theorem mul_check (n : Nat) {H : Hp} {q : Int} (h0 : 0 ≤ q) (h1 : q < 2 ^ w) : ∃ xs, callM PT (n + 1) 6 [.lst [M % 2 ^ w], .int q, .int w] H = some (.val (.lst xs) H) ∧ (xs.take 1 = [2 ^ w - 1]) = ((q * M + 1) % 2 ^ w = 0) := by
  have hB := B_rng hp.hw
  have hm0 := Int.emod_nonneg M (b := 2 ^ w) (by omega)
  have hm1 := Int.emod_lt_of_pos M (b := 2 ^ w) (by omega)
  obtain ⟨t, ht⟩ := mul_limb1_v hp.hw n (H := H) ⟨hm0, hm1⟩ ⟨h0, h1⟩
  refine ⟨_, ht, ?_⟩
  by_cases hq : q = 0
  · rw [if_pos hq, hq, Int.zero_mul, Int.zero_add, Int.emod_eq_of_lt (by omega) (by omega)]
    simp
  · rw [if_neg hq, qcheck hp h0 h1]
    simp

theorem check_bad (n : Nat) {H : Hp} {q : Int} (h0 : 0 ≤ q) (h1 : q < 2 ^ w) (hb : ¬ (q * M + 1) % 2 ^ w = 0) : callM PT (n + 5) 19 [told w M q, .int w] H = some (.val (.bool false) H) := by
  have hB := B_rng hp.hw
  obtain ⟨xs, hxs, hck⟩ := mul_check hp (n + 3) (H := H) h0 h1
  have hd : (row (2 ^ w) M)[0]? = some (M % 2 ^ w) := by
    obtain ⟨r0, hr0⟩ := row_head (B := 2 ^ w) (M := M) (by omega) hp.pos
    rw [hr0]; rfl
  have hpow : arith .shl 1 (w : Int) = some (2 ^ w) := ar_shl1 (by have := hp.hw; omega)
  have hne : (xs.take 1 = [2 ^ w - 1]) = False := by rw [hck]; exact eq_false hb
  rw [callM_succ]
  show runB (callM PT (n + 4)) F_check_mont [told w M q, .int w] H = _
  refine runB_wp rfl ?_
  show Wp _ b_check_mont [told w M q, .int w, .unset] H _
  refine wp_asg (v := .lst (row (2 ^ w) M)) (H1 := H) (by simp only [ev, evs, evl, ex, exs, get0, get1, get2, get3, get4, get5, get6, get7, get8, get9, get10, get11, get12, get13, get14, set0, set1, set2, set3, set4, set5, set6, set7, set8, set9, set10, set11, set12, set13, set14, ar_add, ar_sub, ar_and, ar_or, ar_shr, items_lst, itemV_lst, itemV_box0, itemV_box1, itemV_box2, cmpV_int, cmpV_eqL, cmpV_neL, cmpI_eq, cmpI_ne, cmpI_lt, cmpI_le, cmpI_gt, cmpI_ge, attrV, reduceIte, if_true, if_false, decide_true, decide_false, Bool.not_true, Bool.not_false, Bool.false_eq_true, reduceCtorEq, decide_eq_true_eq, Int.toNat_natCast, Option.map_some, nn, Int.reduceLE, Int.reduceToNat, Int.reduceLT, Int.reduceEq, Int.reduceNeg, Int.le_refl] <;> rfl) ?_
  simp only [set0, set1, set2, set3, set4, set5, set6, set7, set8, set9, set10, set11, set12, set13, set14]
  exact wp_if_t (H1 := H) (by simp only [ev, evs, evl, ex, exs, get0, get1, get2, get3, get4, get5, get6, get7, get8, get9, get10, get11, get12, get13, get14, set0, set1, set2, set3, set4, set5, set6, set7, set8, set9, set10, set11, set12, set13, set14, ar_add, ar_sub, ar_and, ar_or, ar_shr, items_lst, itemV_lst, itemV_box0, itemV_box1, itemV_box2, cmpV_int, cmpV_eqL, cmpV_neL, cmpI_eq, cmpI_ne, cmpI_lt, cmpI_le, cmpI_gt, cmpI_ge, attrV, reduceIte, if_true, if_false, decide_true, decide_false, Bool.not_true, Bool.not_false, Bool.false_eq_true, reduceCtorEq, decide_eq_true_eq, Int.toNat_natCast, Option.map_some, nn, Int.reduceLE, Int.reduceToNat, Int.reduceLT, Int.reduceEq, Int.reduceNeg, Int.le_refl, hd, hxs, hpow, hne] <;> rfl) (wp_ret (v := .bool false) (H1 := H) (by simp only [ev, evs, evl, ex, exs, get0, get1, get2, get3, get4, get5, get6, get7, get8, get9, get10, get11, get12, get13, get14, set0, set1, set2, set3, set4, set5, set6, set7, set8, set9, set10, set11, set12, set13, set14, ar_add, ar_sub, ar_and, ar_or, ar_shr, items_lst, itemV_lst, itemV_box0, itemV_box1, itemV_box2, cmpV_int, cmpV_eqL, cmpV_neL, cmpI_eq, cmpI_ne, cmpI_lt, cmpI_le, cmpI_gt, cmpI_ge, attrV, reduceIte, if_true, if_false, decide_true, decide_false, Bool.not_true, Bool.not_false, Bool.false_eq_true, reduceCtorEq, decide_eq_true_eq, Int.toNat_natCast, Option.map_some, nn, Int.reduceLE, Int.reduceToNat, Int.reduceLT, Int.reduceEq, Int.reduceNeg, Int.le_refl] <;> rfl) gives_bool)

theorem check_ok (n : Nat) {H : Hp} {q : Int} (hq : Qok w M q) : callM PT (n + 5) 19 [told w M q, .int w] H = some (.val (.bool true) H) := by
  have hB := B_rng hp.hw
  have hM0 := hp.pos
  obtain ⟨xs, hxs, hck⟩ := mul_check hp (n + 3) (H := H) hq.1 hq.2.1
  have hd : (row (2 ^ w) M)[0]? = some (M % 2 ^ w) := by
    obtain ⟨r0, hr0⟩ := row_head (B := 2 ^ w) (M := M) (by omega) hp.pos
    rw [hr0]; rfl
  have hpow : arith .shl 1 (w : Int) = some (2 ^ w) := ar_shl1 (by have := hp.hw; omega)
  have hne : (xs.take 1 = [2 ^ w - 1]) = True := by rw [hck]; exact eq_true hq.2.2
  have r1 := hp.mod_rng (big w M)
  have r2 := hp.mod_rng (big w M * big w M)
  have e1 := redc_eq hp n (H := H) (x := big w M * big w M % M) (y := big w M % M) (o := row (2 ^ w) (big w M % M)) (s := row (2 ^ w) (big w M * big w M % M)) r2.1 (hp.below1 r2.2 r2.1) hq r1
    ((Cg.mul (Cg.mod M (big w M)) (Cg.refl M (big w M))).trans (Cg.mod M _).symm)
  have e2 := redc_eq hp n (H := H) (x := big w M % M) (y := 1 % M) (o := row (2 ^ w) (big w M % M)) (s := row (2 ^ w) (big w M * big w M % M)) r1.1 (hp.below1 r1.2 r1.1) hq (hp.mod_rng 1)
    ((Cg.mul (Cg.mod M 1) (Cg.refl M (big w M))).trans (by rw [Int.one_mul]; exact (Cg.mod M _).symm))
  have h1M : row (2 ^ w) (1 % M) = if M = 1 then [] else [1] := by
    by_cases h : M = 1
    · subst h; rw [if_pos rfl]; rfl
    · rw [if_neg h, Int.emod_eq_of_lt (by omega) (by omega), row_one (by omega)]
  have hone : (row (2 ^ w) M = [1]) = (M = 1) := propext (row_is_one (by omega) (by omega))
  have hmk : mkL false [] H = some (.lst [], H) := mkL_f (by simp)
  rw [callM_succ]
  show runB (callM PT (n + 4)) F_check_mont [told w M q, .int w] H = _
  refine runB_wp rfl ?_
  show Wp _ b_check_mont [told w M q, .int w, .unset] H _
  refine wp_asg (v := .lst (row (2 ^ w) M)) (H1 := H) (by simp only [ev, evs, evl, ex, exs, get0, get1, get2, get3, get4, get5, get6, get7, get8, get9, get10, get11, get12, get13, get14, set0, set1, set2, set3, set4, set5, set6, set7, set8, set9, set10, set11, set12, set13, set14, ar_add, ar_sub, ar_and, ar_or, ar_shr, items_lst, itemV_lst, itemV_box0, itemV_box1, itemV_box2, cmpV_int, cmpV_eqL, cmpV_neL, cmpI_eq, cmpI_ne, cmpI_lt, cmpI_le, cmpI_gt, cmpI_ge, attrV, reduceIte, if_true, if_false, decide_true, decide_false, Bool.not_true, Bool.not_false, Bool.false_eq_true, reduceCtorEq, decide_eq_true_eq, Int.toNat_natCast, Option.map_some, nn, Int.reduceLE, Int.reduceToNat, Int.reduceLT, Int.reduceEq, Int.reduceNeg, Int.le_refl] <;> rfl) ?_
  simp only [set0, set1, set2, set3, set4, set5, set6, set7, set8, set9, set10, set11, set12, set13, set14]
  refine wp_skip (H1 := H) (by simp only [ev, evs, evl, ex, exs, get0, get1, get2, get3, get4, get5, get6, get7, get8, get9, get10, get11, get12, get13, get14, set0, set1, set2, set3, set4, set5, set6, set7, set8, set9, set10, set11, set12, set13, set14, ar_add, ar_sub, ar_and, ar_or, ar_shr, items_lst, itemV_lst, itemV_box0, itemV_box1, itemV_box2, cmpV_int, cmpV_eqL, cmpV_neL, cmpI_eq, cmpI_ne, cmpI_lt, cmpI_le, cmpI_gt, cmpI_ge, attrV, reduceIte, if_true, if_false, decide_true, decide_false, Bool.not_true, Bool.not_false, Bool.false_eq_true, reduceCtorEq, decide_eq_true_eq, Int.toNat_natCast, Option.map_some, nn, Int.reduceLE, Int.reduceToNat, Int.reduceLT, Int.reduceEq, Int.reduceNeg, Int.le_refl, hd, hxs, hpow, hne] <;> rfl) ?_
  refine wp_ret (v := .bool true) (H1 := H) ?_ gives_bool
  by_cases h : M = 1
  · have e : (row (2 ^ w) M = [1]) = True := by rw [hone]; exact eq_true h
    rw [if_pos h] at h1M
    rw [h1M] at e2
    simp only [ev, evs, evl, ex, exs, get0, get1, get2, get3, get4, get5, get6, get7, get8, get9, get10, get11, get12, get13, get14, set0, set1, set2, set3, set4, set5, set6, set7, set8, set9, set10, set11, set12, set13, set14, ar_add, ar_sub, ar_and, ar_or, ar_shr, items_lst, itemV_lst, itemV_box0, itemV_box1, itemV_box2, cmpV_int, cmpV_eqL, cmpV_neL, cmpI_eq, cmpI_ne, cmpI_lt, cmpI_le, cmpI_gt, cmpI_ge, attrV, reduceIte, if_true, if_false, decide_true, decide_false, Bool.not_true, Bool.not_false, Bool.false_eq_true, reduceCtorEq, decide_eq_true_eq, Int.toNat_natCast, Option.map_some, nn, Int.reduceLE, Int.reduceToNat, Int.reduceLT, Int.reduceEq, Int.reduceNeg, Int.le_refl, e1, e2, e, hmk]
  · have e : (row (2 ^ w) M = [1]) = False := by rw [hone]; exact eq_false h
    rw [if_neg h] at h1M
    rw [h1M] at e2
    simp only [ev, evs, evl, ex, exs, get0, get1, get2, get3, get4, get5, get6, get7, get8, get9, get10, get11, get12, get13, get14, set0, set1, set2, set3, set4, set5, set6, set7, set8, set9, set10, set11, set12, set13, set14, ar_add, ar_sub, ar_and, ar_or, ar_shr, items_lst, itemV_lst, itemV_box0, itemV_box1, itemV_box2, cmpV_int, cmpV_eqL, cmpV_neL, cmpI_eq, cmpI_ne, cmpI_lt, cmpI_le, cmpI_gt, cmpI_ge, attrV, reduceIte, if_true, if_false, decide_true, decide_false, Bool.not_true, Bool.not_false, Bool.false_eq_true, reduceCtorEq, decide_eq_true_eq, Int.toNat_natCast, Option.map_some, nn, Int.reduceLE, Int.reduceToNat, Int.reduceLT, Int.reduceEq, Int.reduceNeg, Int.le_refl, e1, e2, e]

theorem to_mont_exc (n : Nat) {H : Hp} {x q : Int} (hx : Sm x) (hge : M ≤ x) {m : V} : callM PT (n + 5) 14 [.lst (row (2 ^ w) x), told w M q, .int w, m] H = some .exc := by
  have h2 := compare_r hp.hw (n + 3) (H := H) hx hp.sm
  have hs : (0 : Int) ≤ sg x M := by unfold sg; rw [if_neg (by omega)]; split <;> omega
  rw [callM_succ]
  show runB (callM PT (n + 4)) F_to_mont [.lst (row (2 ^ w) x), told w M q, .int w, m] H = _
  refine runB_wpE rfl ?_
  show Wp _ b_to_mont [.lst (row (2 ^ w) x), told w M q, .int w, m] H _
  exact wp_if_t (H1 := H) (by simp only [ev, evs, evl, ex, exs, get0, get1, get2, get3, get4, get5, get6, get7, get8, get9, get10, get11, get12, get13, get14, set0, set1, set2, set3, set4, set5, set6, set7, set8, set9, set10, set11, set12, set13, set14, ar_add, ar_sub, ar_and, ar_or, ar_shr, items_lst, itemV_lst, itemV_box0, itemV_box1, itemV_box2, cmpV_int, cmpV_eqL, cmpV_neL, cmpI_eq, cmpI_ne, cmpI_lt, cmpI_le, cmpI_gt, cmpI_ge, attrV, reduceIte, if_true, if_false, decide_true, decide_false, Bool.not_true, Bool.not_false, Bool.false_eq_true, reduceCtorEq, decide_eq_true_eq, Int.toNat_natCast, Option.map_some, nn, Int.reduceLE, Int.reduceToNat, Int.reduceLT, Int.reduceEq, Int.reduceNeg, Int.le_refl, h2, hs] <;> rfl) (wp_raise rfl)

theorem to_mont_v (n : Nat) {H : Hp} {x q : Int} (hx : 0 ≤ x ∧ x < M) (hq : Qok w M q) : callM PT (n + 5) 14 [.lst (row (2 ^ w) x), told w M q, .int w, .fn 22] H = some (.val (.lst (row (2 ^ w) (x * big w M % M))) H) := by
  have hM := hp.small
  have hb : (2 : Int) ^ 40 < 2 ^ 90 := by decide
  have hb2 : (2 : Int) ^ 40 < 2 ^ 200 := by decide
  have h2 := compare_r hp.hw (n + 3) (H := H) (x := x) (y := M) ⟨hx.1, by omega⟩ hp.sm
  have hs : ¬ (0 : Int) ≤ sg x M := by rw [sg_lt hx.2]; omega
  have r2 := hp.mod_rng (big w M * big w M)
  have h3 := law_mul_v hp.hw (n + 2) (H := H) (x := x) (y := big w M * big w M % M) ⟨hx.1, by omega⟩ ⟨r2.1, by omega⟩
  have hbl := hp.below hx r2
  have h4 := redc_eq hp n (H := H) (x := x * (big w M * big w M % M)) (y := x * big w M % M) (o := row (2 ^ w) (big w M % M)) (s := row (2 ^ w) (big w M * big w M % M)) hbl.1 hbl.2 hq (hp.mod_rng _) (by
    refine (Cg.mul (Cg.mod M _) (Cg.refl M (big w M))).trans ?_
    rw [Int.mul_assoc]
    exact Cg.mul (Cg.refl M x) (Cg.mod M _).symm)
  rw [callM_succ]
  show runB (callM PT (n + 4)) F_to_mont [.lst (row (2 ^ w) x), told w M q, .int w, .fn 22] H = _
  refine runB_wp rfl ?_
  show Wp _ b_to_mont [.lst (row (2 ^ w) x), told w M q, .int w, .fn 22] H _
  refine wp_skip (H1 := H) (by simp only [ev, evs, evl, ex, exs, get0, get1, get2, get3, get4, get5, get6, get7, get8, get9, get10, get11, get12, get13, get14, set0, set1, set2, set3, set4, set5, set6, set7, set8, set9, set10, set11, set12, set13, set14, ar_add, ar_sub, ar_and, ar_or, ar_shr, items_lst, itemV_lst, itemV_box0, itemV_box1, itemV_box2, cmpV_int, cmpV_eqL, cmpV_neL, cmpI_eq, cmpI_ne, cmpI_lt, cmpI_le, cmpI_gt, cmpI_ge, attrV, reduceIte, if_true, if_false, decide_true, decide_false, Bool.not_true, Bool.not_false, Bool.false_eq_true, reduceCtorEq, decide_eq_true_eq, Int.toNat_natCast, Option.map_some, nn, Int.reduceLE, Int.reduceToNat, Int.reduceLT, Int.reduceEq, Int.reduceNeg, Int.le_refl, h2, hs] <;> rfl) ?_
  exact wp_ret (v := .lst (row (2 ^ w) (x * big w M % M))) (H1 := H) (by simp only [ev, evs, evl, ex, exs, get0, get1, get2, get3, get4, get5, get6, get7, get8, get9, get10, get11, get12, get13, get14, set0, set1, set2, set3, set4, set5, set6, set7, set8, set9, set10, set11, set12, set13, set14, ar_add, ar_sub, ar_and, ar_or, ar_shr, items_lst, itemV_lst, itemV_box0, itemV_box1, itemV_box2, cmpV_int, cmpV_eqL, cmpV_neL, cmpI_eq, cmpI_ne, cmpI_lt, cmpI_le, cmpI_gt, cmpI_ge, attrV, reduceIte, if_true, if_false, decide_true, decide_false, Bool.not_true, Bool.not_false, Bool.false_eq_true, reduceCtorEq, decide_eq_true_eq, Int.toNat_natCast, Option.map_some, nn, Int.reduceLE, Int.reduceToNat, Int.reduceLT, Int.reduceEq, Int.reduceNeg, Int.le_refl, h3, h4] <;> rfl) gives_lst

theorem from_mont_v (n : Nat) {H : Hp} {x q : Int} (hx : 0 ≤ x ∧ x < M) (hq : Qok w M q) : callM PT (n + 5) 15 [.lst (row (2 ^ w) (x * big w M % M)), told w M q, .int w] H = some (.val (.lst (row (2 ^ w) x)) H) := by
  have r2 := hp.mod_rng (x * big w M)
  have h4 := redc_eq hp n (H := H) (x := x * big w M % M) (y := x) (o := row (2 ^ w) (big w M % M)) (s := row (2 ^ w) (big w M * big w M % M)) r2.1 (hp.below1 r2.2 r2.1) hq hx (Cg.mod M _).symm
  rw [callM_succ]
  show runB (callM PT (n + 4)) F_from_mont [.lst (row (2 ^ w) (x * big w M % M)), told w M q, .int w] H = _
  refine runB_wp rfl ?_
  show Wp _ b_from_mont [.lst (row (2 ^ w) (x * big w M % M)), told w M q, .int w] H _
  exact wp_ret (v := .lst (row (2 ^ w) x)) (H1 := H) (by simp only [ev, evs, evl, ex, exs, get0, get1, get2, get3, get4, get5, get6, get7, get8, get9, get10, get11, get12, get13, get14, set0, set1, set2, set3, set4, set5, set6, set7, set8, set9, set10, set11, set12, set13, set14, ar_add, ar_sub, ar_and, ar_or, ar_shr, items_lst, itemV_lst, itemV_box0, itemV_box1, itemV_box2, cmpV_int, cmpV_eqL, cmpV_neL, cmpI_eq, cmpI_ne, cmpI_lt, cmpI_le, cmpI_gt, cmpI_ge, attrV, reduceIte, if_true, if_false, decide_true, decide_false, Bool.not_true, Bool.not_false, Bool.false_eq_true, reduceCtorEq, decide_eq_true_eq, Int.toNat_natCast, Option.map_some, nn, Int.reduceLE, Int.reduceToNat, Int.reduceLT, Int.reduceEq, Int.reduceNeg, Int.le_refl, h4] <;> rfl) gives_lst

theorem mont_mul_v (n : Nat) {H : Hp} {x y z q : Int} (hx : 0 ≤ x ∧ x < M) (hy : 0 ≤ y ∧ y < M) (hz : 0 ≤ z ∧ z < M) (hc : Cg M (z * big w M) (x * y)) (hq : Qok w M q) : callM PT (n + 5) 16 [.lst (row (2 ^ w) x), .lst (row (2 ^ w) y), told w M q, .int w, .fn 22] H = some (.val (.lst (row (2 ^ w) z)) H) := by
  have hM := hp.small
  have hb : (2 : Int) ^ 40 < 2 ^ 90 := by decide
  have h3 := law_mul_v hp.hw (n + 2) (H := H) (x := x) (y := y) ⟨hx.1, by omega⟩ ⟨hy.1, by omega⟩
  have hbl := hp.below hx hy
  have h4 := redc_eq hp n (H := H) (x := x * y) (y := z) (o := row (2 ^ w) (big w M % M)) (s := row (2 ^ w) (big w M * big w M % M)) hbl.1 hbl.2 hq hz hc
  rw [callM_succ]
  show runB (callM PT (n + 4)) F_mont_mul [.lst (row (2 ^ w) x), .lst (row (2 ^ w) y), told w M q, .int w, .fn 22] H = _
  refine runB_wp rfl ?_
  show Wp _ b_mont_mul [.lst (row (2 ^ w) x), .lst (row (2 ^ w) y), told w M q, .int w, .fn 22] H _
  exact wp_ret (v := .lst (row (2 ^ w) z)) (H1 := H) (by simp only [ev, evs, evl, ex, exs, get0, get1, get2, get3, get4, get5, get6, get7, get8, get9, get10, get11, get12, get13, get14, set0, set1, set2, set3, set4, set5, set6, set7, set8, set9, set10, set11, set12, set13, set14, ar_add, ar_sub, ar_and, ar_or, ar_shr, items_lst, itemV_lst, itemV_box0, itemV_box1, itemV_box2, cmpV_int, cmpV_eqL, cmpV_neL, cmpI_eq, cmpI_ne, cmpI_lt, cmpI_le, cmpI_gt, cmpI_ge, attrV, reduceIte, if_true, if_false, decide_true, decide_false, Bool.not_true, Bool.not_false, Bool.false_eq_true, reduceCtorEq, decide_eq_true_eq, Int.toNat_natCast, Option.map_some, nn, Int.reduceLE, Int.reduceToNat, Int.reduceLT, Int.reduceEq, Int.reduceNeg, Int.le_refl, h3, h4] <;> rfl) gives_lst
end
end Mine

namespace Mine

theorem downs_get : ∀ (n : Nat) (j : Nat) (v : V), (downs n)[j]? = some v → j < n ∧ v = .int ((n - 1 - j : Nat) : Int)
  | 0, _, _, h => by simp [downs] at h
  | n + 1, 0, v, h => by simp [downs] at h; exact ⟨by omega, by simp [h]⟩
  | n + 1, j + 1, v, h => by
    obtain ⟨h1, h2⟩ := downs_get n j v (by simpa [downs] using h)
    refine ⟨by omega, ?_⟩
    rw [h2]; congr 2; omega
theorem downs_len : ∀ n : Nat, (downs n).length = n
  | 0 => rfl
  | n + 1 => by simp [downs, downs_len n]

theorem ev_call5 {cl : Cl} {loc : List V} {g q : Nat} {e e2 e3 e4 e5 : ME} {H H' : Hp} {v v2 v3 v4 v5 r : V} (he : ev cl loc e H = some (v, H)) (he2 : ev cl loc e2 H = some (v2, H)) (he3 : ev cl loc e3 H = some (v3, H)) (he4 : ev cl loc e4 H = some (v4, H)) (he5 : ev cl loc e5 H = some (v5, H)) (hc : cl g [v, v2, v3, v4, v5] H = some (.val r H')) : ev cl loc (.call g e (.cons e2 (.cons e3 (.cons e4 (.cons e5 .nil)))) q) H = some (r, H') := by
  simp only [ev, he, evs, he2, he3, he4, he5, hc]
section
variable {w : Nat} {M : Int} (hp : Par w M)
include hp

theorem scaled_v (n : Nat) {H : Hp} {x limb : Int} (hx : 0 ≤ x ∧ x < M) (hl : 0 ≤ limb ∧ limb < 2 ^ w) :
    callM PT (n + 4) 18 [.lst (row (2 ^ w) x), .lst (row (2 ^ w) M), .int w, .int limb] H = some (.val (.lst (row (2 ^ w) (x * limb % M))) H) := by
  have hw := hp.hw
  have hB := B_rng hw
  have hM := hp.small
  have hM0 := hp.pos
  have hb : (2 : Int) ^ 40 < 2 ^ 190 := by decide
  have hb2 : (2 : Int) * 2 ^ 40 < 2 ^ 200 := by decide
  have hdbl := fun (z : Int) (h0 : 0 ≤ z) (h1 : z < M) => doubled_r hw n (H := H) h0 h1 (by omega)
  have hadd := fun (z : Int) (h0 : 0 ≤ z) (h1 : z < M) => add_r hw (n + 2) (H := H) (x := z) (y := x) ⟨h0, by omega⟩ ⟨hx.1, by omega⟩
  have htak := fun (z : Int) (h0 : 0 ≤ z) (h1 : z < 2 * M) => taken_r hw n (H := H) (x := z) (y := M) ⟨h0, by omega⟩ hp.sm
  have hmk : mkL false [] H = some (.lst [], H) := mkL_f (by simp)
  rw [callM_succ]
  show runB (callM PT (n + 3)) F_scaled_rest [.lst (row (2 ^ w) x), .lst (row (2 ^ w) M), .int w, .int limb] H = _
  refine runB_wp rfl ?_
  show Wp _ b_scaled_rest [.lst (row (2 ^ w) x), .lst (row (2 ^ w) M), .int w, .int limb, .unset, .unset] H _
  refine wp_asg (v := .lst []) (H1 := H) (by simp only [ev, evs, evl, ex, exs, get0, get1, get2, get3, get4, get5, get6, get7, get8, get9, get10, get11, get12, get13, get14, set0, set1, set2, set3, set4, set5, set6, set7, set8, set9, set10, set11, set12, set13, set14, ar_add, ar_sub, ar_and, ar_or, ar_shr, items_lst, itemV_lst, itemV_box0, itemV_box1, itemV_box2, cmpV_int, cmpV_eqL, cmpV_neL, cmpI_eq, cmpI_ne, cmpI_lt, cmpI_le, cmpI_gt, cmpI_ge, attrV, reduceIte, if_true, if_false, decide_true, decide_false, Bool.not_true, Bool.not_false, Bool.false_eq_true, reduceCtorEq, decide_eq_true_eq, Int.toNat_natCast, Option.map_some, nn, Int.reduceLE, Int.reduceToNat, Int.reduceLT, Int.reduceEq, Int.reduceNeg, Int.le_refl, hmk] <;> rfl) ?_
  simp only [set0, set1, set2, set3, set4, set5, set6, set7, set8, set9, set10, set11, set12, set13, set14]
  refine wp_forR (fun j l h => ∃ v, l = [.lst (row (2 ^ w) x), .lst (row (2 ^ w) M), .int w, .int limb, .lst (row (2 ^ w) (limb / 2 ^ (w - j) * x % M)), v] ∧ H = h) (v := .int ((w : Int) - 1)) (vs := [.int (-1), .int (-1)]) (by simp only [ev, evs, evl, ex, exs, get0, get1, get2, get3, get4, get5, get6, get7, get8, get9, get10, get11, get12, get13, get14, set0, set1, set2, set3, set4, set5, set6, set7, set8, set9, set10, set11, set12, set13, set14, ar_add, ar_sub, ar_and, ar_or, ar_shr, items_lst, itemV_lst, itemV_box0, itemV_box1, itemV_box2, cmpV_int, cmpV_eqL, cmpV_neL, cmpI_eq, cmpI_ne, cmpI_lt, cmpI_le, cmpI_gt, cmpI_ge, attrV, reduceIte, if_true, if_false, decide_true, decide_false, Bool.not_true, Bool.not_false, Bool.false_eq_true, reduceCtorEq, decide_eq_true_eq, Int.toNat_natCast, Option.map_some, nn, Int.reduceLE, Int.reduceToNat, Int.reduceLT, Int.reduceEq, Int.reduceNeg, Int.le_refl] <;> rfl) (by simp only [ev, evs, evl, ex, exs, get0, get1, get2, get3, get4, get5, get6, get7, get8, get9, get10, get11, get12, get13, get14, set0, set1, set2, set3, set4, set5, set6, set7, set8, set9, set10, set11, set12, set13, set14, ar_add, ar_sub, ar_and, ar_or, ar_shr, items_lst, itemV_lst, itemV_box0, itemV_box1, itemV_box2, cmpV_int, cmpV_eqL, cmpV_neL, cmpI_eq, cmpI_ne, cmpI_lt, cmpI_le, cmpI_gt, cmpI_ge, attrV, reduceIte, if_true, if_false, decide_true, decide_false, Bool.not_true, Bool.not_false, Bool.false_eq_true, reduceCtorEq, decide_eq_true_eq, Int.toNat_natCast, Option.map_some, nn, Int.reduceLE, Int.reduceToNat, Int.reduceLT, Int.reduceEq, Int.reduceNeg, Int.le_refl] <;> rfl) (rangeOf3 (by omega)) ?_ ?_ ?_
  · refine ⟨.unset, ?_, rfl⟩
    rw [Nat.sub_zero, Int.ediv_eq_zero_of_lt hl.1 hl.2, Int.zero_mul, Int.zero_emod]; rfl
  · rintro j v _ _ hj ⟨v0, rfl, rfl⟩
    obtain ⟨hjw, rfl⟩ := downs_get _ _ _ hj
    obtain ⟨s, hs⟩ : ∃ s, w - 1 - j = s := ⟨_, rfl⟩
    have e1 : w - j = s + 1 := by omega
    have e2 : w - (j + 1) = s := by omega
    rw [hs, e1, e2]
    have hP : (0 : Int) < 2 ^ s := Int.pow_pos (by omega)
    have hdd : limb / 2 ^ (s + 1) = limb / 2 ^ s / 2 := by rw [Int.pow_succ, Int.ediv_ediv_of_nonneg (Int.le_of_lt hP)]
    generalize hF : limb / 2 ^ (s + 1) * x % M = F
    have hF0 : 0 ≤ F := by rw [← hF]; exact (hp.mod_rng _).1
    have hF1 : F < M := by rw [← hF]; exact (hp.mod_rng _).2
    have hcF : Cg M F (limb / 2 ^ (s + 1) * x) := by rw [← hF]; exact Cg.mod M _
    have r2 := hp.mod_rng (2 * F)
    simp only [set0, set1, set2, set3, set4, set5, set6, set7, set8, set9, set10, set11, set12, set13, set14]
    refine wp_asg (v := .lst (row (2 ^ w) (2 * F % M))) (H1 := H) (by simp only [ev, evs, evl, ex, exs, get0, get1, get2, get3, get4, get5, get6, get7, get8, get9, get10, get11, get12, get13, get14, set0, set1, set2, set3, set4, set5, set6, set7, set8, set9, set10, set11, set12, set13, set14, ar_add, ar_sub, ar_and, ar_or, ar_shr, items_lst, itemV_lst, itemV_box0, itemV_box1, itemV_box2, cmpV_int, cmpV_eqL, cmpV_neL, cmpI_eq, cmpI_ne, cmpI_lt, cmpI_le, cmpI_gt, cmpI_ge, attrV, reduceIte, if_true, if_false, decide_true, decide_false, Bool.not_true, Bool.not_false, Bool.false_eq_true, reduceCtorEq, decide_eq_true_eq, Int.toNat_natCast, Option.map_some, nn, Int.reduceLE, Int.reduceToNat, Int.reduceLT, Int.reduceEq, Int.reduceNeg, Int.le_refl, hdbl F hF0 hF1] <;> rfl) ?_
    simp only [set0, set1, set2, set3, set4, set5, set6, set7, set8, set9, set10, set11, set12, set13, set14]
    have hshr : arith .shr limb (s : Int) = some (limb / 2 ^ s) := ar_shr limb s
    have hc2 : Cg M (2 * F % M) (2 * (limb / 2 ^ (s + 1) * x)) := (Cg.mod M _).trans (Cg.mul (Cg.refl M 2) hcF)
    by_cases hbit : limb / 2 ^ s % 2 = 1
    · have hbt : (limb / 2 ^ s % 2 = 1) = True := eq_true hbit
      refine wp_if_t (H1 := H) (by simp only [ev, evs, evl, ex, exs, get0, get1, get2, get3, get4, get5, get6, get7, get8, get9, get10, get11, get12, get13, get14, set0, set1, set2, set3, set4, set5, set6, set7, set8, set9, set10, set11, set12, set13, set14, ar_add, ar_sub, ar_and, ar_or, ar_shr, items_lst, itemV_lst, itemV_box0, itemV_box1, itemV_box2, cmpV_int, cmpV_eqL, cmpV_neL, cmpI_eq, cmpI_ne, cmpI_lt, cmpI_le, cmpI_gt, cmpI_ge, attrV, reduceIte, if_true, if_false, decide_true, decide_false, Bool.not_true, Bool.not_false, Bool.false_eq_true, reduceCtorEq, decide_eq_true_eq, Int.toNat_natCast, Option.map_some, nn, Int.reduceLE, Int.reduceToNat, Int.reduceLT, Int.reduceEq, Int.reduceNeg, Int.le_refl, hshr, ar_and1, hbt] <;> rfl) ?_
      have hres : (if M ≤ 2 * F % M + x then 2 * F % M + x - M else 2 * F % M + x) = limb / 2 ^ s * x % M := by
        refine Cg.eq (M := M) ?_ (by split <;> omega) (hp.mod_rng _)
        refine Cg.trans (b := 2 * F % M + x) ?_ ?_
        · split
          · exact Cg.of_sub ⟨-1, by grind⟩
          · exact Cg.refl _ _
        · refine (Cg.trans (Cg.add hc2 (Cg.refl M x)) ?_).trans (Cg.mod M _).symm
          have : limb / 2 ^ s = 2 * (limb / 2 ^ (s + 1)) + 1 := by omega
          rw [this]
          exact Cg.of_sub ⟨0, by grind⟩
      refine wp_asg (v := .lst (row (2 ^ w) (limb / 2 ^ s * x % M))) (H1 := H) (by rw [← hres]; simp only [ev, evs, evl, ex, exs, get0, get1, get2, get3, get4, get5, get6, get7, get8, get9, get10, get11, get12, get13, get14, set0, set1, set2, set3, set4, set5, set6, set7, set8, set9, set10, set11, set12, set13, set14, ar_add, ar_sub, ar_and, ar_or, ar_shr, items_lst, itemV_lst, itemV_box0, itemV_box1, itemV_box2, cmpV_int, cmpV_eqL, cmpV_neL, cmpI_eq, cmpI_ne, cmpI_lt, cmpI_le, cmpI_gt, cmpI_ge, attrV, reduceIte, if_true, if_false, decide_true, decide_false, Bool.not_true, Bool.not_false, Bool.false_eq_true, reduceCtorEq, decide_eq_true_eq, Int.toNat_natCast, Option.map_some, nn, Int.reduceLE, Int.reduceToNat, Int.reduceLT, Int.reduceEq, Int.reduceNeg, Int.le_refl, hadd (2 * F % M) r2.1 r2.2, htak (2 * F % M + x) (by omega) (by omega)]) ?_
      exact wp_nil (wp_nil ⟨rfl, .int s, by simp only [ev, evs, evl, ex, exs, get0, get1, get2, get3, get4, get5, get6, get7, get8, get9, get10, get11, get12, get13, get14, set0, set1, set2, set3, set4, set5, set6, set7, set8, set9, set10, set11, set12, set13, set14, ar_add, ar_sub, ar_and, ar_or, ar_shr, items_lst, itemV_lst, itemV_box0, itemV_box1, itemV_box2, cmpV_int, cmpV_eqL, cmpV_neL, cmpI_eq, cmpI_ne, cmpI_lt, cmpI_le, cmpI_gt, cmpI_ge, attrV, reduceIte, if_true, if_false, decide_true, decide_false, Bool.not_true, Bool.not_false, Bool.false_eq_true, reduceCtorEq, decide_eq_true_eq, Int.toNat_natCast, Option.map_some, nn, Int.reduceLE, Int.reduceToNat, Int.reduceLT, Int.reduceEq, Int.reduceNeg, Int.le_refl] <;> rfl, rfl⟩)
    · have hbt : (limb / 2 ^ s % 2 = 1) = False := eq_false hbit
      refine wp_skip (H1 := H) (by simp only [ev, evs, evl, ex, exs, get0, get1, get2, get3, get4, get5, get6, get7, get8, get9, get10, get11, get12, get13, get14, set0, set1, set2, set3, set4, set5, set6, set7, set8, set9, set10, set11, set12, set13, set14, ar_add, ar_sub, ar_and, ar_or, ar_shr, items_lst, itemV_lst, itemV_box0, itemV_box1, itemV_box2, cmpV_int, cmpV_eqL, cmpV_neL, cmpI_eq, cmpI_ne, cmpI_lt, cmpI_le, cmpI_gt, cmpI_ge, attrV, reduceIte, if_true, if_false, decide_true, decide_false, Bool.not_true, Bool.not_false, Bool.false_eq_true, reduceCtorEq, decide_eq_true_eq, Int.toNat_natCast, Option.map_some, nn, Int.reduceLE, Int.reduceToNat, Int.reduceLT, Int.reduceEq, Int.reduceNeg, Int.le_refl, hshr, ar_and1, hbt] <;> rfl) ?_
      have hres : 2 * F % M = limb / 2 ^ s * x % M := by
        refine Cg.eq (M := M) ?_ r2 (hp.mod_rng _)
        refine (Cg.trans hc2 ?_).trans (Cg.mod M _).symm
        have : limb / 2 ^ s = 2 * (limb / 2 ^ (s + 1)) := by omega
        rw [this]
        exact Cg.of_sub ⟨0, by grind⟩
      rw [hres]
      exact wp_nil ⟨rfl, .int s, by simp only [ev, evs, evl, ex, exs, get0, get1, get2, get3, get4, get5, get6, get7, get8, get9, get10, get11, get12, get13, get14, set0, set1, set2, set3, set4, set5, set6, set7, set8, set9, set10, set11, set12, set13, set14, ar_add, ar_sub, ar_and, ar_or, ar_shr, items_lst, itemV_lst, itemV_box0, itemV_box1, itemV_box2, cmpV_int, cmpV_eqL, cmpV_neL, cmpI_eq, cmpI_ne, cmpI_lt, cmpI_le, cmpI_gt, cmpI_ge, attrV, reduceIte, if_true, if_false, decide_true, decide_false, Bool.not_true, Bool.not_false, Bool.false_eq_true, reduceCtorEq, decide_eq_true_eq, Int.toNat_natCast, Option.map_some, nn, Int.reduceLE, Int.reduceToNat, Int.reduceLT, Int.reduceEq, Int.reduceNeg, Int.le_refl] <;> rfl, rfl⟩
  · rintro _ _ ⟨v0, rfl, rfl⟩
    rw [downs_len, Nat.sub_self, Int.pow_zero, Int.ediv_one, Int.mul_comm limb x]
    exact wp_ret (v := .lst (row (2 ^ w) (x * limb % M))) (H1 := H) (by simp only [ev, evs, evl, ex, exs, get0, get1, get2, get3, get4, get5, get6, get7, get8, get9, get10, get11, get12, get13, get14, set0, set1, set2, set3, set4, set5, set6, set7, set8, set9, set10, set11, set12, set13, set14, ar_add, ar_sub, ar_and, ar_or, ar_shr, items_lst, itemV_lst, itemV_box0, itemV_box1, itemV_box2, cmpV_int, cmpV_eqL, cmpV_neL, cmpI_eq, cmpI_ne, cmpI_lt, cmpI_le, cmpI_gt, cmpI_ge, attrV, reduceIte, if_true, if_false, decide_true, decide_false, Bool.not_true, Bool.not_false, Bool.false_eq_true, reduceCtorEq, decide_eq_true_eq, Int.toNat_natCast, Option.map_some, nn, Int.reduceLE, Int.reduceToNat, Int.reduceLT, Int.reduceEq, Int.reduceNeg, Int.le_refl] <;> rfl) gives_lst

theorem mont_rows_v (n : Nat) {H : Hp} {x y z q : Int} (hx : 0 ≤ x ∧ x < M) (hy : 0 ≤ y ∧ y < M) (hz : 0 ≤ z ∧ z < M) (hc : Cg M (z * big w M) (x * y)) (hq : Qok w M q) :
    callM PT (n + 4) 17 [.lst (row (2 ^ w) x), .lst (row (2 ^ w) y), told w M q, .int w] H = some (.val (.lst (row (2 ^ w) z)) H) := by
  have hw := hp.hw
  have hB := B_rng hw
  have hM := hp.small
  have hM0 := hp.pos
  have hL1 := hp.len_pos
  have hL2 := hp.len_le
  have hMb := hp.lt_big
  have hcan : ∀ {a b : Int}, Cg M (a * big w M) (b * big w M) → Cg M a b := fun h => hp.cancel h
  have hadd := fun (ms : List (List Int)) (r m : List Int) (u : Int) => add_row_v hw (n + 2) (H := ⟨ms ++ [r], H.bx⟩) (k := ms.length) (at_ := 0) (rest := r) (m := m) (limb := u) (ms_get _ _)
  have hnrm := fun (ms : List (List Int)) (f : List Int) (hd : Dg (2 ^ w) f) (hl : f.length < 90000) => normal_v (B := 2 ^ w) (by omega) (n + 2) (H := ⟨ms ++ [f], H.bx⟩) (v := .hnd ms.length) (xs := f) (by rw [items_hnd]; exact ms_get _ _) hd hl
  have htak := fun (t : Int) (ht : Sm t) (H' : Hp) => taken_r hp.hw n (H := H') (x := t) (y := M) ht hp.sm
  have hdM := row_dg (B := 2 ^ w) (n := M) (by omega) (by omega)
  have hnM := row_num (B := 2 ^ w) (n := M) (by omega) (by omega)
  have hdx := row_dg (B := 2 ^ w) (n := x) (by omega) hx.1
  have hnx := row_num (B := 2 ^ w) (n := x) (by omega) hx.1
  have hdy := row_dg (B := 2 ^ w) (n := y) (by omega) hy.1
  have hny := row_num (B := 2 ^ w) (n := y) (by omega) hy.1
  have hlx : (row (2 ^ w) x).length ≤ len w M := row_len_le (by omega) hx.1 (by have := hMb; unfold big at this; omega)
  have hly : (row (2 ^ w) y).length ≤ len w M := row_len_le (by omega) hy.1 (by have := hMb; unfold big at this; omega)
  have hpow : arith .shl 1 (w : Int) = some (2 ^ w) := ar_shl1 (by omega)
  have hand : ∀ x, arith .and x (2 ^ w - 1) = some (x % 2 ^ w) := fun x => ar_and x w
  obtain ⟨hq0, hq1, hq2⟩ := hq
  unfold told
  generalize hO : row (2 ^ w) (big w M % M) = O
  generalize hS : row (2 ^ w) (big w M * big w M % M) = S
  have hLen : (row (2 ^ w) M).length = len w M := rfl
  unfold big at hc hcan hMb
  generalize len w M = L at *
  generalize hBe : (2 : Int) ^ w = B at *
  have hP : ∀ j : Nat, 0 < B ^ j := fun j => Int.pow_pos (by omega)
  rw [callM_succ]
  show runB (callM PT (n + 3)) F_mont_rows [.lst (row B x), .lst (row B y), .mont (row B M) q O S, .int w] H = _
  have main : Wp (callM PT (n + 3)) b_mont_rows [.lst (row B x), .lst (row B y), .mont (row B M) q O S, .int w, .unset, .unset, .unset, .unset, .unset] H (fun fl l h => fl = .ret (.lst (row B z)) ∧ ∃ t, h = ⟨H.ms ++ t, H.bx⟩) := by
    refine wp_asg (v := .lst (row B M)) (H1 := H) (by simp only [ev, evs, evl, ex, exs, get0, get1, get2, get3, get4, get5, get6, get7, get8, get9, get10, get11, get12, get13, get14, set0, set1, set2, set3, set4, set5, set6, set7, set8, set9, set10, set11, set12, set13, set14, ar_add, ar_sub, ar_and, ar_or, ar_shr, items_lst, itemV_lst, itemV_box0, itemV_box1, itemV_box2, cmpV_int, cmpV_eqL, cmpV_neL, cmpI_eq, cmpI_ne, cmpI_lt, cmpI_le, cmpI_gt, cmpI_ge, attrV, reduceIte, if_true, if_false, decide_true, decide_false, Bool.not_true, Bool.not_false, Bool.false_eq_true, reduceCtorEq, decide_eq_true_eq, Int.toNat_natCast, Option.map_some, nn, Int.reduceLE, Int.reduceToNat, Int.reduceLT, Int.reduceEq, Int.reduceNeg, Int.le_refl] <;> rfl) ?_
    simp only [set0, set1, set2, set3, set4, set5, set6, set7, set8, set9, set10, set11, set12, set13, set14]
    refine wp_asg2 (v1 := .int L) (v2 := .int (B - 1)) (H1 := H) (H2 := H) (by simp only [ev, evs, evl, ex, exs, get0, get1, get2, get3, get4, get5, get6, get7, get8, get9, get10, get11, get12, get13, get14, set0, set1, set2, set3, set4, set5, set6, set7, set8, set9, set10, set11, set12, set13, set14, ar_add, ar_sub, ar_and, ar_or, ar_shr, items_lst, itemV_lst, itemV_box0, itemV_box1, itemV_box2, cmpV_int, cmpV_eqL, cmpV_neL, cmpI_eq, cmpI_ne, cmpI_lt, cmpI_le, cmpI_gt, cmpI_ge, attrV, reduceIte, if_true, if_false, decide_true, decide_false, Bool.not_true, Bool.not_false, Bool.false_eq_true, reduceCtorEq, decide_eq_true_eq, Int.toNat_natCast, Option.map_some, nn, Int.reduceLE, Int.reduceToNat, Int.reduceLT, Int.reduceEq, Int.reduceNeg, Int.le_refl, hLen] <;> rfl) (by simp only [ev, evs, evl, ex, exs, get0, get1, get2, get3, get4, get5, get6, get7, get8, get9, get10, get11, get12, get13, get14, set0, set1, set2, set3, set4, set5, set6, set7, set8, set9, set10, set11, set12, set13, set14, ar_add, ar_sub, ar_and, ar_or, ar_shr, items_lst, itemV_lst, itemV_box0, itemV_box1, itemV_box2, cmpV_int, cmpV_eqL, cmpV_neL, cmpI_eq, cmpI_ne, cmpI_lt, cmpI_le, cmpI_gt, cmpI_ge, attrV, reduceIte, if_true, if_false, decide_true, decide_false, Bool.not_true, Bool.not_false, Bool.false_eq_true, reduceCtorEq, decide_eq_true_eq, Int.toNat_natCast, Option.map_some, nn, Int.reduceLE, Int.reduceToNat, Int.reduceLT, Int.reduceEq, Int.reduceNeg, Int.le_refl, hpow] <;> rfl) ?_
    simp only [set0, set1, set2, set3, set4, set5, set6, set7, set8, set9, set10, set11, set12, set13, set14]
    have hz0 : (0 : Int) ≤ (L : Int) + 2 ∧ (L : Int) + 2 ≤ 1048576 := by omega
    have hzn : ((L : Int) + 2).toNat = L + 2 := by omega
    have hm1 : mkL true (List.replicate (L + 2) 0) H = some (.hnd H.ms.length, ⟨H.ms ++ [List.replicate (L + 2) 0], H.bx⟩) := mkL_t (by simp; omega)
    refine wp_asg (v := .hnd H.ms.length) (H1 := ⟨H.ms ++ [List.replicate (L + 2) 0], H.bx⟩) (by simp only [ev, evs, evl, ex, exs, get0, get1, get2, get3, get4, get5, get6, get7, get8, get9, get10, get11, get12, get13, get14, set0, set1, set2, set3, set4, set5, set6, set7, set8, set9, set10, set11, set12, set13, set14, ar_add, ar_sub, ar_and, ar_or, ar_shr, items_lst, itemV_lst, itemV_box0, itemV_box1, itemV_box2, cmpV_int, cmpV_eqL, cmpV_neL, cmpI_eq, cmpI_ne, cmpI_lt, cmpI_le, cmpI_gt, cmpI_ge, attrV, reduceIte, if_true, if_false, decide_true, decide_false, Bool.not_true, Bool.not_false, Bool.false_eq_true, reduceCtorEq, decide_eq_true_eq, Int.toNat_natCast, Option.map_some, nn, Int.reduceLE, Int.reduceToNat, Int.reduceLT, Int.reduceEq, Int.reduceNeg, Int.le_refl, hz0, hzn, hm1, and_self] <;> rfl) ?_
    simp only [set0, set1, set2, set3, set4, set5, set6, set7, set8, set9, set10, set11, set12, set13, set14]
    refine wp_forR (fun j l h => ∃ (b : List (List Int)) (r : List Int) (v : V), l = [.lst (row B x), .lst (row B y), .mont (row B M) q O S, .int w, .lst (row B M), .int L, .int (B - 1), .hnd (H.ms ++ b).length, v] ∧ h = ⟨(H.ms ++ b) ++ [r], H.bx⟩ ∧ Dg B r ∧ r.length = L + 2 ∧ num B r < M + y ∧ Cg M (num B r * B ^ j) (num B ((row B x).take j) * y))
      (v := .int L) (vs := []) (by simp only [ev, evs, evl, ex, exs, get0, get1, get2, get3, get4, get5, get6, get7, get8, get9, get10, get11, get12, get13, get14, set0, set1, set2, set3, set4, set5, set6, set7, set8, set9, set10, set11, set12, set13, set14, ar_add, ar_sub, ar_and, ar_or, ar_shr, items_lst, itemV_lst, itemV_box0, itemV_box1, itemV_box2, cmpV_int, cmpV_eqL, cmpV_neL, cmpI_eq, cmpI_ne, cmpI_lt, cmpI_le, cmpI_gt, cmpI_ge, attrV, reduceIte, if_true, if_false, decide_true, decide_false, Bool.not_true, Bool.not_false, Bool.false_eq_true, reduceCtorEq, decide_eq_true_eq, Int.toNat_natCast, Option.map_some, nn, Int.reduceLE, Int.reduceToNat, Int.reduceLT, Int.reduceEq, Int.reduceNeg, Int.le_refl] <;> rfl) (by simp only [ev, evs, evl, ex, exs, get0, get1, get2, get3, get4, get5, get6, get7, get8, get9, get10, get11, get12, get13, get14, set0, set1, set2, set3, set4, set5, set6, set7, set8, set9, set10, set11, set12, set13, set14, ar_add, ar_sub, ar_and, ar_or, ar_shr, items_lst, itemV_lst, itemV_box0, itemV_box1, itemV_box2, cmpV_int, cmpV_eqL, cmpV_neL, cmpI_eq, cmpI_ne, cmpI_lt, cmpI_le, cmpI_gt, cmpI_ge, attrV, reduceIte, if_true, if_false, decide_true, decide_false, Bool.not_true, Bool.not_false, Bool.false_eq_true, reduceCtorEq, decide_eq_true_eq, Int.toNat_natCast, Option.map_some, nn, Int.reduceLE, Int.reduceToNat, Int.reduceLT, Int.reduceEq, Int.reduceNeg, Int.le_refl] <;> rfl) (rangeOf1 (by omega)) ⟨[], List.replicate (L + 2) 0, .unset, by simp, by simp, fun u hu => by rw [(List.mem_replicate.mp hu).2]; omega, by simp, by rw [num_rep]; omega, by rw [num_rep]; simp [num]; exact Cg.refl M 0⟩ ?_ ?_
    · rintro j v _ _ hj ⟨b, r, v0, rfl, rfl, hd, hrl, hlt, hcg⟩
      obtain ⟨hj1, rfl⟩ := ups_get _ _ _ _ hj
      have hjL : j < L := by simpa using hj1
      have hz : (0 : Int) + (j : Int) = (j : Int) := by omega
      generalize hms : H.ms ++ b = ms
      have hr0 := num_nonneg (B := B) (by omega) hd
      have db : 0 ≤ (row B x).getD j 0 ∧ (row B x).getD j 0 < B := by
        by_cases q : j < (row B x).length
        · have := hdx.at (List.getElem?_eq_getElem q)
          simpa [List.getD, q] using this
        · simp [List.getD, List.getElem?_eq_none (Nat.le_of_not_lt q)]; omega
      have hea : ev (callM PT (n + 3)) [.lst (row B x), .lst (row B y), .mont (row B M) q O S, .int w, .lst (row B M), .int L, .int (B - 1), .hnd ms.length, .int j] (.ife (.cmp .lt (.loc 8 28) (.len (.loc 0 29) 30) 32) (.item (.loc 0 33) (.loc 8 34) 35) (.int 0 36) 37) ⟨ms ++ [r], H.bx⟩ = some (.int ((row B x).getD j 0), ⟨ms ++ [r], H.bx⟩) := by
        by_cases q : j < (row B x).length
        · have hq : ((j : Int) < ((row B x).length : Int)) := by omega
          have e2 : (row B x)[j]? = some (row B x)[j] := List.getElem?_eq_getElem q
          have e3 : (row B x).getD j 0 = (row B x)[j] := by simp [List.getD, q]
          simp only [ev, evs, evl, ex, exs, get0, get1, get2, get3, get4, get5, get6, get7, get8, get9, get10, get11, get12, get13, get14, set0, set1, set2, set3, set4, set5, set6, set7, set8, set9, set10, set11, set12, set13, set14, ar_add, ar_sub, ar_and, ar_or, ar_shr, items_lst, itemV_lst, itemV_box0, itemV_box1, itemV_box2, cmpV_int, cmpV_eqL, cmpV_neL, cmpI_eq, cmpI_ne, cmpI_lt, cmpI_le, cmpI_gt, cmpI_ge, attrV, reduceIte, if_true, if_false, decide_true, decide_false, Bool.not_true, Bool.not_false, Bool.false_eq_true, reduceCtorEq, decide_eq_true_eq, Int.toNat_natCast, Option.map_some, nn, Int.reduceLE, Int.reduceToNat, Int.reduceLT, Int.reduceEq, Int.reduceNeg, Int.le_refl, hq, e2, e3]
        · have hq : ¬ ((j : Int) < ((row B x).length : Int)) := by omega
          have e3 : (row B x).getD j 0 = 0 := by simp [List.getD, List.getElem?_eq_none (Nat.le_of_not_lt q)]
          simp only [ev, evs, evl, ex, exs, get0, get1, get2, get3, get4, get5, get6, get7, get8, get9, get10, get11, get12, get13, get14, set0, set1, set2, set3, set4, set5, set6, set7, set8, set9, set10, set11, set12, set13, set14, ar_add, ar_sub, ar_and, ar_or, ar_shr, items_lst, itemV_lst, itemV_box0, itemV_box1, itemV_box2, cmpV_int, cmpV_eqL, cmpV_neL, cmpI_eq, cmpI_ne, cmpI_lt, cmpI_le, cmpI_gt, cmpI_ge, attrV, reduceIte, if_true, if_false, decide_true, decide_false, Bool.not_true, Bool.not_false, Bool.false_eq_true, reduceCtorEq, decide_eq_true_eq, Int.toNat_natCast, Option.map_some, nn, Int.reduceLE, Int.reduceToNat, Int.reduceLT, Int.reduceEq, Int.reduceNeg, Int.le_refl, hq, e3]
      have htake := num_take_getD (B := B) (b := row B x) (j := j)
      generalize (row B x).getD j 0 = aj at *
      have hP2 : B ^ (L + 2) = B ^ L * (B * B) := by rw [Int.pow_succ, Int.pow_succ]; grind
      have hBB : 4 * B ≤ B * B := Int.mul_le_mul_of_nonneg_right (by omega) (by omega)
      have hbb2 : B ^ L * (4 * B) ≤ B ^ L * (B * B) := Int.mul_le_mul_of_nonneg_left hBB (Int.le_of_lt (hP L))
      have hyaj : y * aj ≤ y * (B - 1) := Int.mul_le_mul_of_nonneg_left (by omega) hy.1
      have hyB : y * (B - 1) = y * B - y := by grind
      have hyB2 : y * B < M * B := Int.mul_lt_mul_of_pos_right hy.2 (by omega)
      have hMB : M * B < B ^ L * B := Int.mul_lt_mul_of_pos_right hMb (by omega)
      have h4 : B ^ L * (4 * B) = 4 * (B ^ L * B) := by grind
      have hMleMB : M * 1 ≤ M * B := Int.mul_le_mul_of_nonneg_left (by omega) (by omega)
      have hyaj0 : 0 ≤ y * aj := Int.mul_nonneg hy.1 db.1
      obtain ⟨r1, hc1, hd1, hl1, hn1⟩ := hadd ms r (row B y) aj hd hdy db (by omega) (by omega) (by rw [hny, Int.pow_zero, Int.mul_one, hrl, hP2]; omega)
      rw [hny, Int.pow_zero, Int.mul_one] at hn1
      have hms1 : (⟨(⟨ms ++ [r], H.bx⟩ : Hp).ms.set ms.length r1, (⟨ms ++ [r], H.bx⟩ : Hp).bx⟩ : Hp) = ⟨ms ++ [r1], H.bx⟩ := by simp only [ms_set]
      have hc1 : callM PT (n + 3) 11 [.hnd ms.length, .lst (row B y), .int aj, .int 0, .int w] ⟨ms ++ [r], H.bx⟩ = some (.val .none ⟨ms ++ [r1], H.bx⟩) := by rw [hms1] at hc1; exact hc1
      have hl1p : 0 < r1.length := by omega
      have e1 : r1[0]? = some r1[0] := List.getElem?_eq_getElem hl1p
      have dd := hd1.at e1
      have hsp := drop_digit (B := B) hl1p
      rw [List.drop_zero] at hsp
      generalize hde : r1[0] = d at *
      have hmulq : arith .mul d q = some (d * q) := ar_mul (okM_rng dd.1 (by omega)) (okM_rng hq0 (by omega))
      have hu0 := Int.emod_nonneg (d * q) (b := B) (by omega)
      have hu1 := Int.emod_lt_of_pos (d * q) (b := B) (by omega)
      obtain ⟨t', ht'⟩ := redc_step (B := B) (M := M) (q := q) (t := num B r1) (d := d) (u := d * q % B) (r := num B (r1.drop (0 + 1))) hq2 hsp rfl
      generalize hue : d * q % B = u at *
      have hMu : M * u ≤ M * (B - 1) := Int.mul_le_mul_of_nonneg_left (by omega) (by omega)
      have hMB1 : M * (B - 1) = M * B - M := by grind
      obtain ⟨r2, hc2, hd2, hl2, hn2⟩ := hadd ms r1 (row B M) u hd1 hdM ⟨hu0, hu1⟩ (by omega) (by omega) (by rw [hnM, Int.pow_zero, Int.mul_one, hl1, hrl, hP2]; omega)
      rw [hnM, Int.pow_zero, Int.mul_one, ht'] at hn2
      have hms2 : (⟨(⟨ms ++ [r1], H.bx⟩ : Hp).ms.set ms.length r2, (⟨ms ++ [r1], H.bx⟩ : Hp).bx⟩ : Hp) = ⟨ms ++ [r2], H.bx⟩ := by simp only [ms_set]
      have hc2 : callM PT (n + 3) 11 [.hnd ms.length, .lst (row B M), .int u, .int 0, .int w] ⟨ms ++ [r1], H.bx⟩ = some (.val .none ⟨ms ++ [r2], H.bx⟩) := by rw [hms2] at hc2; exact hc2
      have hhi := high_of (B := B) (by omega) hd2 (j := 1) (t := t') (by omega) (by rw [hn2, Int.pow_succ, Int.pow_zero, Int.one_mul])
      have hmk3 : mkL true (r2.drop 1 ++ [0]) ⟨ms ++ [r2], H.bx⟩ = some (.hnd (ms ++ [r2]).length, ⟨ms ++ [r2] ++ [r2.drop 1 ++ [0]], H.bx⟩) := mkL_t (by simp; omega)
      rw [hz]
      simp only [set0, set1, set2, set3, set4, set5, set6, set7, set8, set9, set10, set11, set12, set13, set14]
      refine wp_exp (H1 := ⟨ms ++ [r1], H.bx⟩) (ev_call5 (ev_loc rfl (by simp)) (ev_loc rfl (by simp)) hea (by simp only [ev, evs, evl, ex, exs, get0, get1, get2, get3, get4, get5, get6, get7, get8, get9, get10, get11, get12, get13, get14, set0, set1, set2, set3, set4, set5, set6, set7, set8, set9, set10, set11, set12, set13, set14, ar_add, ar_sub, ar_and, ar_or, ar_shr, items_lst, itemV_lst, itemV_box0, itemV_box1, itemV_box2, cmpV_int, cmpV_eqL, cmpV_neL, cmpI_eq, cmpI_ne, cmpI_lt, cmpI_le, cmpI_gt, cmpI_ge, attrV, reduceIte, if_true, if_false, decide_true, decide_false, Bool.not_true, Bool.not_false, Bool.false_eq_true, reduceCtorEq, decide_eq_true_eq, Int.toNat_natCast, Option.map_some, nn, Int.reduceLE, Int.reduceToNat, Int.reduceLT, Int.reduceEq, Int.reduceNeg, Int.le_refl] <;> rfl) (ev_loc rfl (by simp)) hc1) ?_
      refine wp_exp (H1 := ⟨ms ++ [r2], H.bx⟩) (by simp only [ev, evs, evl, ex, exs, get0, get1, get2, get3, get4, get5, get6, get7, get8, get9, get10, get11, get12, get13, get14, set0, set1, set2, set3, set4, set5, set6, set7, set8, set9, set10, set11, set12, set13, set14, ar_add, ar_sub, ar_and, ar_or, ar_shr, items_lst, itemV_lst, itemV_box0, itemV_box1, itemV_box2, cmpV_int, cmpV_eqL, cmpV_neL, cmpI_eq, cmpI_ne, cmpI_lt, cmpI_le, cmpI_gt, cmpI_ge, attrV, reduceIte, if_true, if_false, decide_true, decide_false, Bool.not_true, Bool.not_false, Bool.false_eq_true, reduceCtorEq, decide_eq_true_eq, Int.toNat_natCast, Option.map_some, nn, Int.reduceLE, Int.reduceToNat, Int.reduceLT, Int.reduceEq, Int.reduceNeg, Int.le_refl, itemV_hnd, ms_get, e1, hmulq, hand, hue, hc2] <;> rfl) ?_
      refine wp_asg (v := .hnd (ms ++ [r2]).length) (H1 := ⟨ms ++ [r2] ++ [r2.drop 1 ++ [0]], H.bx⟩) (by simp only [ev, evs, evl, ex, exs, get0, get1, get2, get3, get4, get5, get6, get7, get8, get9, get10, get11, get12, get13, get14, set0, set1, set2, set3, set4, set5, set6, set7, set8, set9, set10, set11, set12, set13, set14, ar_add, ar_sub, ar_and, ar_or, ar_shr, items_lst, itemV_lst, itemV_box0, itemV_box1, itemV_box2, cmpV_int, cmpV_eqL, cmpV_neL, cmpI_eq, cmpI_ne, cmpI_lt, cmpI_le, cmpI_gt, cmpI_ge, attrV, reduceIte, if_true, if_false, decide_true, decide_false, Bool.not_true, Bool.not_false, Bool.false_eq_true, reduceCtorEq, decide_eq_true_eq, Int.toNat_natCast, Option.map_some, nn, Int.reduceLE, Int.reduceToNat, Int.reduceLT, Int.reduceEq, Int.reduceNeg, Int.le_refl, items_hnd, ms_get, hmk3, Int.toNat_one] <;> rfl) ?_
      have hnn : num B (r2.drop 1 ++ [0]) = t' := by rw [num_append, hhi]; simp [num]
      refine wp_nil ⟨rfl, b ++ [r2], r2.drop 1 ++ [0], .int j, by simp only [set0, set1, set2, set3, set4, set5, set6, set7, set8, set9, set10, set11, set12, set13, set14]; rw [← hms]; simp [List.append_assoc], by rw [← hms]; simp [List.append_assoc], (hd2.drop 1).append (Dg.cons (by omega) Dg.nil), by simp; omega, ?_, ?_⟩
      · rw [hnn]
        have : B * t' < B * (M + y) := by
          have : B * (M + y) = M * B + y * B := by grind
          omega
        exact Int.lt_of_mul_lt_mul_left this (by omega)
      · rw [hnn, htake, Int.pow_succ]
        have : t' * (B ^ j * B) = (num B r1 + M * u) * B ^ j := by rw [ht']; grind
        rw [this, hn1]
        refine Cg.trans (b := num B r * B ^ j + y * aj * B ^ j) (Cg.of_sub ⟨u * B ^ j, by grind⟩) ?_
        refine Cg.trans (Cg.add hcg (Cg.refl M _)) (Cg.of_sub ⟨0, by grind⟩)
    · rintro _ _ ⟨b, r, v0, rfl, rfl, hd, hrl, hlt, hcg⟩
      have hups : (ups 0 (L : Int).toNat).length = L := by rw [ups_len]; omega
      rw [hups, List.take_of_length_le hlx, hnx] at hcg
      have hr0 := num_nonneg (B := B) (by omega) hd
      have hb2 : (2 : Int) * 2 ^ 40 < 2 ^ 200 := by decide
      have hn1 := hnrm (H.ms ++ b) r hd (by omega)
      have ht1 := htak (num B r) ⟨hr0, by omega⟩ ⟨H.ms ++ b ++ [r], H.bx⟩
      have hres : (if M ≤ num B r then num B r - M else num B r) = z := by
        refine Cg.eq (M := M) (hcan ?_) (by split <;> omega) hz
        refine Cg.trans (Cg.trans (b := num B r * B ^ L) ?_ hcg) hc.symm
        refine Cg.mul ?_ (Cg.refl M _)
        split
        · exact Cg.of_sub ⟨-1, by grind⟩
        · exact Cg.refl _ _
      rw [hres] at ht1
      exact wp_ret (v := .lst (row B z)) (H1 := ⟨H.ms ++ b ++ [r], H.bx⟩) (by simp only [ev, evs, evl, ex, exs, get0, get1, get2, get3, get4, get5, get6, get7, get8, get9, get10, get11, get12, get13, get14, set0, set1, set2, set3, set4, set5, set6, set7, set8, set9, set10, set11, set12, set13, set14, ar_add, ar_sub, ar_and, ar_or, ar_shr, items_lst, itemV_lst, itemV_box0, itemV_box1, itemV_box2, cmpV_int, cmpV_eqL, cmpV_neL, cmpI_eq, cmpI_ne, cmpI_lt, cmpI_le, cmpI_gt, cmpI_ge, attrV, reduceIte, if_true, if_false, decide_true, decide_false, Bool.not_true, Bool.not_false, Bool.false_eq_true, reduceCtorEq, decide_eq_true_eq, Int.toNat_natCast, Option.map_some, nn, Int.reduceLE, Int.reduceToNat, Int.reduceLT, Int.reduceEq, Int.reduceNeg, Int.le_refl, hn1, ht1] <;> rfl) ⟨rfl, b ++ [r], by rw [List.append_assoc]⟩
  obtain ⟨fl, l, h', e, rfl, t, rfl⟩ := main
  exact runB_ret rfl e (by rw [fin_lst]; simp)
end
end Mine

namespace Mine

theorem ar_pow2i {e : Int} (h0 : 0 ≤ e) (h : e ≤ 1000) : arith .pow 2 e = some (2 ^ e.toNat) := by
  have h1 : okM 2 = true := okM_lit (by decide)
  have h2 : (0 : Int) ≤ e ∧ e ≤ 1000 ∧ okM 2 = true := ⟨by omega, by omega, h1⟩
  simp only [arith]
  rw [if_pos h2]
theorem ar_pow64 : arith .pow 2 64 = some (2 ^ 64) := ar_pow2i (by omega) (by omega)
theorem ar_pow40 : arith .pow 2 40 = some (2 ^ 40) := ar_pow2i (by omega) (by omega)
theorem ar_pow16 : arith .pow 2 16 = some (2 ^ 16) := ar_pow2i (by omega) (by omega)
theorem setI_box0 (ms : List (List Int)) (i : Int) (cs : List Int) (st z : Int) : setI ⟨ms, some (i, cs, st)⟩ .box 0 (.int z) = some ⟨ms, some (z, cs, st)⟩ := rfl
theorem setI_box2 (ms : List (List Int)) (i : Int) (cs : List Int) (st z : Int) : setI ⟨ms, some (i, cs, st)⟩ .box 2 (.int z) = some ⟨ms, some (i, cs, z)⟩ := rfl

/-- the box is well made -/
noncomputable def Bok (i st : Int) : Prop := -1 ≤ i ∧ 0 ≤ st ∧ st < 2 ^ 64

theorem draw_v (n : Nat) (ms : List (List Int)) {i st many : Int} (cs : List Int) (hb : Bok i st) (hm : 0 < many) :
    ∃ r i' st', callM PT (n + 1) 23 [.box, .int many] ⟨ms, some (i, cs, st)⟩ = some (.val (.int r) ⟨ms, some (i', cs, st')⟩) ∧ 0 ≤ r ∧ r < many ∧ Bok i' st' := by
  have main : Wp (callM PT n) b_law_draw [.box, .int many] ⟨ms, some (i, cs, st)⟩ (fun fl l h => ∃ r i' st', fl = .ret (.int r) ∧ h = ⟨ms, some (i', cs, st')⟩ ∧ 0 ≤ r ∧ r < many ∧ Bok i' st') := by
    obtain ⟨hb1, hb2, hb3⟩ := hb
    have hmod : ∀ t, arith .mod t many = some (t % many) := fun t => ar_mod hm
    have hmr : ∀ t : Int, 0 ≤ t % many ∧ t % many < many := fun t => ⟨Int.emod_nonneg _ (by omega), Int.emod_lt_of_pos _ hm⟩
    refine wp_asgI (x := .int (i + 1)) (bv := .box) (kk := 0) (H1 := ⟨ms, some (i, cs, st)⟩) (H2 := ⟨ms, some (i, cs, st)⟩) (by simp only [ev, evs, evl, ex, exs, get0, get1, get2, get3, get4, get5, get6, get7, get8, get9, get10, get11, get12, get13, get14, set0, set1, set2, set3, set4, set5, set6, set7, set8, set9, set10, set11, set12, set13, set14, ar_add, ar_sub, ar_and, ar_or, ar_shr, items_lst, itemV_lst, itemV_box0, itemV_box1, itemV_box2, cmpV_int, cmpV_eqL, cmpV_neL, cmpI_eq, cmpI_ne, cmpI_lt, cmpI_le, cmpI_gt, cmpI_ge, attrV, reduceIte, if_true, if_false, decide_true, decide_false, Bool.not_true, Bool.not_false, Bool.false_eq_true, reduceCtorEq, decide_eq_true_eq, Int.toNat_natCast, Option.map_some, nn, Int.reduceLE, Int.reduceToNat, Int.reduceLT, Int.reduceEq, Int.reduceNeg, Int.le_refl] <;> rfl) rfl (by simp only [ev, evs, evl, ex, exs, get0, get1, get2, get3, get4, get5, get6, get7, get8, get9, get10, get11, get12, get13, get14, set0, set1, set2, set3, set4, set5, set6, set7, set8, set9, set10, set11, set12, set13, set14, ar_add, ar_sub, ar_and, ar_or, ar_shr, items_lst, itemV_lst, itemV_box0, itemV_box1, itemV_box2, cmpV_int, cmpV_eqL, cmpV_neL, cmpI_eq, cmpI_ne, cmpI_lt, cmpI_le, cmpI_gt, cmpI_ge, attrV, reduceIte, if_true, if_false, decide_true, decide_false, Bool.not_true, Bool.not_false, Bool.false_eq_true, reduceCtorEq, decide_eq_true_eq, Int.toNat_natCast, Option.map_some, nn, Int.reduceLE, Int.reduceToNat, Int.reduceLT, Int.reduceEq, Int.reduceNeg, Int.le_refl] <;> rfl) (setI_box0 ..) ?_
    by_cases hi : i + 1 < (cs.length : Int)
    · have hlt : (i + 1).toNat < cs.length := by omega
      have e1 : cs[(i + 1).toNat]? = some cs[(i + 1).toNat] := List.getElem?_eq_getElem hlt
      have h0 : ((0 : Int) ≤ i + 1) = True := by simp; omega
      generalize cs[(i + 1).toNat] = c at e1
      refine wp_if_t (H1 := ⟨ms, some (i + 1, cs, st)⟩) (by simp only [ev, evs, evl, ex, exs, get0, get1, get2, get3, get4, get5, get6, get7, get8, get9, get10, get11, get12, get13, get14, set0, set1, set2, set3, set4, set5, set6, set7, set8, set9, set10, set11, set12, set13, set14, ar_add, ar_sub, ar_and, ar_or, ar_shr, items_lst, itemV_lst, itemV_box0, itemV_box1, itemV_box2, cmpV_int, cmpV_eqL, cmpV_neL, cmpI_eq, cmpI_ne, cmpI_lt, cmpI_le, cmpI_gt, cmpI_ge, attrV, reduceIte, if_true, if_false, decide_true, decide_false, Bool.not_true, Bool.not_false, Bool.false_eq_true, reduceCtorEq, decide_eq_true_eq, Int.toNat_natCast, Option.map_some, nn, Int.reduceLE, Int.reduceToNat, Int.reduceLT, Int.reduceEq, Int.reduceNeg, Int.le_refl, hi] <;> rfl) ?_
      by_cases hc : c < 0
      · exact wp_ret (v := .int (-c % many)) (H1 := ⟨ms, some (i + 1, cs, st)⟩) (by simp only [ev, evs, evl, ex, exs, get0, get1, get2, get3, get4, get5, get6, get7, get8, get9, get10, get11, get12, get13, get14, set0, set1, set2, set3, set4, set5, set6, set7, set8, set9, set10, set11, set12, set13, set14, ar_add, ar_sub, ar_and, ar_or, ar_shr, items_lst, itemV_lst, itemV_box0, itemV_box1, itemV_box2, cmpV_int, cmpV_eqL, cmpV_neL, cmpI_eq, cmpI_ne, cmpI_lt, cmpI_le, cmpI_gt, cmpI_ge, attrV, reduceIte, if_true, if_false, decide_true, decide_false, Bool.not_true, Bool.not_false, Bool.false_eq_true, reduceCtorEq, decide_eq_true_eq, Int.toNat_natCast, Option.map_some, nn, Int.reduceLE, Int.reduceToNat, Int.reduceLT, Int.reduceEq, Int.reduceNeg, Int.le_refl, h0, e1, hmod, hc] <;> rfl) ⟨_, _, _, rfl, rfl, (hmr _).1, (hmr _).2, by omega, hb2, hb3⟩
      · exact wp_ret (v := .int (c % many)) (H1 := ⟨ms, some (i + 1, cs, st)⟩) (by simp only [ev, evs, evl, ex, exs, get0, get1, get2, get3, get4, get5, get6, get7, get8, get9, get10, get11, get12, get13, get14, set0, set1, set2, set3, set4, set5, set6, set7, set8, set9, set10, set11, set12, set13, set14, ar_add, ar_sub, ar_and, ar_or, ar_shr, items_lst, itemV_lst, itemV_box0, itemV_box1, itemV_box2, cmpV_int, cmpV_eqL, cmpV_neL, cmpI_eq, cmpI_ne, cmpI_lt, cmpI_le, cmpI_gt, cmpI_ge, attrV, reduceIte, if_true, if_false, decide_true, decide_false, Bool.not_true, Bool.not_false, Bool.false_eq_true, reduceCtorEq, decide_eq_true_eq, Int.toNat_natCast, Option.map_some, nn, Int.reduceLE, Int.reduceToNat, Int.reduceLT, Int.reduceEq, Int.reduceNeg, Int.le_refl, h0, e1, hmod, hc] <;> rfl) ⟨_, _, _, rfl, rfl, (hmr _).1, (hmr _).2, by omega, hb2, hb3⟩
    · refine wp_skip (H1 := ⟨ms, some (i + 1, cs, st)⟩) (by simp only [ev, evs, evl, ex, exs, get0, get1, get2, get3, get4, get5, get6, get7, get8, get9, get10, get11, get12, get13, get14, set0, set1, set2, set3, set4, set5, set6, set7, set8, set9, set10, set11, set12, set13, set14, ar_add, ar_sub, ar_and, ar_or, ar_shr, items_lst, itemV_lst, itemV_box0, itemV_box1, itemV_box2, cmpV_int, cmpV_eqL, cmpV_neL, cmpI_eq, cmpI_ne, cmpI_lt, cmpI_le, cmpI_gt, cmpI_ge, attrV, reduceIte, if_true, if_false, decide_true, decide_false, Bool.not_true, Bool.not_false, Bool.false_eq_true, reduceCtorEq, decide_eq_true_eq, Int.toNat_natCast, Option.map_some, nn, Int.reduceLE, Int.reduceToNat, Int.reduceLT, Int.reduceEq, Int.reduceNeg, Int.le_refl, hi] <;> rfl) ?_
      have h64 : (2 : Int) ^ 64 = 18446744073709551616 := by decide
      have hm1 : arith .mul st 6364136223846793005 = some (st * 6364136223846793005) := ar_mul (okM_rng hb2 (by omega)) (okM_lit (by decide))
      have hmod64 : ∀ t, arith .mod t (2 ^ 64) = some (t % 2 ^ 64) := fun t => ar_mod (by omega)
      have hs0 := Int.emod_nonneg (st * 6364136223846793005 + 1442695040888963407 + (i + 1)) (b := 2 ^ 64) (by omega)
      have hs1 := Int.emod_lt_of_pos (st * 6364136223846793005 + 1442695040888963407 + (i + 1)) (b := 2 ^ 64) (by omega)
      refine wp_asgI (x := .int ((st * 6364136223846793005 + 1442695040888963407 + (i + 1)) % 2 ^ 64)) (bv := .box) (kk := 2) (H1 := ⟨ms, some (i + 1, cs, st)⟩) (H2 := ⟨ms, some (i + 1, cs, st)⟩) (by simp only [ev, evs, evl, ex, exs, get0, get1, get2, get3, get4, get5, get6, get7, get8, get9, get10, get11, get12, get13, get14, set0, set1, set2, set3, set4, set5, set6, set7, set8, set9, set10, set11, set12, set13, set14, ar_add, ar_sub, ar_and, ar_or, ar_shr, items_lst, itemV_lst, itemV_box0, itemV_box1, itemV_box2, cmpV_int, cmpV_eqL, cmpV_neL, cmpI_eq, cmpI_ne, cmpI_lt, cmpI_le, cmpI_gt, cmpI_ge, attrV, reduceIte, if_true, if_false, decide_true, decide_false, Bool.not_true, Bool.not_false, Bool.false_eq_true, reduceCtorEq, decide_eq_true_eq, Int.toNat_natCast, Option.map_some, nn, Int.reduceLE, Int.reduceToNat, Int.reduceLT, Int.reduceEq, Int.reduceNeg, Int.le_refl, hm1, ar_pow64, hmod64] <;> rfl) rfl (by simp only [ev, evs, evl, ex, exs, get0, get1, get2, get3, get4, get5, get6, get7, get8, get9, get10, get11, get12, get13, get14, set0, set1, set2, set3, set4, set5, set6, set7, set8, set9, set10, set11, set12, set13, set14, ar_add, ar_sub, ar_and, ar_or, ar_shr, items_lst, itemV_lst, itemV_box0, itemV_box1, itemV_box2, cmpV_int, cmpV_eqL, cmpV_neL, cmpI_eq, cmpI_ne, cmpI_lt, cmpI_le, cmpI_gt, cmpI_ge, attrV, reduceIte, if_true, if_false, decide_true, decide_false, Bool.not_true, Bool.not_false, Bool.false_eq_true, reduceCtorEq, decide_eq_true_eq, Int.toNat_natCast, Option.map_some, nn, Int.reduceLE, Int.reduceToNat, Int.reduceLT, Int.reduceEq, Int.reduceNeg, Int.le_refl] <;> rfl) (setI_box2 ..) ?_
      generalize (st * 6364136223846793005 + 1442695040888963407 + (i + 1)) % 2 ^ 64 = s at hs0 hs1 ⊢
      by_cases hmm : many < 2 ^ 40
      · have hd : arith .fdiv s (2 ^ 16) = some (s / 2 ^ 16) := ar_fdiv (by decide) (okM_lit (by decide))
        exact wp_ret (v := .int (s / 2 ^ 16 % many)) (H1 := ⟨ms, some (i + 1, cs, s)⟩) (by simp only [ev, evs, evl, ex, exs, get0, get1, get2, get3, get4, get5, get6, get7, get8, get9, get10, get11, get12, get13, get14, set0, set1, set2, set3, set4, set5, set6, set7, set8, set9, set10, set11, set12, set13, set14, ar_add, ar_sub, ar_and, ar_or, ar_shr, items_lst, itemV_lst, itemV_box0, itemV_box1, itemV_box2, cmpV_int, cmpV_eqL, cmpV_neL, cmpI_eq, cmpI_ne, cmpI_lt, cmpI_le, cmpI_gt, cmpI_ge, attrV, reduceIte, if_true, if_false, decide_true, decide_false, Bool.not_true, Bool.not_false, Bool.false_eq_true, reduceCtorEq, decide_eq_true_eq, Int.toNat_natCast, Option.map_some, nn, Int.reduceLE, Int.reduceToNat, Int.reduceLT, Int.reduceEq, Int.reduceNeg, Int.le_refl, ar_pow40, ar_pow16, hmm, hd, hmod] <;> rfl) ⟨_, _, _, rfl, rfl, (hmr _).1, (hmr _).2, by omega, hs0, hs1⟩
      · have a1 : arith .mul s (2 ^ 64) = some (s * 2 ^ 64) := ar_mul (okM_rng hs0 (by omega)) (okM_lit (by decide))
        have a2 : arith .fdiv s 3 = some (s / 3) := ar_fdiv (by decide) (okM_lit (by decide))
        have a3 : arith .mul (s * 2 ^ 64 + s / 3) (2 ^ 40) = some ((s * 2 ^ 64 + s / 3) * 2 ^ 40) := ar_mul (okM_rng (by omega) (by omega)) (okM_lit (by decide))
        exact wp_ret (v := .int ((s * 2 ^ 64 + s / 3) * 2 ^ 40 % many)) (H1 := ⟨ms, some (i + 1, cs, s)⟩) (by simp only [ev, evs, evl, ex, exs, get0, get1, get2, get3, get4, get5, get6, get7, get8, get9, get10, get11, get12, get13, get14, set0, set1, set2, set3, set4, set5, set6, set7, set8, set9, set10, set11, set12, set13, set14, ar_add, ar_sub, ar_and, ar_or, ar_shr, items_lst, itemV_lst, itemV_box0, itemV_box1, itemV_box2, cmpV_int, cmpV_eqL, cmpV_neL, cmpI_eq, cmpI_ne, cmpI_lt, cmpI_le, cmpI_gt, cmpI_ge, attrV, reduceIte, if_true, if_false, decide_true, decide_false, Bool.not_true, Bool.not_false, Bool.false_eq_true, reduceCtorEq, decide_eq_true_eq, Int.toNat_natCast, Option.map_some, nn, Int.reduceLE, Int.reduceToNat, Int.reduceLT, Int.reduceEq, Int.reduceNeg, Int.le_refl, ar_pow40, ar_pow64, hmm, a1, a2, a3, hmod] <;> rfl) ⟨_, _, _, rfl, rfl, (hmr _).1, (hmr _).2, by omega, hs0, hs1⟩
  obtain ⟨fl, l, h', e, r, i', st', rfl, rfl, h1, h2, h3⟩ := main
  refine ⟨r, i', st', ?_, h1, h2, h3⟩
  rw [callM_succ]
  show runB (callM PT n) F_law_draw [.box, .int many] ⟨ms, some (i, cs, st)⟩ = _
  exact runB_ret rfl e (by rw [fin_int]; simp)

theorem size_v {w : Nat} (hw : 2 ≤ w ∧ w ≤ 9) (n : Nat) (ms : List (List Int)) {i st : Int} (cs : List Int) (hb : Bok i st) {most : Nat} (hm : 1 ≤ most ∧ most ≤ 8) :
    ∃ r i' st', callM PT (n + 2) 24 [.box, .int w, .int most] ⟨ms, some (i, cs, st)⟩ = some (.val (.int r) ⟨ms, some (i', cs, st')⟩) ∧ 0 ≤ r ∧ r ≤ 2 ^ (w * most) ∧ Bok i' st' := by
  have main : Wp (callM PT (n + 1)) b_law_size [.box, .int w, .int most, .unset, .unset] ⟨ms, some (i, cs, st)⟩ (fun fl l h => ∃ r i' st', fl = .ret (.int r) ∧ h = ⟨ms, some (i', cs, st')⟩ ∧ 0 ≤ r ∧ r ≤ 2 ^ (w * most) ∧ Bok i' st') := by
    obtain ⟨r1, i1, s1, h1, a1, a2, b1⟩ := draw_v n ms cs hb (many := most) (by omega)
    obtain ⟨lb, rfl⟩ : ∃ k : Nat, r1 = k := ⟨r1.toNat, by omega⟩
    refine wp_asg (v := .int ((lb + 1 : Nat) : Int)) (H1 := ⟨ms, some (i1, cs, s1)⟩) (by simp only [ev, evs, evl, ex, exs, get0, get1, get2, get3, get4, get5, get6, get7, get8, get9, get10, get11, get12, get13, get14, set0, set1, set2, set3, set4, set5, set6, set7, set8, set9, set10, set11, set12, set13, set14, ar_add, ar_sub, ar_and, ar_or, ar_shr, items_lst, itemV_lst, itemV_box0, itemV_box1, itemV_box2, cmpV_int, cmpV_eqL, cmpV_neL, cmpI_eq, cmpI_ne, cmpI_lt, cmpI_le, cmpI_gt, cmpI_ge, attrV, reduceIte, if_true, if_false, decide_true, decide_false, Bool.not_true, Bool.not_false, Bool.false_eq_true, reduceCtorEq, decide_eq_true_eq, Int.toNat_natCast, Option.map_some, nn, Int.reduceLE, Int.reduceToNat, Int.reduceLT, Int.reduceEq, Int.reduceNeg, Int.le_refl, h1, Int.natCast_add, Int.natCast_one, Int.cast_ofNat_Int]; rw [Int.add_comm]) ?_
    simp only [set0, set1, set2, set3, set4, set5, set6, set7, set8, set9, set10, set11, set12, set13, set14]
    obtain ⟨f, i2, s2, h2, c1, c2, b2⟩ := draw_v n ms cs b1 (many := 8) (by omega)
    refine wp_asg (v := .int f) (H1 := ⟨ms, some (i2, cs, s2)⟩) (by simp only [ev, evs, evl, ex, exs, get0, get1, get2, get3, get4, get5, get6, get7, get8, get9, get10, get11, get12, get13, get14, set0, set1, set2, set3, set4, set5, set6, set7, set8, set9, set10, set11, set12, set13, set14, ar_add, ar_sub, ar_and, ar_or, ar_shr, items_lst, itemV_lst, itemV_box0, itemV_box1, itemV_box2, cmpV_int, cmpV_eqL, cmpV_neL, cmpI_eq, cmpI_ne, cmpI_lt, cmpI_le, cmpI_gt, cmpI_ge, attrV, reduceIte, if_true, if_false, decide_true, decide_false, Bool.not_true, Bool.not_false, Bool.false_eq_true, reduceCtorEq, decide_eq_true_eq, Int.toNat_natCast, Option.map_some, nn, Int.reduceLE, Int.reduceToNat, Int.reduceLT, Int.reduceEq, Int.reduceNeg, Int.le_refl, h2] <;> rfl) ?_
    simp only [set0, set1, set2, set3, set4, set5, set6, set7, set8, set9, set10, set11, set12, set13, set14]
    have hlb : lb + 1 ≤ most := by omega
    generalize hl : lb + 1 = l at *
    have hl1 : 1 ≤ l := by omega
    have hwl : w * l ≤ w * most := Nat.mul_le_mul_left w hlb
    have hwm : w * most ≤ 72 := Nat.le_trans (Nat.mul_le_mul hw.2 hm.2) (by decide)
    have hwl2 : 2 ≤ w * l := by
      have : 2 * 1 ≤ w * l := Nat.mul_le_mul hw.1 hl1
      omega
    have hpl : (2 : Int) ^ (w * l) ≤ 2 ^ (w * most) := ipow_mono (by omega) hwl
    have h4 : (2 : Int) ^ 2 ≤ 2 ^ (w * l) := ipow_mono (by omega) hwl2
    have h4' : (2 : Int) ^ 2 = 4 := by decide
    have hmul : arith .mul (w : Int) (l : Int) = some ((w * l : Nat) : Int) := by
      rw [ar_mul (okM_rng (by omega) (by omega)) (okM_rng (by omega) (by omega))]; simp
    have hpow : arith .pow 2 ((w * l : Nat) : Int) = some (2 ^ (w * l)) := ar_pow2 (by omega)
    by_cases q1 : f < 2
    · exact wp_if_t (H1 := ⟨ms, some (i2, cs, s2)⟩) (by simp only [ev, evs, evl, ex, exs, get0, get1, get2, get3, get4, get5, get6, get7, get8, get9, get10, get11, get12, get13, get14, set0, set1, set2, set3, set4, set5, set6, set7, set8, set9, set10, set11, set12, set13, set14, ar_add, ar_sub, ar_and, ar_or, ar_shr, items_lst, itemV_lst, itemV_box0, itemV_box1, itemV_box2, cmpV_int, cmpV_eqL, cmpV_neL, cmpI_eq, cmpI_ne, cmpI_lt, cmpI_le, cmpI_gt, cmpI_ge, attrV, reduceIte, if_true, if_false, decide_true, decide_false, Bool.not_true, Bool.not_false, Bool.false_eq_true, reduceCtorEq, decide_eq_true_eq, Int.toNat_natCast, Option.map_some, nn, Int.reduceLE, Int.reduceToNat, Int.reduceLT, Int.reduceEq, Int.reduceNeg, Int.le_refl, q1] <;> rfl) (wp_ret (v := .int f) (H1 := ⟨ms, some (i2, cs, s2)⟩) (by simp only [ev, evs, evl, ex, exs, get0, get1, get2, get3, get4, get5, get6, get7, get8, get9, get10, get11, get12, get13, get14, set0, set1, set2, set3, set4, set5, set6, set7, set8, set9, set10, set11, set12, set13, set14, ar_add, ar_sub, ar_and, ar_or, ar_shr, items_lst, itemV_lst, itemV_box0, itemV_box1, itemV_box2, cmpV_int, cmpV_eqL, cmpV_neL, cmpI_eq, cmpI_ne, cmpI_lt, cmpI_le, cmpI_gt, cmpI_ge, attrV, reduceIte, if_true, if_false, decide_true, decide_false, Bool.not_true, Bool.not_false, Bool.false_eq_true, reduceCtorEq, decide_eq_true_eq, Int.toNat_natCast, Option.map_some, nn, Int.reduceLE, Int.reduceToNat, Int.reduceLT, Int.reduceEq, Int.reduceNeg, Int.le_refl] <;> rfl) ⟨_, _, _, rfl, rfl, c1, by omega, b2⟩)
    · refine wp_skip (H1 := ⟨ms, some (i2, cs, s2)⟩) (by simp only [ev, evs, evl, ex, exs, get0, get1, get2, get3, get4, get5, get6, get7, get8, get9, get10, get11, get12, get13, get14, set0, set1, set2, set3, set4, set5, set6, set7, set8, set9, set10, set11, set12, set13, set14, ar_add, ar_sub, ar_and, ar_or, ar_shr, items_lst, itemV_lst, itemV_box0, itemV_box1, itemV_box2, cmpV_int, cmpV_eqL, cmpV_neL, cmpI_eq, cmpI_ne, cmpI_lt, cmpI_le, cmpI_gt, cmpI_ge, attrV, reduceIte, if_true, if_false, decide_true, decide_false, Bool.not_true, Bool.not_false, Bool.false_eq_true, reduceCtorEq, decide_eq_true_eq, Int.toNat_natCast, Option.map_some, nn, Int.reduceLE, Int.reduceToNat, Int.reduceLT, Int.reduceEq, Int.reduceNeg, Int.le_refl, q1] <;> rfl) ?_
      by_cases q2 : f < 4
      · refine wp_if_t (H1 := ⟨ms, some (i2, cs, s2)⟩) (by simp only [ev, evs, evl, ex, exs, get0, get1, get2, get3, get4, get5, get6, get7, get8, get9, get10, get11, get12, get13, get14, set0, set1, set2, set3, set4, set5, set6, set7, set8, set9, set10, set11, set12, set13, set14, ar_add, ar_sub, ar_and, ar_or, ar_shr, items_lst, itemV_lst, itemV_box0, itemV_box1, itemV_box2, cmpV_int, cmpV_eqL, cmpV_neL, cmpI_eq, cmpI_ne, cmpI_lt, cmpI_le, cmpI_gt, cmpI_ge, attrV, reduceIte, if_true, if_false, decide_true, decide_false, Bool.not_true, Bool.not_false, Bool.false_eq_true, reduceCtorEq, decide_eq_true_eq, Int.toNat_natCast, Option.map_some, nn, Int.reduceLE, Int.reduceToNat, Int.reduceLT, Int.reduceEq, Int.reduceNeg, Int.le_refl, q2] <;> rfl) ?_
        by_cases q3 : f = 2
        · have hpow1 : arith .pow 2 (((w * l : Nat) : Int) - 1) = some (2 ^ (w * l - 1)) := by
            have hlo : 2 ≤ w * l := hwl2
            have hhi : w * l ≤ 72 := Nat.le_trans hwl hwm
            generalize w * l = p at hlo hhi ⊢
            rw [ar_pow2i (by omega) (by omega), show ((p : Int) - 1).toNat = p - 1 by omega]
          have hle : (2 : Int) ^ (w * l - 1) ≤ 2 ^ (w * l) := ipow_mono (by omega) (by omega)
          have hge : (0 : Int) < 2 ^ (w * l - 1) := Int.pow_pos (by omega)
          have q3' : (f = 2) = True := eq_true q3
          exact wp_ret (v := .int (2 ^ (w * l - 1) - 0)) (H1 := ⟨ms, some (i2, cs, s2)⟩) (by simp only [ev, evs, evl, ex, exs, get0, get1, get2, get3, get4, get5, get6, get7, get8, get9, get10, get11, get12, get13, get14, set0, set1, set2, set3, set4, set5, set6, set7, set8, set9, set10, set11, set12, set13, set14, ar_add, ar_sub, ar_and, ar_or, ar_shr, items_lst, itemV_lst, itemV_box0, itemV_box1, itemV_box2, cmpV_int, cmpV_eqL, cmpV_neL, cmpI_eq, cmpI_ne, cmpI_lt, cmpI_le, cmpI_gt, cmpI_ge, attrV, reduceIte, if_true, if_false, decide_true, decide_false, Bool.not_true, Bool.not_false, Bool.false_eq_true, reduceCtorEq, decide_eq_true_eq, Int.toNat_natCast, Option.map_some, nn, Int.reduceLE, Int.reduceToNat, Int.reduceLT, Int.reduceEq, Int.reduceNeg, Int.le_refl, q3', hmul, hpow1] <;> rfl) ⟨_, _, _, rfl, rfl, by omega, by omega, b2⟩
        · have hmul1 : arith .mul (w : Int) ((l : Int) - 1) = some ((w * (l - 1) : Nat) : Int) := by
            rw [ar_mul (okM_rng (by omega) (by omega)) (okM_rng (by omega) (by omega))]
            congr 1
            rw [Int.natCast_mul]
            congr 1
            omega
          have hwl3 : w * (l - 1) + 2 ≤ w * l := by
            obtain ⟨k, rfl⟩ : ∃ k, l = k + 1 := ⟨l - 1, by omega⟩
            rw [Nat.add_sub_cancel, Nat.mul_succ]
            omega
          have hpow1 : arith .pow 2 ((w * (l - 1) : Nat) : Int) = some (2 ^ (w * (l - 1))) := ar_pow2 (by omega)
          have hle : (2 : Int) ^ (w * (l - 1) + 2) ≤ 2 ^ (w * l) := ipow_mono (by omega) hwl3
          rw [Int.pow_add, h4'] at hle
          have hge : (0 : Int) < 2 ^ (w * (l - 1)) := Int.pow_pos (by omega)
          have q3' : (f = 2) = False := eq_false q3
          exact wp_ret (v := .int (2 ^ (w * (l - 1)) - (0 - 1))) (H1 := ⟨ms, some (i2, cs, s2)⟩) (by simp only [ev, evs, evl, ex, exs, get0, get1, get2, get3, get4, get5, get6, get7, get8, get9, get10, get11, get12, get13, get14, set0, set1, set2, set3, set4, set5, set6, set7, set8, set9, set10, set11, set12, set13, set14, ar_add, ar_sub, ar_and, ar_or, ar_shr, items_lst, itemV_lst, itemV_box0, itemV_box1, itemV_box2, cmpV_int, cmpV_eqL, cmpV_neL, cmpI_eq, cmpI_ne, cmpI_lt, cmpI_le, cmpI_gt, cmpI_ge, attrV, reduceIte, if_true, if_false, decide_true, decide_false, Bool.not_true, Bool.not_false, Bool.false_eq_true, reduceCtorEq, decide_eq_true_eq, Int.toNat_natCast, Option.map_some, nn, Int.reduceLE, Int.reduceToNat, Int.reduceLT, Int.reduceEq, Int.reduceNeg, Int.le_refl, q3', hmul1, hpow1] <;> rfl) ⟨_, _, _, rfl, rfl, by omega, by omega, b2⟩
      · refine wp_skip (H1 := ⟨ms, some (i2, cs, s2)⟩) (by simp only [ev, evs, evl, ex, exs, get0, get1, get2, get3, get4, get5, get6, get7, get8, get9, get10, get11, get12, get13, get14, set0, set1, set2, set3, set4, set5, set6, set7, set8, set9, set10, set11, set12, set13, set14, ar_add, ar_sub, ar_and, ar_or, ar_shr, items_lst, itemV_lst, itemV_box0, itemV_box1, itemV_box2, cmpV_int, cmpV_eqL, cmpV_neL, cmpI_eq, cmpI_ne, cmpI_lt, cmpI_le, cmpI_gt, cmpI_ge, attrV, reduceIte, if_true, if_false, decide_true, decide_false, Bool.not_true, Bool.not_false, Bool.false_eq_true, reduceCtorEq, decide_eq_true_eq, Int.toNat_natCast, Option.map_some, nn, Int.reduceLE, Int.reduceToNat, Int.reduceLT, Int.reduceEq, Int.reduceNeg, Int.le_refl, q2] <;> rfl) ?_
        by_cases q3 : f = 4
        · have q3' : (f = 4) = True := eq_true q3
          exact wp_ret (v := .int (2 ^ (w * l) - 1)) (H1 := ⟨ms, some (i2, cs, s2)⟩) (by simp only [ev, evs, evl, ex, exs, get0, get1, get2, get3, get4, get5, get6, get7, get8, get9, get10, get11, get12, get13, get14, set0, set1, set2, set3, set4, set5, set6, set7, set8, set9, set10, set11, set12, set13, set14, ar_add, ar_sub, ar_and, ar_or, ar_shr, items_lst, itemV_lst, itemV_box0, itemV_box1, itemV_box2, cmpV_int, cmpV_eqL, cmpV_neL, cmpI_eq, cmpI_ne, cmpI_lt, cmpI_le, cmpI_gt, cmpI_ge, attrV, reduceIte, if_true, if_false, decide_true, decide_false, Bool.not_true, Bool.not_false, Bool.false_eq_true, reduceCtorEq, decide_eq_true_eq, Int.toNat_natCast, Option.map_some, nn, Int.reduceLE, Int.reduceToNat, Int.reduceLT, Int.reduceEq, Int.reduceNeg, Int.le_refl, q3', hmul, hpow] <;> rfl) ⟨_, _, _, rfl, rfl, by omega, by omega, b2⟩
        · have q3' : (f = 4) = False := eq_false q3
          obtain ⟨r, i3, s3, h3, d1, d2, b3⟩ := draw_v n ms cs b2 (many := 2 ^ (w * l)) (by omega)
          exact wp_ret (v := .int r) (H1 := ⟨ms, some (i3, cs, s3)⟩) (by simp only [ev, evs, evl, ex, exs, get0, get1, get2, get3, get4, get5, get6, get7, get8, get9, get10, get11, get12, get13, get14, set0, set1, set2, set3, set4, set5, set6, set7, set8, set9, set10, set11, set12, set13, set14, ar_add, ar_sub, ar_and, ar_or, ar_shr, items_lst, itemV_lst, itemV_box0, itemV_box1, itemV_box2, cmpV_int, cmpV_eqL, cmpV_neL, cmpI_eq, cmpI_ne, cmpI_lt, cmpI_le, cmpI_gt, cmpI_ge, attrV, reduceIte, if_true, if_false, decide_true, decide_false, Bool.not_true, Bool.not_false, Bool.false_eq_true, reduceCtorEq, decide_eq_true_eq, Int.toNat_natCast, Option.map_some, nn, Int.reduceLE, Int.reduceToNat, Int.reduceLT, Int.reduceEq, Int.reduceNeg, Int.le_refl, q3', hmul, hpow, h3] <;> rfl) ⟨_, _, _, rfl, rfl, d1, by omega, b3⟩
  obtain ⟨fl, l, h', e, r, i', st', rfl, rfl, h1, h2, h3⟩ := main
  refine ⟨r, i', st', ?_, h1, h2, h3⟩
  rw [callM_succ]
  show runB (callM PT (n + 1)) F_law_size [.box, .int w, .int most] ⟨ms, some (i, cs, st)⟩ = _
  exact runB_ret rfl e (by rw [fin_int]; simp)

theorem box_v (n : Nat) (ms : List (List Int)) (xs : List Int) : ∃ st, callM PT (n + 1) 25 [.lst xs, .int 24] ⟨ms, none⟩ = some (.val .box ⟨ms, some (-1, xs.take 24, st)⟩) ∧ 0 ≤ st ∧ st < 2 ^ 64 := by
  have h64 : (2 : Int) ^ 64 = 18446744073709551616 := by decide
  have main : Wp (callM PT n) b_law_box [.lst xs, .int 24, .unset, .unset] ⟨ms, none⟩ (fun fl l h => ∃ st, fl = .ret .box ∧ h = ⟨ms, some (-1, xs.take 24, st)⟩ ∧ 0 ≤ st ∧ st < 2 ^ 64) := by
    refine wp_asg (v := .box) (H1 := ⟨ms, some (-1, xs.take 24, 7)⟩) (by simp only [ev, evs, evl, ex, exs, get0, get1, get2, get3, get4, get5, get6, get7, get8, get9, get10, get11, get12, get13, get14, set0, set1, set2, set3, set4, set5, set6, set7, set8, set9, set10, set11, set12, set13, set14, ar_add, ar_sub, ar_and, ar_or, ar_shr, items_lst, itemV_lst, itemV_box0, itemV_box1, itemV_box2, cmpV_int, cmpV_eqL, cmpV_neL, cmpI_eq, cmpI_ne, cmpI_lt, cmpI_le, cmpI_gt, cmpI_ge, attrV, reduceIte, if_true, if_false, decide_true, decide_false, Bool.not_true, Bool.not_false, Bool.false_eq_true, reduceCtorEq, decide_eq_true_eq, Int.toNat_natCast, Option.map_some, nn, Int.reduceLE, Int.reduceToNat, Int.reduceLT, Int.reduceEq, Int.reduceNeg, Int.le_refl] <;> rfl) ?_
    simp only [set0, set1, set2, set3, set4, set5, set6, set7, set8, set9, set10, set11, set12, set13, set14]
    refine wp_forL (xs := xs.take 24) (fun j l h => ∃ v st, l = [.lst xs, .int 24, v, .box] ∧ h = ⟨ms, some (-1, xs.take 24, st)⟩ ∧ 0 ≤ st ∧ st < 2 ^ 64) (by simp only [ev, evs, evl, ex, exs, get0, get1, get2, get3, get4, get5, get6, get7, get8, get9, get10, get11, get12, get13, get14, set0, set1, set2, set3, set4, set5, set6, set7, set8, set9, set10, set11, set12, set13, set14, ar_add, ar_sub, ar_and, ar_or, ar_shr, items_lst, itemV_lst, itemV_box0, itemV_box1, itemV_box2, cmpV_int, cmpV_eqL, cmpV_neL, cmpI_eq, cmpI_ne, cmpI_lt, cmpI_le, cmpI_gt, cmpI_ge, attrV, reduceIte, if_true, if_false, decide_true, decide_false, Bool.not_true, Bool.not_false, Bool.false_eq_true, reduceCtorEq, decide_eq_true_eq, Int.toNat_natCast, Option.map_some, nn, Int.reduceLE, Int.reduceToNat, Int.reduceLT, Int.reduceEq, Int.reduceNeg, Int.le_refl] <;> rfl) ⟨.unset, 7, rfl, rfl, by omega, by omega⟩ ?_ ?_
    · rintro j c _ _ hj ⟨v0, st, rfl, rfl, h0, h1⟩
      have hm1 : arith .mul st 31 = some (st * 31) := ar_mul (okM_rng h0 (by omega)) (okM_lit (by decide))
      have hmod64 : ∀ t, arith .mod t (2 ^ 64) = some (t % 2 ^ 64) := fun t => ar_mod (by omega)
      simp only [set0, set1, set2, set3, set4, set5, set6, set7, set8, set9, set10, set11, set12, set13, set14]
      by_cases hc : c < 0
      · refine wp_asgI (x := .int ((st * 31 + -c) % 2 ^ 64)) (bv := .box) (kk := 2) (H1 := ⟨ms, some (-1, xs.take 24, st)⟩) (H2 := ⟨ms, some (-1, xs.take 24, st)⟩) (by simp only [ev, evs, evl, ex, exs, get0, get1, get2, get3, get4, get5, get6, get7, get8, get9, get10, get11, get12, get13, get14, set0, set1, set2, set3, set4, set5, set6, set7, set8, set9, set10, set11, set12, set13, set14, ar_add, ar_sub, ar_and, ar_or, ar_shr, items_lst, itemV_lst, itemV_box0, itemV_box1, itemV_box2, cmpV_int, cmpV_eqL, cmpV_neL, cmpI_eq, cmpI_ne, cmpI_lt, cmpI_le, cmpI_gt, cmpI_ge, attrV, reduceIte, if_true, if_false, decide_true, decide_false, Bool.not_true, Bool.not_false, Bool.false_eq_true, reduceCtorEq, decide_eq_true_eq, Int.toNat_natCast, Option.map_some, nn, Int.reduceLE, Int.reduceToNat, Int.reduceLT, Int.reduceEq, Int.reduceNeg, Int.le_refl, hm1, ar_pow64, hmod64, hc] <;> rfl) rfl (by simp only [ev, evs, evl, ex, exs, get0, get1, get2, get3, get4, get5, get6, get7, get8, get9, get10, get11, get12, get13, get14, set0, set1, set2, set3, set4, set5, set6, set7, set8, set9, set10, set11, set12, set13, set14, ar_add, ar_sub, ar_and, ar_or, ar_shr, items_lst, itemV_lst, itemV_box0, itemV_box1, itemV_box2, cmpV_int, cmpV_eqL, cmpV_neL, cmpI_eq, cmpI_ne, cmpI_lt, cmpI_le, cmpI_gt, cmpI_ge, attrV, reduceIte, if_true, if_false, decide_true, decide_false, Bool.not_true, Bool.not_false, Bool.false_eq_true, reduceCtorEq, decide_eq_true_eq, Int.toNat_natCast, Option.map_some, nn, Int.reduceLE, Int.reduceToNat, Int.reduceLT, Int.reduceEq, Int.reduceNeg, Int.le_refl] <;> rfl) (setI_box2 ..) ?_
        exact wp_nil ⟨rfl, .int c, _, rfl, rfl, Int.emod_nonneg _ (by omega), Int.emod_lt_of_pos _ (by omega)⟩
      · refine wp_asgI (x := .int ((st * 31 + c) % 2 ^ 64)) (bv := .box) (kk := 2) (H1 := ⟨ms, some (-1, xs.take 24, st)⟩) (H2 := ⟨ms, some (-1, xs.take 24, st)⟩) (by simp only [ev, evs, evl, ex, exs, get0, get1, get2, get3, get4, get5, get6, get7, get8, get9, get10, get11, get12, get13, get14, set0, set1, set2, set3, set4, set5, set6, set7, set8, set9, set10, set11, set12, set13, set14, ar_add, ar_sub, ar_and, ar_or, ar_shr, items_lst, itemV_lst, itemV_box0, itemV_box1, itemV_box2, cmpV_int, cmpV_eqL, cmpV_neL, cmpI_eq, cmpI_ne, cmpI_lt, cmpI_le, cmpI_gt, cmpI_ge, attrV, reduceIte, if_true, if_false, decide_true, decide_false, Bool.not_true, Bool.not_false, Bool.false_eq_true, reduceCtorEq, decide_eq_true_eq, Int.toNat_natCast, Option.map_some, nn, Int.reduceLE, Int.reduceToNat, Int.reduceLT, Int.reduceEq, Int.reduceNeg, Int.le_refl, hm1, ar_pow64, hmod64, hc] <;> rfl) rfl (by simp only [ev, evs, evl, ex, exs, get0, get1, get2, get3, get4, get5, get6, get7, get8, get9, get10, get11, get12, get13, get14, set0, set1, set2, set3, set4, set5, set6, set7, set8, set9, set10, set11, set12, set13, set14, ar_add, ar_sub, ar_and, ar_or, ar_shr, items_lst, itemV_lst, itemV_box0, itemV_box1, itemV_box2, cmpV_int, cmpV_eqL, cmpV_neL, cmpI_eq, cmpI_ne, cmpI_lt, cmpI_le, cmpI_gt, cmpI_ge, attrV, reduceIte, if_true, if_false, decide_true, decide_false, Bool.not_true, Bool.not_false, Bool.false_eq_true, reduceCtorEq, decide_eq_true_eq, Int.toNat_natCast, Option.map_some, nn, Int.reduceLE, Int.reduceToNat, Int.reduceLT, Int.reduceEq, Int.reduceNeg, Int.le_refl] <;> rfl) (setI_box2 ..) ?_
        exact wp_nil ⟨rfl, .int c, _, rfl, rfl, Int.emod_nonneg _ (by omega), Int.emod_lt_of_pos _ (by omega)⟩
    · rintro _ _ ⟨v0, st, rfl, rfl, h0, h1⟩
      exact wp_ret (v := .box) (H1 := ⟨ms, some (-1, xs.take 24, st)⟩) (by simp only [ev, evs, evl, ex, exs, get0, get1, get2, get3, get4, get5, get6, get7, get8, get9, get10, get11, get12, get13, get14, set0, set1, set2, set3, set4, set5, set6, set7, set8, set9, set10, set11, set12, set13, set14, ar_add, ar_sub, ar_and, ar_or, ar_shr, items_lst, itemV_lst, itemV_box0, itemV_box1, itemV_box2, cmpV_int, cmpV_eqL, cmpV_neL, cmpI_eq, cmpI_ne, cmpI_lt, cmpI_le, cmpI_gt, cmpI_ge, attrV, reduceIte, if_true, if_false, decide_true, decide_false, Bool.not_true, Bool.not_false, Bool.false_eq_true, reduceCtorEq, decide_eq_true_eq, Int.toNat_natCast, Option.map_some, nn, Int.reduceLE, Int.reduceToNat, Int.reduceLT, Int.reduceEq, Int.reduceNeg, Int.le_refl] <;> rfl) ⟨st, rfl, rfl, h0, h1⟩
  obtain ⟨fl, l, h', e, st, rfl, rfl, h1, h2⟩ := main
  refine ⟨st, ?_, h1, h2⟩
  rw [callM_succ]
  show runB (callM PT n) F_law_box [.lst xs, .int 24] ⟨ms, none⟩ = _
  exact runB_ret rfl e (by rw [fin_box]; simp)

section
variable {w : Nat} {M : Int} (hp : Par w M)
include hp
theorem reduced_v (n : Nat) {H : Hp} {y x : Int} (hy : 0 ≤ y ∧ y < M) (hc : Cg M (y * big w M) x) :
    callM PT (n + 2) 27 [.lst (row (2 ^ w) y), .int x, .int M, .int (big w M), .int w] H = some (.val (.bool true) H) := by
  have hM := hp.small
  have hbl := hp.big_lt
  have hbp := hp.big_pos
  have h1 : (2 : Int) ^ 40 < 2 ^ 200 := by decide
  have h2 : (2 : Int) ^ 40 < 2 ^ 256 := by decide
  have h3 : (2 : Int) ^ 50 < 2 ^ 256 := by decide
  have e1 := law_number_r hp.hw n (H := H) (x := y) ⟨hy.1, by omega⟩
  have e2 := law_row_v hp.hw n (H := H) (x := y) ⟨hy.1, by omega⟩
  have e3 : arith .mul y (big w M) = some (y * big w M) := ar_mul (okM_rng hy.1 (by omega)) (okM_rng (by omega) (by omega))
  have e4 : arith .mod (y * big w M - x) M = some 0 := by rw [ar_mod hp.pos]; exact congrArg some hc
  rw [callM_succ]
  show runB (callM PT (n + 1)) F_law_reduced_right [.lst (row (2 ^ w) y), .int x, .int M, .int (big w M), .int w] H = _
  refine runB_wp rfl ?_
  show Wp _ b_law_reduced_right [.lst (row (2 ^ w) y), .int x, .int M, .int (big w M), .int w, .unset] H _
  refine wp_asg (v := .int y) (H1 := H) (by simp only [ev, evs, evl, ex, exs, get0, get1, get2, get3, get4, get5, get6, get7, get8, get9, get10, get11, get12, get13, get14, set0, set1, set2, set3, set4, set5, set6, set7, set8, set9, set10, set11, set12, set13, set14, ar_add, ar_sub, ar_and, ar_or, ar_shr, items_lst, itemV_lst, itemV_box0, itemV_box1, itemV_box2, cmpV_int, cmpV_eqL, cmpV_neL, cmpI_eq, cmpI_ne, cmpI_lt, cmpI_le, cmpI_gt, cmpI_ge, attrV, reduceIte, if_true, if_false, decide_true, decide_false, Bool.not_true, Bool.not_false, Bool.false_eq_true, reduceCtorEq, decide_eq_true_eq, Int.toNat_natCast, Option.map_some, nn, Int.reduceLE, Int.reduceToNat, Int.reduceLT, Int.reduceEq, Int.reduceNeg, Int.le_refl, e1] <;> rfl) ?_
  simp only [set0, set1, set2, set3, set4, set5, set6, set7, set8, set9, set10, set11, set12, set13, set14]
  have hlt := eq_true hy.2
  exact wp_ret (v := .bool true) (H1 := H) (by simp only [ev, evs, evl, ex, exs, get0, get1, get2, get3, get4, get5, get6, get7, get8, get9, get10, get11, get12, get13, get14, set0, set1, set2, set3, set4, set5, set6, set7, set8, set9, set10, set11, set12, set13, set14, ar_add, ar_sub, ar_and, ar_or, ar_shr, items_lst, itemV_lst, itemV_box0, itemV_box1, itemV_box2, cmpV_int, cmpV_eqL, cmpV_neL, cmpI_eq, cmpI_ne, cmpI_lt, cmpI_le, cmpI_gt, cmpI_ge, attrV, reduceIte, if_true, if_false, decide_true, decide_false, Bool.not_true, Bool.not_false, Bool.false_eq_true, reduceCtorEq, decide_eq_true_eq, Int.toNat_natCast, Option.map_some, nn, Int.reduceLE, Int.reduceToNat, Int.reduceLT, Int.reduceEq, Int.reduceNeg, Int.le_refl, e2, e3, e4, hlt] <;> rfl) gives_bool

theorem told_right_v (n : Nat) {H : Hp} {q : Int} (hq : Qok w M q) : callM PT (n + 6) 26 [told w M q, .int M, .lst (row (2 ^ w) M), .int w] H = some (.val (.bool true) H) := by
  have hw := hp.hw
  have hB := B_rng hw
  have hM := hp.small
  have hM0 := hp.pos
  have hbl := hp.big_lt
  have hbp := hp.big_pos
  have hL2 := hp.len_le
  have k1 : (2 : Int) ^ 40 < 2 ^ 200 := by decide
  have k2 : (2 : Int) ^ 50 < 2 ^ 256 := by decide
  have hLw : arith .mul (w : Int) (len w M : Int) = some ((w * len w M : Nat) : Int) := by
    rw [ar_mul (okM_rng (by omega) (by omega)) (okM_rng (by omega) (by omega))]; simp
  have hLb : w * len w M ≤ 1000 := by
    have : w * len w M ≤ 9 * 20 := Nat.mul_le_mul hw.2 hL2
    omega
  have hpowL : arith .pow 2 ((w * len w M : Nat) : Int) = some (big w M) := by rw [ar_pow2 hLb, Par.big_pow]
  have hpow : arith .pow 2 (w : Int) = some (2 ^ w) := ar_pow2 (by omega)
  have hmodM : ∀ t, arith .mod t M = some (t % M) := fun t => ar_mod hM0
  have hmodB : ∀ t, arith .mod t (2 ^ w) = some (t % 2 ^ w) := fun t => ar_mod (by omega)
  have hmul : arith .mul (big w M) (big w M) = some (big w M * big w M) := ar_mul (okM_rng (by omega) (by omega)) (okM_rng (by omega) (by omega))
  have r1 := hp.mod_rng (big w M)
  have r2 := hp.mod_rng (big w M * big w M)
  have e1 := law_row_v hw (n + 4) (H := H) (x := big w M % M) ⟨r1.1, by omega⟩
  have e2 := law_row_v hw (n + 4) (H := H) (x := big w M * big w M % M) ⟨r2.1, by omega⟩
  obtain ⟨r0, hr0⟩ := row_head (B := 2 ^ w) (M := M) (by omega) hM0
  have hd : (row (2 ^ w) M)[0]? = some (M % 2 ^ w) := by rw [hr0]; rfl
  have hm0 := Int.emod_nonneg M (b := 2 ^ w) (by omega)
  have hm1 := Int.emod_lt_of_pos M (b := 2 ^ w) (by omega)
  have hq0 := hq.1
  have hq1 := hq.2.1
  have hmq : arith .mul q (M % 2 ^ w) = some (q * (M % 2 ^ w)) := ar_mul (okM_rng hq0 (by omega)) (okM_rng hm0 (by omega))
  have hqz : (q * (M % 2 ^ w) + 1) % 2 ^ w = 0 := by
    have c : Cg (2 ^ w) (q * (M % 2 ^ w) + 1) 0 := by
      refine Cg.trans (Cg.add (Cg.mul (Cg.refl _ q) (Cg.mod _ M)) (Cg.refl _ 1)) ?_
      have := hq.2.2
      unfold Cg
      simpa using this
    unfold Cg at c
    simpa using c
  have hck := check_ok hp n (H := H) hq
  have q20 := Int.emod_nonneg (q + 2) (b := 2 ^ w) (by omega)
  have q21 := Int.emod_lt_of_pos (q + 2) (b := 2 ^ w) (by omega)
  have hbad := check_bad hp n (H := H) (q := (q + 2) % 2 ^ w) q20 q21 (by
    intro h
    have c1 : Cg (2 ^ w) ((q + 2) * M + 1) 0 := by
      refine Cg.trans (Cg.add (Cg.mul (Cg.mod _ (q + 2)).symm (Cg.refl _ M)) (Cg.refl _ 1)) ?_
      unfold Cg; simpa using h
    obtain ⟨t, ht⟩ := Int.dvd_of_emod_eq_zero c1
    obtain ⟨s, hs⟩ := Int.dvd_of_emod_eq_zero hq.2.2
    have hB4 := B_even hw
    have hodd := hp.odd
    have : 2 * M = 2 ^ w * (t - s) := by grind
    rw [hB4] at this
    have : 2 * M = 4 * (2 ^ (w - 2) * (t - s)) := by rw [this]; grind
    omega)
  have hq0' := eq_true hq0
  have hq1' := eq_true hq1
  rw [callM_succ]
  show runB (callM PT (n + 5)) F_law_told_right [told w M q, .int M, .lst (row (2 ^ w) M), .int w] H = _
  refine runB_wp rfl ?_
  show Wp _ b_law_told_right [told w M q, .int M, .lst (row (2 ^ w) M), .int w, .unset] H _
  refine wp_asg (v := .int (big w M)) (H1 := H) (by simp only [ev, evs, evl, ex, exs, get0, get1, get2, get3, get4, get5, get6, get7, get8, get9, get10, get11, get12, get13, get14, set0, set1, set2, set3, set4, set5, set6, set7, set8, set9, set10, set11, set12, set13, set14, ar_add, ar_sub, ar_and, ar_or, ar_shr, items_lst, itemV_lst, itemV_box0, itemV_box1, itemV_box2, cmpV_int, cmpV_eqL, cmpV_neL, cmpI_eq, cmpI_ne, cmpI_lt, cmpI_le, cmpI_gt, cmpI_ge, attrV, reduceIte, if_true, if_false, decide_true, decide_false, Bool.not_true, Bool.not_false, Bool.false_eq_true, reduceCtorEq, decide_eq_true_eq, Int.toNat_natCast, Option.map_some, nn, Int.reduceLE, Int.reduceToNat, Int.reduceLT, Int.reduceEq, Int.reduceNeg, Int.le_refl, hLw, hpowL] <;> rfl) ?_
  simp only [set0, set1, set2, set3, set4, set5, set6, set7, set8, set9, set10, set11, set12, set13, set14]
  refine wp_skip (H1 := H) (by simp only [ev, evs, evl, ex, exs, get0, get1, get2, get3, get4, get5, get6, get7, get8, get9, get10, get11, get12, get13, get14, set0, set1, set2, set3, set4, set5, set6, set7, set8, set9, set10, set11, set12, set13, set14, ar_add, ar_sub, ar_and, ar_or, ar_shr, items_lst, itemV_lst, itemV_box0, itemV_box1, itemV_box2, cmpV_int, cmpV_eqL, cmpV_neL, cmpI_eq, cmpI_ne, cmpI_lt, cmpI_le, cmpI_gt, cmpI_ge, attrV, reduceIte, if_true, if_false, decide_true, decide_false, Bool.not_true, Bool.not_false, Bool.false_eq_true, reduceCtorEq, decide_eq_true_eq, Int.toNat_natCast, Option.map_some, nn, Int.reduceLE, Int.reduceToNat, Int.reduceLT, Int.reduceEq, Int.reduceNeg, Int.le_refl, hmodM, hmul, e1, e2] <;> rfl) ?_
  refine wp_skip (H1 := H) (by simp only [ev, evs, evl, ex, exs, get0, get1, get2, get3, get4, get5, get6, get7, get8, get9, get10, get11, get12, get13, get14, set0, set1, set2, set3, set4, set5, set6, set7, set8, set9, set10, set11, set12, set13, set14, ar_add, ar_sub, ar_and, ar_or, ar_shr, items_lst, itemV_lst, itemV_box0, itemV_box1, itemV_box2, cmpV_int, cmpV_eqL, cmpV_neL, cmpI_eq, cmpI_ne, cmpI_lt, cmpI_le, cmpI_gt, cmpI_ge, attrV, reduceIte, if_true, if_false, decide_true, decide_false, Bool.not_true, Bool.not_false, Bool.false_eq_true, reduceCtorEq, decide_eq_true_eq, Int.toNat_natCast, Option.map_some, nn, Int.reduceLE, Int.reduceToNat, Int.reduceLT, Int.reduceEq, Int.reduceNeg, Int.le_refl, hpow, hd, hmq, hmodB, hqz, hq0', hq1', hck] <;> rfl) ?_
  exact wp_ret (v := .bool true) (H1 := H) (by simp only [ev, evs, evl, ex, exs, get0, get1, get2, get3, get4, get5, get6, get7, get8, get9, get10, get11, get12, get13, get14, set0, set1, set2, set3, set4, set5, set6, set7, set8, set9, set10, set11, set12, set13, set14, ar_add, ar_sub, ar_and, ar_or, ar_shr, items_lst, itemV_lst, itemV_box0, itemV_box1, itemV_box2, cmpV_int, cmpV_eqL, cmpV_neL, cmpI_eq, cmpI_ne, cmpI_lt, cmpI_le, cmpI_gt, cmpI_ge, attrV, reduceIte, if_true, if_false, decide_true, decide_false, Bool.not_true, Bool.not_false, Bool.false_eq_true, reduceCtorEq, decide_eq_true_eq, Int.toNat_natCast, Option.map_some, nn, Int.reduceLE, Int.reduceToNat, Int.reduceLT, Int.reduceEq, Int.reduceNeg, Int.le_refl, hpow, hmodB, hbad] <;> rfl) gives_bool
end
end Mine

namespace Mine

/-- what the law's names hold behind its first fourteen statements -/
structure LawSt where
  w : Nat
  M : Int
  q : Int
  limb : Int
  x : Int
  y : Int
  number : Int
  z : Int
noncomputable def LawSt.ok (s : LawSt) : Prop := Par s.w s.M ∧ Qok s.w s.M s.q ∧ (0 ≤ s.x ∧ s.x < s.M) ∧ (0 ≤ s.y ∧ s.y < s.M) ∧ (0 ≤ s.number ∧ s.number < s.M * big s.w s.M)
noncomputable def LawSt.loc (s : LawSt) (xs : List Int) : List V :=
  [.lst xs, .box, .int s.limb, .int s.x, .int s.y, .int s.number, .lst (row (2 ^ s.w) s.x), .lst (row (2 ^ s.w) s.y), .lst (row (2 ^ s.w) s.number), .lst (row (2 ^ s.w) s.z), .int s.M, .lst (row (2 ^ s.w) s.M), .int (big s.w s.M), told s.w s.M s.q, .int s.w]

theorem law_body (n : Nat) (xs : List Int) : Wp (callM PT (n + 6)) b_law [.lst xs, .unset, .unset, .unset, .unset, .unset, .unset, .unset, .unset, .unset, .unset, .unset, .unset, .unset, .unset] ⟨[], none⟩
    (fun fl l h => fl = .next ∧ ∃ s : LawSt, s.ok ∧ l = s.loc xs ∧ ∃ b, h = ⟨[], some b⟩) := by
  obtain ⟨st0, hbox, hs0, hs1⟩ := box_v (n + 5) [] xs
  generalize xs.take 24 = cs at hbox
  refine wp_asg (v := .box) (H1 := ⟨[], some (-1, cs, st0)⟩) (by simp only [ev, evs, evl, ex, exs, get0, get1, get2, get3, get4, get5, get6, get7, get8, get9, get10, get11, get12, get13, get14, set0, set1, set2, set3, set4, set5, set6, set7, set8, set9, set10, set11, set12, set13, set14, ar_add, ar_sub, ar_and, ar_or, ar_shr, items_lst, itemV_lst, itemV_box0, itemV_box1, itemV_box2, cmpV_int, cmpV_eqL, cmpV_neL, cmpI_eq, cmpI_ne, cmpI_lt, cmpI_le, cmpI_gt, cmpI_ge, attrV, reduceIte, if_true, if_false, decide_true, decide_false, Bool.not_true, Bool.not_false, Bool.false_eq_true, reduceCtorEq, decide_eq_true_eq, Int.toNat_natCast, Option.map_some, nn, Int.reduceLE, Int.reduceToNat, Int.reduceLT, Int.reduceEq, Int.reduceNeg, Int.le_refl, hbox] <;> rfl) ?_
  simp only [set0, set1, set2, set3, set4, set5, set6, set7, set8, set9, set10, set11, set12, set13, set14]
  obtain ⟨r1, i1, s1, h1, a1, a2, b1⟩ := draw_v (n + 5) [] (i := -1) (st := st0) cs ⟨by omega, hs0, hs1⟩ (many := 8) (by omega)
  obtain ⟨w, hw, rfl⟩ : ∃ w : Nat, (2 ≤ w ∧ w ≤ 9) ∧ r1 = (w : Int) - 2 := ⟨(r1 + 2).toNat, by omega, by omega⟩
  refine wp_asg (v := .int w) (H1 := ⟨[], some (i1, cs, s1)⟩) (by simp only [ev, evs, evl, ex, exs, get0, get1, get2, get3, get4, get5, get6, get7, get8, get9, get10, get11, get12, get13, get14, set0, set1, set2, set3, set4, set5, set6, set7, set8, set9, set10, set11, set12, set13, set14, ar_add, ar_sub, ar_and, ar_or, ar_shr, items_lst, itemV_lst, itemV_box0, itemV_box1, itemV_box2, cmpV_int, cmpV_eqL, cmpV_neL, cmpI_eq, cmpI_ne, cmpI_lt, cmpI_le, cmpI_gt, cmpI_ge, attrV, reduceIte, if_true, if_false, decide_true, decide_false, Bool.not_true, Bool.not_false, Bool.false_eq_true, reduceCtorEq, decide_eq_true_eq, Int.toNat_natCast, Option.map_some, nn, Int.reduceLE, Int.reduceToNat, Int.reduceLT, Int.reduceEq, Int.reduceNeg, Int.le_refl, h1]; rw [show (2 : Int) + ((w : Int) - 2) = (w : Int) by omega]) ?_
  simp only [set0, set1, set2, set3, set4, set5, set6, set7, set8, set9, set10, set11, set12, set13, set14]
  have hB := B_rng hw
  obtain ⟨r2, i2, s2, h2, c1, c2, b2⟩ := size_v hw (n + 4) [] cs b1 (most := 4) (by omega)
  have h2' : callM PT (n + 6) 24 [.box, .int w, .int 4] ⟨[], some (i1, cs, s1)⟩ = some (.val (.int r2) ⟨[], some (i2, cs, s2)⟩) := h2
  have hw4 : (2 : Int) ^ (w * 4) ≤ 2 ^ 36 := ipow_mono (by omega) (by omega)
  have h36 : (2 : Int) ^ 36 + 1 < 2 ^ 40 := by decide
  obtain ⟨M, hM⟩ : ∃ M, r2 / 2 * 2 + 1 = M := ⟨_, rfl⟩
  have hp : Par w M := ⟨hw, by omega, by omega, by omega⟩
  have hsm := hp.small
  have hbl := hp.big_lt
  have hbp := hp.big_pos
  have hmb := hp.mbig_lt
  have hM0 := hp.pos
  have hL2 := hp.len_le
  have hMB : 0 < M * big w M := Int.mul_pos hM0 hbp
  have k1 : (2 : Int) ^ 40 < 2 ^ 200 := by decide
  have k2 : (2 : Int) ^ 50 < 2 ^ 256 := by decide
  have k3 : (2 : Int) ^ 90 < 2 ^ 200 := by decide
  have k4 : (2 : Int) ^ 40 < 2 ^ 256 := by decide
  have d2 : arith .fdiv r2 2 = some (r2 / 2) := ar_fdiv (by omega) (okM_lit (by decide))
  have k5 : (2 : Int) ^ 36 < 2 ^ 256 := by decide
  have d3 : arith .mul (r2 / 2) 2 = some (r2 / 2 * 2) := ar_mul (okM_rng (by omega) (by omega)) (okM_lit (by decide))
  refine wp_asg (v := .int M) (H1 := ⟨[], some (i2, cs, s2)⟩) (by simp only [ev, evs, evl, ex, exs, get0, get1, get2, get3, get4, get5, get6, get7, get8, get9, get10, get11, get12, get13, get14, set0, set1, set2, set3, set4, set5, set6, set7, set8, set9, set10, set11, set12, set13, set14, ar_add, ar_sub, ar_and, ar_or, ar_shr, items_lst, itemV_lst, itemV_box0, itemV_box1, itemV_box2, cmpV_int, cmpV_eqL, cmpV_neL, cmpI_eq, cmpI_ne, cmpI_lt, cmpI_le, cmpI_gt, cmpI_ge, attrV, reduceIte, if_true, if_false, decide_true, decide_false, Bool.not_true, Bool.not_false, Bool.false_eq_true, reduceCtorEq, decide_eq_true_eq, Int.toNat_natCast, Option.map_some, nn, Int.reduceLE, Int.reduceToNat, Int.reduceLT, Int.reduceEq, Int.reduceNeg, Int.le_refl, h2', d2, d3, hM] <;> rfl) ?_
  simp only [set0, set1, set2, set3, set4, set5, set6, set7, set8, set9, set10, set11, set12, set13, set14]
  have hrow := fun (v : Int) (hv : Sm v) (H : Hp) => law_row_v hw (n + 5) (H := H) hv
  obtain ⟨limb, i3, s3, h3, e1, e2, b3⟩ := draw_v (n + 5) [] cs b2 (many := 2 ^ w) (by omega)
  have hpow : arith .pow 2 (w : Int) = some (2 ^ w) := ar_pow2 (by omega)
  refine wp_asg2 (v1 := .lst (row (2 ^ w) M)) (v2 := .int limb) (H1 := ⟨[], some (i2, cs, s2)⟩) (H2 := ⟨[], some (i3, cs, s3)⟩) (by simp only [ev, evs, evl, ex, exs, get0, get1, get2, get3, get4, get5, get6, get7, get8, get9, get10, get11, get12, get13, get14, set0, set1, set2, set3, set4, set5, set6, set7, set8, set9, set10, set11, set12, set13, set14, ar_add, ar_sub, ar_and, ar_or, ar_shr, items_lst, itemV_lst, itemV_box0, itemV_box1, itemV_box2, cmpV_int, cmpV_eqL, cmpV_neL, cmpI_eq, cmpI_ne, cmpI_lt, cmpI_le, cmpI_gt, cmpI_ge, attrV, reduceIte, if_true, if_false, decide_true, decide_false, Bool.not_true, Bool.not_false, Bool.false_eq_true, reduceCtorEq, decide_eq_true_eq, Int.toNat_natCast, Option.map_some, nn, Int.reduceLE, Int.reduceToNat, Int.reduceLT, Int.reduceEq, Int.reduceNeg, Int.le_refl, hrow M hp.sm] <;> rfl) (by simp only [ev, evs, evl, ex, exs, get0, get1, get2, get3, get4, get5, get6, get7, get8, get9, get10, get11, get12, get13, get14, set0, set1, set2, set3, set4, set5, set6, set7, set8, set9, set10, set11, set12, set13, set14, ar_add, ar_sub, ar_and, ar_or, ar_shr, items_lst, itemV_lst, itemV_box0, itemV_box1, itemV_box2, cmpV_int, cmpV_eqL, cmpV_neL, cmpI_eq, cmpI_ne, cmpI_lt, cmpI_le, cmpI_gt, cmpI_ge, attrV, reduceIte, if_true, if_false, decide_true, decide_false, Bool.not_true, Bool.not_false, Bool.false_eq_true, reduceCtorEq, decide_eq_true_eq, Int.toNat_natCast, Option.map_some, nn, Int.reduceLE, Int.reduceToNat, Int.reduceLT, Int.reduceEq, Int.reduceNeg, Int.le_refl, hpow, h3] <;> rfl) ?_
  simp only [set0, set1, set2, set3, set4, set5, set6, set7, set8, set9, set10, set11, set12, set13, set14]
  obtain ⟨q, hmake, hq⟩ := mont_make_v hp (n + 2) (H := ⟨[], some (i3, cs, s3)⟩)
  have hLw : arith .mul (w : Int) (len w M : Int) = some ((w * len w M : Nat) : Int) := by
    rw [ar_mul (okM_rng (by omega) (by omega)) (okM_rng (by omega) (by omega))]; simp
  have hLb : w * len w M ≤ 1000 := by
    have : w * len w M ≤ 9 * 20 := Nat.mul_le_mul hw.2 hL2
    omega
  have hpowL : arith .pow 2 ((w * len w M : Nat) : Int) = some (big w M) := by rw [ar_pow2 hLb, Par.big_pow]
  refine wp_asg2 (v1 := .int (big w M)) (v2 := told w M q) (H1 := ⟨[], some (i3, cs, s3)⟩) (H2 := ⟨[], some (i3, cs, s3)⟩) (by simp only [ev, evs, evl, ex, exs, get0, get1, get2, get3, get4, get5, get6, get7, get8, get9, get10, get11, get12, get13, get14, set0, set1, set2, set3, set4, set5, set6, set7, set8, set9, set10, set11, set12, set13, set14, ar_add, ar_sub, ar_and, ar_or, ar_shr, items_lst, itemV_lst, itemV_box0, itemV_box1, itemV_box2, cmpV_int, cmpV_eqL, cmpV_neL, cmpI_eq, cmpI_ne, cmpI_lt, cmpI_le, cmpI_gt, cmpI_ge, attrV, reduceIte, if_true, if_false, decide_true, decide_false, Bool.not_true, Bool.not_false, Bool.false_eq_true, reduceCtorEq, decide_eq_true_eq, Int.toNat_natCast, Option.map_some, nn, Int.reduceLE, Int.reduceToNat, Int.reduceLT, Int.reduceEq, Int.reduceNeg, Int.le_refl, hLw, hpowL] <;> rfl) (by simp only [ev, evs, evl, ex, exs, get0, get1, get2, get3, get4, get5, get6, get7, get8, get9, get10, get11, get12, get13, get14, set0, set1, set2, set3, set4, set5, set6, set7, set8, set9, set10, set11, set12, set13, set14, ar_add, ar_sub, ar_and, ar_or, ar_shr, items_lst, itemV_lst, itemV_box0, itemV_box1, itemV_box2, cmpV_int, cmpV_eqL, cmpV_neL, cmpI_eq, cmpI_ne, cmpI_lt, cmpI_le, cmpI_gt, cmpI_ge, attrV, reduceIte, if_true, if_false, decide_true, decide_false, Bool.not_true, Bool.not_false, Bool.false_eq_true, reduceCtorEq, decide_eq_true_eq, Int.toNat_natCast, Option.map_some, nn, Int.reduceLE, Int.reduceToNat, Int.reduceLT, Int.reduceEq, Int.reduceNeg, Int.le_refl, hmake] <;> rfl) ?_
  simp only [set0, set1, set2, set3, set4, set5, set6, set7, set8, set9, set10, set11, set12, set13, set14]
  have htr := told_right_v hp n (H := ⟨[], some (i3, cs, s3)⟩) hq
  refine wp_skip (H1 := ⟨[], some (i3, cs, s3)⟩) (by simp only [ev, evs, evl, ex, exs, get0, get1, get2, get3, get4, get5, get6, get7, get8, get9, get10, get11, get12, get13, get14, set0, set1, set2, set3, set4, set5, set6, set7, set8, set9, set10, set11, set12, set13, set14, ar_add, ar_sub, ar_and, ar_or, ar_shr, items_lst, itemV_lst, itemV_box0, itemV_box1, itemV_box2, cmpV_int, cmpV_eqL, cmpV_neL, cmpI_eq, cmpI_ne, cmpI_lt, cmpI_le, cmpI_gt, cmpI_ge, attrV, reduceIte, if_true, if_false, decide_true, decide_false, Bool.not_true, Bool.not_false, Bool.false_eq_true, reduceCtorEq, decide_eq_true_eq, Int.toNat_natCast, Option.map_some, nn, Int.reduceLE, Int.reduceToNat, Int.reduceLT, Int.reduceEq, Int.reduceNeg, Int.le_refl, htr] <;> rfl) ?_
  obtain ⟨x0, i4, s4, h4, f1, _, b4⟩ := size_v hw (n + 4) [] cs b3 (most := 4) (by omega)
  have h4' : callM PT (n + 6) 24 [.box, .int w, .int 4] ⟨[], some (i3, cs, s3)⟩ = some (.val (.int x0) ⟨[], some (i4, cs, s4)⟩) := h4
  obtain ⟨y0, i5, s5, h5, g1, _, b5⟩ := size_v hw (n + 4) [] cs b4 (most := 4) (by omega)
  have h5' : callM PT (n + 6) 24 [.box, .int w, .int 4] ⟨[], some (i4, cs, s4)⟩ = some (.val (.int y0) ⟨[], some (i5, cs, s5)⟩) := h5
  obtain ⟨n0, i6, s6, h6, j1, _, b6⟩ := size_v hw (n + 4) [] cs b5 (most := 8) (by omega)
  have h6' : callM PT (n + 6) 24 [.box, .int w, .int 8] ⟨[], some (i5, cs, s5)⟩ = some (.val (.int n0) ⟨[], some (i6, cs, s6)⟩) := h6
  have hmodM : ∀ t, arith .mod t M = some (t % M) := fun t => ar_mod hM0
  have hmodMB : ∀ t, arith .mod t (M * big w M) = some (t % (M * big w M)) := fun t => ar_mod hMB
  have hmulMB : arith .mul M (big w M) = some (M * big w M) := ar_mul (okM_rng (by omega) (by omega)) (okM_rng (by omega) (by omega))
  have rx := hp.mod_rng x0
  have ry := hp.mod_rng y0
  have rn0 := Int.emod_nonneg n0 (b := M * big w M) (by omega)
  have rn1 := Int.emod_lt_of_pos n0 (b := M * big w M) hMB
  refine wp_asg3 (v1 := .int (x0 % M)) (v2 := .int (y0 % M)) (v3 := .int (n0 % (M * big w M))) (H1 := ⟨[], some (i4, cs, s4)⟩) (H2 := ⟨[], some (i5, cs, s5)⟩) (H3 := ⟨[], some (i6, cs, s6)⟩) (by simp only [ev, evs, evl, ex, exs, get0, get1, get2, get3, get4, get5, get6, get7, get8, get9, get10, get11, get12, get13, get14, set0, set1, set2, set3, set4, set5, set6, set7, set8, set9, set10, set11, set12, set13, set14, ar_add, ar_sub, ar_and, ar_or, ar_shr, items_lst, itemV_lst, itemV_box0, itemV_box1, itemV_box2, cmpV_int, cmpV_eqL, cmpV_neL, cmpI_eq, cmpI_ne, cmpI_lt, cmpI_le, cmpI_gt, cmpI_ge, attrV, reduceIte, if_true, if_false, decide_true, decide_false, Bool.not_true, Bool.not_false, Bool.false_eq_true, reduceCtorEq, decide_eq_true_eq, Int.toNat_natCast, Option.map_some, nn, Int.reduceLE, Int.reduceToNat, Int.reduceLT, Int.reduceEq, Int.reduceNeg, Int.le_refl, h4', hmodM] <;> rfl) (by simp only [ev, evs, evl, ex, exs, get0, get1, get2, get3, get4, get5, get6, get7, get8, get9, get10, get11, get12, get13, get14, set0, set1, set2, set3, set4, set5, set6, set7, set8, set9, set10, set11, set12, set13, set14, ar_add, ar_sub, ar_and, ar_or, ar_shr, items_lst, itemV_lst, itemV_box0, itemV_box1, itemV_box2, cmpV_int, cmpV_eqL, cmpV_neL, cmpI_eq, cmpI_ne, cmpI_lt, cmpI_le, cmpI_gt, cmpI_ge, attrV, reduceIte, if_true, if_false, decide_true, decide_false, Bool.not_true, Bool.not_false, Bool.false_eq_true, reduceCtorEq, decide_eq_true_eq, Int.toNat_natCast, Option.map_some, nn, Int.reduceLE, Int.reduceToNat, Int.reduceLT, Int.reduceEq, Int.reduceNeg, Int.le_refl, h5', hmodM] <;> rfl) (by simp only [ev, evs, evl, ex, exs, get0, get1, get2, get3, get4, get5, get6, get7, get8, get9, get10, get11, get12, get13, get14, set0, set1, set2, set3, set4, set5, set6, set7, set8, set9, set10, set11, set12, set13, set14, ar_add, ar_sub, ar_and, ar_or, ar_shr, items_lst, itemV_lst, itemV_box0, itemV_box1, itemV_box2, cmpV_int, cmpV_eqL, cmpV_neL, cmpI_eq, cmpI_ne, cmpI_lt, cmpI_le, cmpI_gt, cmpI_ge, attrV, reduceIte, if_true, if_false, decide_true, decide_false, Bool.not_true, Bool.not_false, Bool.false_eq_true, reduceCtorEq, decide_eq_true_eq, Int.toNat_natCast, Option.map_some, nn, Int.reduceLE, Int.reduceToNat, Int.reduceLT, Int.reduceEq, Int.reduceNeg, Int.le_refl, h6', hmulMB, hmodMB] <;> rfl) ?_
  simp only [set0, set1, set2, set3, set4, set5, set6, set7, set8, set9, set10, set11, set12, set13, set14]
  generalize x0 % M = x at rx ⊢
  generalize y0 % M = y at ry ⊢
  generalize n0 % (M * big w M) = number at rn0 rn1 ⊢
  generalize hH : (⟨[], some (i6, cs, s6)⟩ : Hp) = H
  refine wp_asg3 (v1 := .lst (row (2 ^ w) x)) (v2 := .lst (row (2 ^ w) y)) (v3 := .lst (row (2 ^ w) number)) (H1 := H) (H2 := H) (H3 := H) (by simp only [ev, evs, evl, ex, exs, get0, get1, get2, get3, get4, get5, get6, get7, get8, get9, get10, get11, get12, get13, get14, set0, set1, set2, set3, set4, set5, set6, set7, set8, set9, set10, set11, set12, set13, set14, ar_add, ar_sub, ar_and, ar_or, ar_shr, items_lst, itemV_lst, itemV_box0, itemV_box1, itemV_box2, cmpV_int, cmpV_eqL, cmpV_neL, cmpI_eq, cmpI_ne, cmpI_lt, cmpI_le, cmpI_gt, cmpI_ge, attrV, reduceIte, if_true, if_false, decide_true, decide_false, Bool.not_true, Bool.not_false, Bool.false_eq_true, reduceCtorEq, decide_eq_true_eq, Int.toNat_natCast, Option.map_some, nn, Int.reduceLE, Int.reduceToNat, Int.reduceLT, Int.reduceEq, Int.reduceNeg, Int.le_refl, hrow x ⟨rx.1, by omega⟩] <;> rfl) (by simp only [ev, evs, evl, ex, exs, get0, get1, get2, get3, get4, get5, get6, get7, get8, get9, get10, get11, get12, get13, get14, set0, set1, set2, set3, set4, set5, set6, set7, set8, set9, set10, set11, set12, set13, set14, ar_add, ar_sub, ar_and, ar_or, ar_shr, items_lst, itemV_lst, itemV_box0, itemV_box1, itemV_box2, cmpV_int, cmpV_eqL, cmpV_neL, cmpI_eq, cmpI_ne, cmpI_lt, cmpI_le, cmpI_gt, cmpI_ge, attrV, reduceIte, if_true, if_false, decide_true, decide_false, Bool.not_true, Bool.not_false, Bool.false_eq_true, reduceCtorEq, decide_eq_true_eq, Int.toNat_natCast, Option.map_some, nn, Int.reduceLE, Int.reduceToNat, Int.reduceLT, Int.reduceEq, Int.reduceNeg, Int.le_refl, hrow y ⟨ry.1, by omega⟩] <;> rfl) (by simp only [ev, evs, evl, ex, exs, get0, get1, get2, get3, get4, get5, get6, get7, get8, get9, get10, get11, get12, get13, get14, set0, set1, set2, set3, set4, set5, set6, set7, set8, set9, set10, set11, set12, set13, set14, ar_add, ar_sub, ar_and, ar_or, ar_shr, items_lst, itemV_lst, itemV_box0, itemV_box1, itemV_box2, cmpV_int, cmpV_eqL, cmpV_neL, cmpI_eq, cmpI_ne, cmpI_lt, cmpI_le, cmpI_gt, cmpI_ge, attrV, reduceIte, if_true, if_false, decide_true, decide_false, Bool.not_true, Bool.not_false, Bool.false_eq_true, reduceCtorEq, decide_eq_true_eq, Int.toNat_natCast, Option.map_some, nn, Int.reduceLE, Int.reduceToNat, Int.reduceLT, Int.reduceEq, Int.reduceNeg, Int.le_refl, hrow number ⟨rn0, by omega⟩] <;> rfl) ?_
  simp only [set0, set1, set2, set3, set4, set5, set6, set7, set8, set9, set10, set11, set12, set13, set14]
  have hred := fun (v u : Int) (hv : 0 ≤ v ∧ v < M) (hc : Cg M (v * big w M) u) => reduced_v hp (n + 4) (H := H) hv hc
  obtain ⟨z1, hz1, z10, z11, z1c⟩ := redc_v hp (n + 2) (H := H) (o := row (2 ^ w) (big w M % M)) (s := row (2 ^ w) (big w M * big w M % M)) rn0 rn1 hq
  refine wp_skip (H1 := H) (by simp only [ev, evs, evl, ex, exs, get0, get1, get2, get3, get4, get5, get6, get7, get8, get9, get10, get11, get12, get13, get14, set0, set1, set2, set3, set4, set5, set6, set7, set8, set9, set10, set11, set12, set13, set14, ar_add, ar_sub, ar_and, ar_or, ar_shr, items_lst, itemV_lst, itemV_box0, itemV_box1, itemV_box2, cmpV_int, cmpV_eqL, cmpV_neL, cmpI_eq, cmpI_ne, cmpI_lt, cmpI_le, cmpI_gt, cmpI_ge, attrV, reduceIte, if_true, if_false, decide_true, decide_false, Bool.not_true, Bool.not_false, Bool.false_eq_true, reduceCtorEq, decide_eq_true_eq, Int.toNat_natCast, Option.map_some, nn, Int.reduceLE, Int.reduceToNat, Int.reduceLT, Int.reduceEq, Int.reduceNeg, Int.le_refl, hz1, hred z1 number ⟨z10, z11⟩ z1c] <;> rfl) ?_
  obtain ⟨z2, hz2, z20, z21, z2c⟩ := redc_v hp (n + 2) (H := H) (x := M) (o := row (2 ^ w) (big w M % M)) (s := row (2 ^ w) (big w M * big w M % M)) (by omega) (by
    have h1b : 1 < big w M := by have := hp.lt_big; omega
    have := Int.mul_lt_mul_of_pos_left h1b hM0
    omega) hq
  refine wp_skip (H1 := H) (by simp only [ev, evs, evl, ex, exs, get0, get1, get2, get3, get4, get5, get6, get7, get8, get9, get10, get11, get12, get13, get14, set0, set1, set2, set3, set4, set5, set6, set7, set8, set9, set10, set11, set12, set13, set14, ar_add, ar_sub, ar_and, ar_or, ar_shr, items_lst, itemV_lst, itemV_box0, itemV_box1, itemV_box2, cmpV_int, cmpV_eqL, cmpV_neL, cmpI_eq, cmpI_ne, cmpI_lt, cmpI_le, cmpI_gt, cmpI_ge, attrV, reduceIte, if_true, if_false, decide_true, decide_false, Bool.not_true, Bool.not_false, Bool.false_eq_true, reduceCtorEq, decide_eq_true_eq, Int.toNat_natCast, Option.map_some, nn, Int.reduceLE, Int.reduceToNat, Int.reduceLT, Int.reduceEq, Int.reduceNeg, Int.le_refl, hz2, hred z2 M ⟨z20, z21⟩ z2c] <;> rfl) ?_
  have hto := to_mont_v hp (n + 1) (H := H) rx hq
  have hfrom := from_mont_v hp (n + 1) (H := H) rx hq
  have rxb := hp.mod_rng (x * big w M)
  have hmulxb : arith .mul x (big w M) = some (x * big w M) := ar_mul (okM_rng rx.1 (by omega)) (okM_rng (by omega) (by omega))
  refine wp_skip (H1 := H) (by simp only [ev, evs, evl, ex, exs, get0, get1, get2, get3, get4, get5, get6, get7, get8, get9, get10, get11, get12, get13, get14, set0, set1, set2, set3, set4, set5, set6, set7, set8, set9, set10, set11, set12, set13, set14, ar_add, ar_sub, ar_and, ar_or, ar_shr, items_lst, itemV_lst, itemV_box0, itemV_box1, itemV_box2, cmpV_int, cmpV_eqL, cmpV_neL, cmpI_eq, cmpI_ne, cmpI_lt, cmpI_le, cmpI_gt, cmpI_ge, attrV, reduceIte, if_true, if_false, decide_true, decide_false, Bool.not_true, Bool.not_false, Bool.false_eq_true, reduceCtorEq, decide_eq_true_eq, Int.toNat_natCast, Option.map_some, nn, Int.reduceLE, Int.reduceToNat, Int.reduceLT, Int.reduceEq, Int.reduceNeg, Int.le_refl, hto, hmulxb, hmodM, hrow (x * big w M % M) ⟨rxb.1, by omega⟩, hfrom] <;> rfl) ?_
  obtain ⟨z, hz, z0, zlt, zc⟩ := redc_v hp (n + 2) (H := H) (x := x * y) (o := row (2 ^ w) (big w M % M)) (s := row (2 ^ w) (big w M * big w M % M)) (hp.below rx ry).1 (hp.below rx ry).2 hq
  have hmm := mont_mul_v hp (n + 1) (H := H) rx ry ⟨z0, zlt⟩ zc hq
  have hmr := mont_rows_v hp (n + 2) (H := H) rx ry ⟨z0, zlt⟩ zc hq
  refine wp_asg (v := .lst (row (2 ^ w) z)) (H1 := H) (by simp only [ev, evs, evl, ex, exs, get0, get1, get2, get3, get4, get5, get6, get7, get8, get9, get10, get11, get12, get13, get14, set0, set1, set2, set3, set4, set5, set6, set7, set8, set9, set10, set11, set12, set13, set14, ar_add, ar_sub, ar_and, ar_or, ar_shr, items_lst, itemV_lst, itemV_box0, itemV_box1, itemV_box2, cmpV_int, cmpV_eqL, cmpV_neL, cmpI_eq, cmpI_ne, cmpI_lt, cmpI_le, cmpI_gt, cmpI_ge, attrV, reduceIte, if_true, if_false, decide_true, decide_false, Bool.not_true, Bool.not_false, Bool.false_eq_true, reduceCtorEq, decide_eq_true_eq, Int.toNat_natCast, Option.map_some, nn, Int.reduceLE, Int.reduceToNat, Int.reduceLT, Int.reduceEq, Int.reduceNeg, Int.le_refl, hmm] <;> rfl) ?_
  simp only [set0, set1, set2, set3, set4, set5, set6, set7, set8, set9, set10, set11, set12, set13, set14]
  have hmulxy : arith .mul x y = some (x * y) := ar_mul (okM_rng rx.1 (by omega)) (okM_rng ry.1 (by omega))
  refine wp_skip (H1 := H) (by simp only [ev, evs, evl, ex, exs, get0, get1, get2, get3, get4, get5, get6, get7, get8, get9, get10, get11, get12, get13, get14, set0, set1, set2, set3, set4, set5, set6, set7, set8, set9, set10, set11, set12, set13, set14, ar_add, ar_sub, ar_and, ar_or, ar_shr, items_lst, itemV_lst, itemV_box0, itemV_box1, itemV_box2, cmpV_int, cmpV_eqL, cmpV_neL, cmpI_eq, cmpI_ne, cmpI_lt, cmpI_le, cmpI_gt, cmpI_ge, attrV, reduceIte, if_true, if_false, decide_true, decide_false, Bool.not_true, Bool.not_false, Bool.false_eq_true, reduceCtorEq, decide_eq_true_eq, Int.toNat_natCast, Option.map_some, nn, Int.reduceLE, Int.reduceToNat, Int.reduceLT, Int.reduceEq, Int.reduceNeg, Int.le_refl, hmulxy, hred z (x * y) ⟨z0, zlt⟩ zc, hmr] <;> rfl) ?_
  have hsc := scaled_v hp (n + 2) (H := H) rx ⟨e1, e2⟩
  have hmulxl : arith .mul x limb = some (x * limb) := ar_mul (okM_rng rx.1 (by omega)) (okM_rng e1 (by omega))
  have rxl := hp.mod_rng (x * limb)
  refine wp_skip (H1 := H) (by simp only [ev, evs, evl, ex, exs, get0, get1, get2, get3, get4, get5, get6, get7, get8, get9, get10, get11, get12, get13, get14, set0, set1, set2, set3, set4, set5, set6, set7, set8, set9, set10, set11, set12, set13, set14, ar_add, ar_sub, ar_and, ar_or, ar_shr, items_lst, itemV_lst, itemV_box0, itemV_box1, itemV_box2, cmpV_int, cmpV_eqL, cmpV_neL, cmpI_eq, cmpI_ne, cmpI_lt, cmpI_le, cmpI_gt, cmpI_ge, attrV, reduceIte, if_true, if_false, decide_true, decide_false, Bool.not_true, Bool.not_false, Bool.false_eq_true, reduceCtorEq, decide_eq_true_eq, Int.toNat_natCast, Option.map_some, nn, Int.reduceLE, Int.reduceToNat, Int.reduceLT, Int.reduceEq, Int.reduceNeg, Int.le_refl, hsc, hmulxl, hmodM, hrow (x * limb % M) ⟨rxl.1, by omega⟩] <;> rfl) ?_
  exact wp_nil ⟨rfl, ⟨w, M, q, limb, x, y, number, z⟩, ⟨hp, hq, rx, ry, rn0, rn1⟩, rfl, (i6, cs, s6), hH.symm⟩
end Mine

namespace Mine

section
variable {S : Glo} {G : Fix} {d : Nat} {cl : Cl} {D : DC}

/-- a call of a def of the program's that raises -/
theorem exc_call (hf : Facts S G) (hc : CallOK S G d cl) {e : ME} {es : MEs} (h : EOK S G d cl D e) (hs : ESOK S G d cl D es) (g q : Nat) {x : FX} (hx : x.OK S G d) (hw : wfE x.cs D.names.length (.call g e es q))
    {E Q : Value → Shared → Prop} {s : Shared} {m : Str → Option Value} {cs : Led} {W : Wd} {loc : List V} {H H1 H2 : Hp} {v : V} {vs : List V} (hA : ev cl loc e H = some (v, H1)) (hB : evs cl loc es H1 = some (vs, H2)) (hC : cl g (v :: vs) H2 = some .exc)
    (F : Fr x.h₀ x.L s.heap m) (R : SR G x.h₀ x.L s.heap cs W H) (VV : VarsR G x D m cs W loc)
    (post : ∀ (e t : Addr) (us : List Value) (g h' : Heap) (tk' : Nat) (W' : Wd), WLe W W' → Fr x.h₀ x.L g m → g.UpToSlots h' → RaisedK G.base (x.env :: x.outer) e (.ref G.CX) t us (cs ++ W'.fz) h' → E (.ref e) { s with heap := h', toks := tk' }) :
    wpAny (model S.prog S.w) x.A (eval (dE D (.call g e es q)) x.env) Q E s := by
  refine wpAny_Call_NameR (nameX_K F hx.X (topRead_of hx.T) (hf.fn g hw.1.1).1 ?_ hx.kf hw.1.2 (gname_debug hw.1.1))
  refine callWith_K hx.X (hf.fn g hw.1.1).2 (spliced_more (h x hx hw.2.1 E _ s m cs W loc H _ _ hA F R VV ?_) (star_dE e _ _)) (star_dE e _ _) (plain_dEs (D.pf (q + 1)) _ es)
  intro v1 h1 t1 W1 F1 R1 L1 V1
  refine hs x hx hw.2.2 (D.pf (q + 1)) E _ { s with heap := h1, toks := t1 } m cs W1 loc H1 _ _ hB F1 R1 (VV.mono L1) ?_
  intro vrs h2 t2 W2 F2 R2 L2 V2
  refine ⟨hx.X.keeps F2.keep, ?_⟩
  refine hc x hx E Q { s with heap := h2, toks := t2 } m cs W2 H2 g (v :: vs) (v1 :: vrs) _ hC F2 R2 ⟨V1.mono L2, V2⟩ (fun v' H' e => by cases e) (fun _ => ?_)
  intro e t us g' h' tk' F' hu RK
  exact post e t us g' h' tk' W2 (L1.trans L2) F' hu RK

/-- statements, and more behind them -/
theorem execs_tail (hall : ∀ st : MS, SOK S G d cl D st) {x : FX} (hx : x.OK S G d) {E : Value → Shared → Prop} {Q : Flow → Shared → Prop} {rest : List Stmt} :
    ∀ (b : MSs), wfSs x.cs D b → ∀ (s : Shared) (m : Str → Option Value) (cs : Led) (W : Wd) (loc : List V) (H : Hp) (loc' : List V) (H' : Hp), exs cl b loc H = some (.next, loc', H') → Fr x.h₀ x.L s.heap m → SR G x.h₀ x.L s.heap cs W H → VarsR G x D m cs W loc →
    (∀ m' cs' h' tk' W', Fr x.h₀ x.L h' m' → SR G x.h₀ x.L h' cs' W' H' → WLe W W' → CsLe cs cs' → VarsR G x D m' cs' W' loc' → wpAny (model S.prog S.w) x.A (execs rest x.env) Q E { s with heap := h', toks := tk' }) →
    wpAny (model S.prog S.w) x.A (execs (dSs D b ++ rest) x.env) Q E s
  | .nil, hw, s, m, cs, W, loc, H, loc', H', he, F, R, VV, post => by
    simp only [exs] at he
    cases he
    exact post m cs s.heap s.toks W F R (.refl W) (.refl cs) VV
  | .cons st r, hw, s, m, cs, W, loc, H, loc', H', he, F, R, VV, post => by
    simp only [exs] at he
    split at he
    · rename_i loc1 H1 h1
      refine wpAny_execs_cons (hall st x hx hw.1 E _ s m cs W loc H _ _ _ h1 F R VV ?_)
      intro m1 cs1 hh tk W1 F1 R1 L1 C1 V1
      refine execs_tail hall hx r hw.2 { s with heap := hh, toks := tk } m1 cs1 W1 loc1 H1 loc' H' he F1 R1 V1 ?_
      intro m' cs' h' tk' W' F' R' L' C' V'
      exact post m' cs' h' tk' W' F' R' (L1.trans L') (C1.trans C') V'
    · cases he
    · cases he
    · cases he
end

section
variable {prog : Program} {w : World} {A A₀ : Around} {s : Shared} {K : Frag} {L : Addr} {h₀ base : Heap} {m mg mb : Str → Option Value} {news : Led} {p : Program} {loose : List Str} {mean : ExcName → Option Value}

/-- a call of a def of the top: what its body does is what the call does -/
theorem code_free {env : Env} {outer : List Env} {R : Result → Shared → Prop} {name qual : Str} {params : Arguments} {body : List Stmt} {scope : Scope} {dV kV doc pm cdv ct oc : Value} {an od : Option Addr} {osl : Array (Option Value)} {f : Addr} {args : Args} {binds : List (Str × Value)}
    (B : Below A₀ base outer h₀) (F : Fr h₀ L s.heap m) (X₀ : K.In h₀) (N : News h₀ L s.heap news) (T : Top p loose mean mg mb h₀) (hA : A.frames = some (env :: outer)) (hf : env.frame = some L) (hke : env.scope.kind = .function)
    (ho : K.lookup f = some ⟨oc, od, .func (fnOf name qual params body scope dV kV doc pm an cdv ct), osl⟩) (hcd : codeIn K cdv qual = true) (hroom : A.depth < recursionLimit)
    (hbind : BindsTo s (fnOf name qual params body scope dV kV doc pm an cdv ct) args binds) (hloc : ∀ y ∈ binds, scope.names.lookup y.1 = some .local)
    (h : ∀ g L' h₁, Fr h₀ L g m → Fr g L' h₁ (fun y => binds.reverse.lookup y) → News g L' h₁ news → Below A base (env :: outer) g → K.In g → Top p loose mean mg mb g →
      wpAny (model prog w) (A.deeper (envOf qual scope L' f cdv)) (execs body (envOf qual scope L' f cdv))
        (fun fl s' => R (.ok (.ret (match fl with | .ret v => v | _ => .none))) s')
        (fun e s' => wpAny (model prog w) (A.deeper (envOf qual scope L' f cdv)) (leaving (envOf qual scope L' f cdv) e) (fun _ s'' => R (.error e) s'') (fun e' s'' => R (.error e') s'') s')
        { s with heap := h₁, toks := s.toks + binds.length })
    (hco : scope.isCoroutine = false) (hgen : scope.isGenerator = false) (hk : scope.kind = .function)
    (hcell : ∀ x ∈ scope.names, x.2 ≠ .cell) : codeAny (model prog w) A (.call (.ref f) args) R s := by
  obtain ⟨FG, BG, st, -⟩ := groundX (R := R) B F N hA hf hke
  have X := X₀.keeps F.keep
  refine codeAny_call_def (fd := fnOf name qual params body scope dV kV doc pm an cdv ct) (body := body) (binds := binds) hroom (X _ _ ho) rfl (T.nolimit.keeps F.keep) (codeRec_of X hcd) rfl hbind hcell hloc (fun h₁ hns hk₁ => ?_) hco hgen hk
  refine h _ s.heap.objs.size h₁ FG ⟨hns, fun b o e => hk₁ b o (of_hideAll _ e), Nat.le_of_eq (hideAll_size _ _)⟩ (fun p hp => ?_) BG (X₀.keeps st) (T.keeps st)
  exact ⟨hk₁ _ _ (N p hp).1, Nat.ne_of_lt (Heap.lt_size (N p hp).1), hideAll_none _ (List.mem_map_of_mem hp)⟩
end

section
variable {prog : Program} {w : World} {A₀ : Around} {E : Value → Shared → Prop} {s' : Shared} {base B G : Heap} {outer : List Env} {L a e t : Addr} {m : Str → Option Value} {name : Str} {scope : Scope} {cd : Value}
  {b₀ : Stmt} {suite : List Stmt} {pos np : Pos} {rest : List ExceptHandler} {Q : Flow → Shared → Prop} {KF : Frag} {C : Addr} {bmB : List Value} {newId : String}
  {p : Program} {loose : List Str} {mean : ExcName → Option Value} {mg mb : Str → Option Value} {x : Str}

/-- an exception of an own class, caught in a frame that others stand below: what is known of the heap then -/
theorem caught_mine (hst : A₀.frames = some outer) (hns : G.Ns L m) (hab : base.objs.size ≤ L) (hB : base.StaysIn B) (hsm : G.UpToSlots s'.heap) (hfl : Heap.FlyingW B (envOf name scope L a cd :: outer) e (.ref C) (.ref t) s'.heap)
    (X : KF.In base) (T : TopRead p loose mg mb base) (ex : nsIn KF mainGlobals x = some (some (.ref C))) (q : excIn KF C bmB newId = true) (hbase : bmB.contains (.type "BaseException") = true)
    (k : ∀ h', B.StaysIn h' → G.UpToSlots h' → wpAny (model prog w) ((A₀.deeper (envOf name scope L a cd)).mark (some (.ref e))) (execs (b₀ :: suite) (envOf name scope L a cd)) Q E { s' with heap := h' })
    (hk : scope.kind = .function) (hx : scope.names.lookup x = some .globalImplicit) (hd : (x == ("__debug__" : Str)) = false)
    (hE : PassesOwnAt (model prog w) ((A₀.deeper (envOf name scope L a cd)).mark (some (.ref e))) (A₀.deeper (envOf name scope L a cd)) (envOf name scope L a cd) E) :
    wpAny (model prog w) (A₀.deeper (envOf name scope L a cd)) (noteFrame (.ref e) (envOf name scope L a cd))
      (fun _ s₂ => wpAny (model prog w) (A₀.deeper (envOf name scope L a cd)) (setFlight (.ref e) none) (fun _ s₃ =>
        wpAny (model prog w) (A₀.deeper (envOf name scope L a cd)) (handleBy (.ref e) (envOf name scope L a cd) (.ExceptHandler (some (.Name x np)) none (b₀ :: suite) pos :: rest)) Q E s₃) E s₂) E s' := by
  refine wpAny_looks_onW (Around.frames_deeper hst) rfl hfl fun h₁ held₁ up₁ => ?_
  refine wpAny_landsW held₁ fun h₂ fl₂ up₂ => ?_
  have up := hsm.trans (up₁.trans up₂)
  have F₂ : Fr base L h₂ m := ⟨up.ns hns, fun b o z => fl₂.1 b o (hB b o z), hab⟩
  obtain ⟨ob, hob, hcls⟩ := fl₂.there
  refine wpAny_handleBy_cons (codeAny_handlers_test (name_K F₂ X T ex ?_ hk hx hd)) (by intro z; cases z)
  obtain ⟨bm, N, nm, qn, bs, hdct, sn, sub, ab, col, dd, k0, k1, k2, k3, k5, mN, hC, -, -, TL⟩ := ((own_of_in X T ex q).keeps F₂.keep).obj
  refine wpAny_excMatches_sub_self hC hob hcls (TL.hasType hbase) (codeAny_handlers_suite ?_)
  refine lands_againW fl₂ fun h₃ fl₃ up₃ => ?_
  exact wpAny_passesOwnAt hE (k h₃ fl₃.1 (up.trans up₃))
end
end Mine

namespace Mine

noncomputable def refBody (p : Nat → Pos) : List Stmt :=
  [.Try [.Expr (.Call (.Name "work" (p 0)) [] [] (p 1)) (p 2)] [.ExceptHandler (some (.Name "OutOfRange" (p 3))) none [.Return (some (.Constant (.bool true) 0 (p 4))) (p 5)] (p 6)] [] [] (p 7),
   .Return (some (.Constant (.bool false) 0 (p 8))) (p 9)]

/-- the def that catches, as it stands in the heap -/
noncomputable def RefFacts (S : Glo) (fR : Addr) : Prop :=
  ∃ (oc : Value) (od : Option Addr) (osl : Array (Option Value)) (name qual : Str) (params : Arguments) (scope : Scope) (dV kV doc pm : Value) (an : Option Addr) (cdv ct : Value) (pf : Nat → Pos),
    S.K.lookup fR = some ⟨oc, od, .func (fnOf name qual params (refBody pf) scope dV kV doc pm an cdv ct), osl⟩ ∧ codeIn S.K cdv qual = true ∧
    (∀ s v, BindsTo s (fnOf name qual params (refBody pf) scope dV kV doc pm an cdv ct) ⟨[v], []⟩ [("work", v)]) ∧
    scope.isCoroutine = false ∧ scope.isGenerator = false ∧ scope.kind = .function ∧ (∀ y ∈ scope.names, y.2 ≠ .cell) ∧ scope.names.lookup ("work" : Str) = some .local ∧ scope.names.lookup ("OutOfRange" : Str) = some .globalImplicit ∧
    nsIn S.K mainGlobals "_law_refused" = some (some (.ref fR)) ∧ keepIn S.K (.ref fR) = true

noncomputable def noArgs : Arguments := ⟨[], [], none, [], [], none, []⟩

theorem tab_noDat (ps : Array Value) : NoDat (tabObj ps) := noDat_fields rfl

section
variable {S : Glo} {G : Fix} {d : Nat} {cl : Cl} {D : DC}

theorem lookup_mem' {l : List (Str × NameKind)} {y : Str} {k : NameKind} (h : l.lookup y = some k) : (y, k) ∈ l := lookup_mem h

theorem refused_ok (hf : Facts S G) (hm : MontFacts S G) (hI : InitFacts S G) (hc : CallOK S G (d + 1) cl) (hgl : ∀ g vs H r, cl g vs H = some r → g < gnames.length) {fR : Addr} (hRF : RefFacts S fR) {xL : FX} (hx : xL.OK S G (d + 3)) (hbase : xL.h₀ = G.base)
    {P c : Addr} (hcode : CodeHd xL.h₀ c P) (hccd : xL.ccd = .ref c) (hglo : xL.cs.names.lookup ("_law_refused" : Str) = some .globalImplicit)
    {Dl : DC} {g q : Nat} {e : ME} {es : MEs} {scope : Scope} {pos p1 p2 : Pos} {clos : List (Str × Addr)} {locl loc : List V} (hDl : Dl.good) (hkind : scope.kind = .function) (hco : scope.isCoroutine = false) (hgen : scope.isGenerator = false) (hcell : ∀ y ∈ scope.names, y.2 ≠ .cell)
    (hw : wfE scope Dl.names.length (.call g e es q)) (hlen : locl.length = Dl.names.length) (hpos : 0 < Dl.names.length)
    (hcl : closureFor scope xL.env = pure clos) (hinj : ∀ y y' a, clos.lookup y = some a → clos.lookup y' = some a → y = y')
    (hfr : ∀ (i : Nat), i < Dl.names.length → ∃ j, Dl.nm i = D.nm j ∧ j < D.names.length ∧ locl[i]? = loc[j]? ∧ xL.cs.names.lookup (D.nm j) = some .cell ∧ scope.names.lookup (D.nm j) = some .free ∧ clos.lookup (D.nm j) = xL.cls.lookup (D.nm j))
    {ps : Array Value} (htr : TriplesOk ps.toList) (hna : codeAmong pos ps.toList = none)
    {v : V} {vs : List V} (hA : ev cl locl e ⟨[], none⟩ = some (v, ⟨[], none⟩)) (hB : evs cl locl es ⟨[], none⟩ = some (vs, ⟨[], none⟩)) (hC : cl g (v :: vs) ⟨[], none⟩ = some .exc)
    {s : Shared} {m : Str → Option Value} {cs fz : Led} (F : Fr xL.h₀ xL.L s.heap m) (R : SR G xL.h₀ xL.L s.heap cs ⟨fz, [], []⟩ ⟨[], none⟩) (VV : VarsR G xL D m cs ⟨fz, [], []⟩ loc) (hP : (P, tabObj ps) ∈ cs)
    {E Q : Value → Shared → Prop} (post : ∀ h' tk' cs' c', Fr xL.h₀ xL.L h' m → SR G xL.h₀ xL.L h' cs' ⟨fz, [], []⟩ ⟨[], none⟩ → VarsR G xL D m cs' ⟨fz, [], []⟩ loc → (P, tabObj (ps ++ #[rawInt pos.line, rawInt pos.col, .ref c'])) ∈ cs' → Q (.bool true) { s with heap := h', toks := tk' }) :
    wpAny (model S.prog S.w) xL.A (eval (.Call (.Name "_law_refused" p1) [.Lambda noArgs (dE Dl (.call g e es q)) scope pos] [] p2) xL.env) Q E s := by
  obtain ⟨oc, od, osl, name, qual, params, scR, dV, kV, doc, pm, an, cdv, ct, pf, hlk, hcdR, hbind, hcoR, hgenR, hkR, hcellR, hlw, hlo, hns, hkeep⟩ := hRF
  obtain ⟨pre, post', rfl⟩ := List.append_of_mem hP
  have nd := R.nd
  have nd0 : (((pre ++ (P, tabObj ps) :: post') ++ fz).map (·.1)).Nodup := R.nd
  rw [List.append_assoc, List.cons_append] at nd0
  obtain ⟨n1, n2⟩ := nodup_split nd0
  have U : UpdF P (tabObj ps) ((pre ++ (P, tabObj ps) :: post') ++ fz) (fun o' => (pre ++ (P, o') :: post') ++ fz) := by
    have := updF_of (o := tabObj ps) n2 pre n1
    simpa [List.append_assoc] using this
  have XB : S.K.In G.base := hbase ▸ hx.X
  have TB : TopRead S.p S.loose S.mg S.mb G.base := hbase ▸ topRead_of hx.T
  refine wpAny_Call_NameR (nameX_K F hx.X (topRead_of hx.T) hns ?_ hx.kf hglo (by decide))
  refine callWith_K hx.X hkeep (spliced_more (kla_eval rfl ?_) rfl) rfl rfl
  refine kla_nest (news := (pre ++ (P, tabObj ps) :: post') ++ fz) F R.N hx.T hcode hccd U htr hna hcl ?_
  intro f c' oc' vs' t' ctv h1 tk1 F1 N1 hoc hv lt1 lt2
  generalize hps' : ps ++ #[rawInt pos.line, rawInt pos.col, .ref c'] = ps' at N1
  refine spliced_none ⟨hx.X.keeps F1.keep, ?_⟩
  refine wpAny_call (code_free (s := { s with heap := h1, toks := tk1 }) hx.B F1 hx.X N1 hx.T hx.hA rfl hx.kf hlk hcdR (by have := hx.dep; omega) (hbind _ _) (fun y hy => ?_) ?_ hcoR hgenR hkR hcellR)
  · simp only [List.mem_cons, List.not_mem_nil, or_false] at hy
    subst hy
    exact hlw
  intro gR LR h2 FG FR NR BR XR TR
  -- the body of the def that catches
  refine wpAny_execs_cons (wpAny_Try_except ?_)
  refine wpAny_execs_cons (wpAny_Expr (wpAny_Call_NameR (nameX_L (cl := []) FR (v := .ref f) rfl ?_ hkR hlw (by decide))) ?_ rfl)
  rotate_left
  · unfold interactive
    show (scR.kind == .module && _) = false
    rw [hkR]; rfl
  refine callWith_F0 (FnAt.of NR (.head _)) ?_
  refine wpAny_call (kla_code BR FR XR NR TR (Around.frames_deeper hx.hA) rfl hkR (.head _) (codeRec_news NR (.tail _ (.head _)) hoc hv) ?_ rfl (fun y hy => nomatch hy) ?_ hco hgen hkind hcell)
  · rw [depth_deeper]; have := hx.dep; omega
  intro gl Ll h3 FGl Fl Nl Bl Xl Tl
  let xl : FX := ⟨(xL.A.deeper (envOf qual scR LR fR cdv)).deeper (envX (xL.env.qual ++ "<lambda>") scope Ll f (.ref c') clos), xL.A.deeper (envOf qual scR LR fR cdv), envOf qual scR LR fR cdv :: xL.env :: xL.outer, gl, Ll, f, xL.env.qual ++ "<lambda>", scope, .ref c', clos⟩
  have hxl : xl.OK S G (d + 1) := by
    refine ⟨Bl, Xl, Tl, hkind, Around.frames_deeper (Around.frames_deeper hx.hA), hx.hh, ?_, ?_, fun hno => ?_, hinj⟩
    · show ((xL.A.deeper (envOf qual scR LR fR cdv)).deeper (envX (xL.env.qual ++ "<lambda>") scope Ll f (.ref c') clos)).depth + (d + 1) < _
      rw [depth_deeper, depth_deeper]; have := hx.dep; omega
    · show ((xL.A.deeper (envOf qual scR LR fR cdv)).deeper (envX (xL.env.qual ++ "<lambda>") scope Ll f (.ref c') clos)).units + 4 * (d + 1) + 200 < _
      rw [units_deeper, units_deeper]; have := hx.uni; omega
    · obtain ⟨j, _, _, _, _, hfree, _⟩ := hfr 0 hpos
      exact absurd rfl (hno _ (lookup_mem' hfree)).2
  have memAll : ∀ p, p ∈ (pre ++ (P, tabObj ps') :: post') ++ (Wd.mk ((f, kla_obj "<lambda>" (xL.env.qual ++ "<lambda>") noArgs (dE Dl (.call g e es q)) scope clos ((S.mg "__name__").getD .none) c' ctv) :: (c', oc') :: fz) [] []).all ↔
      p ∈ (f, kla_obj "<lambda>" (xL.env.qual ++ "<lambda>") noArgs (dE Dl (.call g e es q)) scope clos ((S.mg "__name__").getD .none) c' ctv) :: (c', oc') :: ((pre ++ (P, tabObj ps') :: post') ++ fz) := by
    intro p
    simp only [Wd.all, List.nil_append, List.mem_append, List.mem_cons]
    constructor
    · rintro ((h | h | h) | h | h | h) <;> simp [h]
    · rintro (h | h | (h | h | h) | h) <;> simp [h]
  have cellsOk : CellsOnly (pre ++ (P, tabObj ps') :: post') := by
    intro p hp
    rcases List.mem_append.mp hp with h | h
    · exact R.cells p (List.mem_append_left _ h)
    · rcases List.mem_cons.mp h with rfl | h
      · exact tab_noDat _
      · exact R.cells p (List.mem_append_right _ (.tail _ h))
  have cellMem : ∀ p ∈ pre ++ (P, tabObj ps) :: post', (∃ v₀, p.2.data = .cell v₀) → p ∈ pre ++ (P, tabObj ps') :: post' := by
    rintro p hp ⟨v₀, hd⟩
    rcases List.mem_append.mp hp with h | h
    · exact List.mem_append_left _ h
    · rcases List.mem_cons.mp h with rfl | h
      · cases hd
      · exact List.mem_append_right _ (.tail _ h)
  have nd2 : (((pre ++ (P, tabObj ps') :: post') ++ fz).map (·.1)).Nodup := by
    have := R.nd
    simpa [Wd.all] using this
  have old : ∀ p ∈ (pre ++ (P, tabObj ps') :: post') ++ fz, p.1 < c' := by
    intro p hp
    have : p.1 ∈ ((pre ++ (P, tabObj ps) :: post') ++ fz).map (·.1) := by
      have := List.mem_map_of_mem (f := (·.1)) hp
      simpa using this
    obtain ⟨p0, hp0, e0⟩ := List.mem_map.mp this
    rw [← e0]
    exact lt1 p0 hp0
  have RL : SR G xl.h₀ xl.L h3 (pre ++ (P, tabObj ps') :: post') ⟨(f, kla_obj "<lambda>" (xL.env.qual ++ "<lambda>") noArgs (dE Dl (.call g e es q)) scope clos ((S.mg "__name__").getD .none) c' ctv) :: (c', oc') :: fz, [], []⟩ ⟨[], none⟩ := by
    refine ⟨fun p hp => Nl p ((memAll p).mp hp), ?_, ⟨rfl, fun k xs h => by simp at h⟩, rfl, cellsOk⟩
    have hp : ((pre ++ (P, tabObj ps') :: post') ++ (Wd.mk ((f, kla_obj "<lambda>" (xL.env.qual ++ "<lambda>") noArgs (dE Dl (.call g e es q)) scope clos ((S.mg "__name__").getD .none) c' ctv) :: (c', oc') :: fz) [] []).all).Perm
        ((f, kla_obj "<lambda>" (xL.env.qual ++ "<lambda>") noArgs (dE Dl (.call g e es q)) scope clos ((S.mg "__name__").getD .none) c' ctv) :: (c', oc') :: ((pre ++ (P, tabObj ps') :: post') ++ fz)) := by
      simp only [Wd.all, List.nil_append]
      refine (List.perm_middle).trans (List.Perm.cons _ ?_)
      exact List.perm_middle
    refine (List.Perm.nodup_iff (hp.map _)).mpr ?_
    simp only [List.map_cons]
    refine List.nodup_cons.mpr ⟨fun hmem => ?_, List.nodup_cons.mpr ⟨fun hmem => ?_, nd2⟩⟩
    · rcases List.mem_cons.mp hmem with h | h
      · exact absurd lt2 (h ▸ Nat.lt_irrefl _)
      · obtain ⟨p, hp, e0⟩ := List.mem_map.mp h
        have := old p hp
        rw [e0] at this
        exact absurd (Nat.lt_trans this lt2) (Nat.lt_irrefl _)
    · obtain ⟨p, hp, e0⟩ := List.mem_map.mp hmem
      have := old p hp
      rw [e0] at this
      exact absurd this (Nat.lt_irrefl _)
  have hWle : WLe ⟨fz, [], []⟩ ⟨(f, kla_obj "<lambda>" (xL.env.qual ++ "<lambda>") noArgs (dE Dl (.call g e es q)) scope clos ((S.mg "__name__").getD .none) c' ctv) :: (c', oc') :: fz, [], []⟩ :=
    ⟨fun p hp => .tail _ (.tail _ hp), fun _ _ e => e, fun _ e => e⟩
  have VVl : VarsR G xl Dl (fun y => ([] : List (Str × Value)).reverse.lookup y) (pre ++ (P, tabObj ps') :: post') ⟨(f, kla_obj "<lambda>" (xL.env.qual ++ "<lambda>") noArgs (dE Dl (.call g e es q)) scope clos ((S.mg "__name__").getD .none) c' ctv) :: (c', oc') :: fz, [], []⟩ locl := by
    refine ⟨hlen, fun i hi => ?_, fun i v0 hv0 hne => ?_⟩
    · obtain ⟨j, e1, hj, e2, e3, e4, e5⟩ := hfr i hi
      rcases VV.kinds j hj with h | ⟨_, cc, o, v₀, k1, k2, k3⟩
      · rw [e3] at h; cases h
      · right
        rw [e1]
        exact ⟨.inr e4, cc, o, v₀, e5.trans k1, cellMem _ k2 ⟨_, k3⟩, k3⟩
    · have hi : i < Dl.names.length := by
        rw [← hlen]
        by_cases hq : i < locl.length
        · exact hq
        · rw [List.getElem?_eq_none (by omega)] at hv0; cases hv0
      obtain ⟨j, e1, hj, e2, e3, e4, e5⟩ := hfr i hi
      rw [e2] at hv0
      obtain ⟨vr, ha, hr⟩ := VV.vars j v0 hv0 hne
      refine ⟨vr, ?_, hr.mono hWle⟩
      rcases ha with ⟨h, _⟩ | ⟨_, cc, o, k1, k2, k3⟩
      · rw [e3] at h; cases h
      · right
        rw [e1]
        exact ⟨.inr e4, cc, o, e5.trans k1, cellMem _ k2 ⟨_, k3⟩, k3⟩
  -- the call within raises
  refine exc_call (x := xl) hf hc (ev_all hDl hf hm hI hc hgl e).1 (evs_all hDl hf hm hI hc hgl es).1 g q hxl hw hA hB hC Fl RL VVl ?_
  intro ex tt us g4 h4 tk4 W' L' F4 up4 RK
  obtain ⟨⟨B, hB', hl, hfl, hnew⟩, htup⟩ := RK
  refine wpAny_leaves_onW (A := xl.A) (env := xl.env) (outer := xl.outer) (s := { s with heap := h4, toks := tk4 }) hxl.hA rfl hfl fun h5 fl5 up5 => ?_
  -- and is caught
  have hlim : G.base.objs.size ≤ LR := by
    have a1 : G.base.objs.size ≤ xL.L := by rw [← hbase]; exact F.above
    have a2 : xL.L < gR.objs.size := FG.ns.lt
    exact Nat.le_trans a1 (Nat.le_trans (Nat.le_of_lt a2) FR.above)
  refine caught_mine (G := gl) (B := B) (A₀ := xL.A) (outer := xL.env :: xL.outer) hx.hA FGl.ns hlim hB' (((Heap.UpToSlots.of_keeps F4.keep).trans up4).trans up5) fl5 XB TB hf.cx hf.ce (by decide) ?_ hkR hlo (by decide) (by passes_own)
  intro h6 st6 up6
  refine wpAny_execs_cons (wpAny_Return_some ?_)
  show wpAny _ _ (constValue _ (.bool true)) _ _ _
  refine wpAny_pure ?_
  have N1' : ∀ p ∈ (pre ++ (P, tabObj ps') :: post') ++ fz, p.1 ≠ xL.L := fun p hp => (N1 p (.tail _ (.tail _ hp))).2.1
  have F6 : Fr xL.h₀ xL.L h6 m := ⟨up6.ns (FG.ns.keeps FGl.keep), fun b o z => st6 b o (hB' b o (hbase ▸ z)), F.above⟩
  refine post h6 _ (pre ++ (P, tabObj ps') :: post') c' F6 ⟨fun p hp => ?_, nd2, ⟨rfl, fun k xs h => by simp at h⟩, rfl, cellsOk⟩ (VV.csMono cellMem) (by rw [hps']; simp)
  have hp' : p ∈ (pre ++ (P, tabObj ps') :: post') ++ fz := hp
  have hq := hl p (by
    rcases List.mem_append.mp hp' with h | h
    · exact List.mem_append_left _ h
    · exact List.mem_append_right _ (L'.fz p (.tail _ (.tail _ h))))
  refine ⟨st6 _ _ hq.1, N1' p hp', ?_⟩
  rw [hbase]
  exact hq.2
end
end Mine

namespace Mine

section
variable {S : Glo} {G : Fix} {d : Nat} {cl : Cl} {D : DC}

theorem lst_reads {x : FX} (hx : x.OK S G d) {h : Heap} {cs : Led} {W : Wd} {H : Hp} {m : Str → Option Value} (F : Fr x.h₀ x.L h m) (R : SR G x.h₀ x.L h cs W H) {xs : List Int} {vr : Value} (hv : VR G W (.lst xs) vr) : ∃ as, Reads h vr (.list (xs.map PyData.int)) as := by
  obtain ⟨l, rfl, hl⟩ := hv
  obtain ⟨_, vs, hi, hlist, _⟩ := R.isList hx F hl
  exact ⟨_, reads_of_ints hlist hi⟩

theorem reads4 {h : Heap} {v1 v2 v3 v4 : Value} {d1 d2 d3 d4 : PyData} {T : Addr} {n : Nat} (h1 : ∃ as, Reads h v1 d1 as) (h2 : ∃ as, Reads h v2 d2 as) (h3 : ∃ as, Reads h v3 d3 as) (h4 : ∃ as, Reads h v4 d4 as) (hT : h.get? T = some { cls := .type "tuple", data := .seq [v1, v2, v3, v4].toArray n }) :
    ∃ as, Reads h (.ref T) (.tuple [d1, d2, d3, d4]) as := by
  obtain ⟨a1, h1⟩ := h1
  obtain ⟨a2, h2⟩ := h2
  obtain ⟨a3, h3⟩ := h3
  obtain ⟨a4, h4⟩ := h4
  exact ⟨_, reads_tuple_at hT rfl rfl (.cons h1 (.cons h2 (.cons h3 (.cons h4 .nil))))⟩

theorem tuple_eq_ok {x : FX} (hx : x.OK S G d) {es1 es2 : MEs} (h1 : ESOK S G d cl D es1) (h2 : ESOK S G d cl D es2) (hw1 : wfEs x.cs D.names.length es1) (hw2 : wfEs x.cs D.names.length es2) {k1 k2 : Nat} {p1 p2 p3 p4 : Pos}
    {l1 l2 l3 l4 : List Int} {loc : List V} {H H1 H2 : Hp} (e1 : evs cl loc es1 H = some ([.lst l1, .lst l2, .lst l3, .lst l4], H1)) (e2 : evs cl loc es2 H1 = some ([.lst l1, .lst l2, .lst l3, .lst l4], H2))
    {s : Shared} {m : Str → Option Value} {cs : Led} {W : Wd} (F : Fr x.h₀ x.L s.heap m) (R : SR G x.h₀ x.L s.heap cs W H) (VV : VarsR G x D m cs W loc) {E : Value → Shared → Prop} {Q : Flow → Shared → Prop}
    (post : ∀ h' tk' W', Fr x.h₀ x.L h' m → SR G x.h₀ x.L h' cs W' H2 → Q (.ret (.bool true)) { s with heap := h', toks := tk' }) :
    wpAny (model S.prog S.w) x.A (exec (.Return (some (.Compare (.Tuple (dEs D es1) k1 p1) [.Eq] [.Tuple (dEs D es2) k2 p2] p3)) p4) x.env) Q E s := by
  refine wpAny_Return_some (wpAny_Compare1 (Tuple_ (h1 x hx hw1 p1 _ _ s m cs W loc H _ _ e1 F R VV ?_)) rfl)
  intro vrs g1 t1 W1 F1 R1 L1 V1
  obtain ⟨r1, rs1, rfl, a1, V1⟩ := vrs_cons V1
  obtain ⟨r2, rs2, rfl, a2, V1⟩ := vrs_cons V1
  obtain ⟨r3, rs3, rfl, a3, V1⟩ := vrs_cons V1
  obtain ⟨r4, rfl, a4⟩ := vrs_one V1
  refine newTuple_N (s := { s with heap := g1, toks := t1 }) F1 R1.N (fun g2 F2 N2 => ?_) (by simp [sizeLine_eq])
  obtain ⟨R2, L2⟩ := R1.addFz N2 (fun p hp => Nat.ne_of_lt (R1.lt p hp))
  refine Tuple_ (h2 x hx hw2 p2 _ _ { s with heap := g2, toks := t1 } m cs _ loc H1 _ _ e2 F2 R2 (VV.mono (L1.trans L2)) ?_)
  intro vrs g3 t3 W3 F3 R3 L3 V3
  obtain ⟨u1, us1, rfl, b1, V3⟩ := vrs_cons V3
  obtain ⟨u2, us2, rfl, b2, V3⟩ := vrs_cons V3
  obtain ⟨u3, us3, rfl, b3, V3⟩ := vrs_cons V3
  obtain ⟨u4, rfl, b4⟩ := vrs_one V3
  refine newTuple_N (s := { s with heap := g3, toks := t3 }) F3 R3.N (fun g4 F4 N4 => ?_) (by simp [sizeLine_eq])
  obtain ⟨R4, L4⟩ := R3.addFz N4 (fun p hp => Nat.ne_of_lt (R3.lt p hp))
  have L14 := L2.trans (L3.trans L4)
  have L24 := L3.trans L4
  have hT1 := L24.fz _ (List.Mem.head _)
  have gT1 := (R4.N _ (List.mem_append_right _ (List.mem_append_right _ (List.mem_append_right _ hT1)))).1
  have gT2 := (R4.N _ (List.mem_append_right _ (List.mem_append_right _ (List.mem_append_right _ (List.Mem.head _))))).1
  obtain ⟨as, ra⟩ := reads4 (lst_reads hx F4 R4 (a1.mono L14)) (lst_reads hx F4 R4 (a2.mono L14)) (lst_reads hx F4 R4 (a3.mono L14)) (lst_reads hx F4 R4 (a4.mono L14)) gT1
  obtain ⟨bs, rb⟩ := reads4 (lst_reads hx F4 R4 (b1.mono L4)) (lst_reads hx F4 R4 (b2.mono L4)) (lst_reads hx F4 R4 (b3.mono L4)) (lst_reads hx F4 R4 (b4.mono L4)) gT2
  have hsh : SeqAt.shaped (.tuple [.list (l1.map PyData.int), .list (l2.map PyData.int), .list (l3.map PyData.int), .list (l4.map PyData.int)]) = true := by
    simp [SeqAt.shaped, PyData.canLay0, PyData.canLayAll0, PyData.depth, PyData.depthAll, ke_canLayAll0, ke_depthAll]
  refine eq_dataH (s := { s with heap := g4, toks := t3 }) ra rb hsh hsh (units_eq hx) ?_
  have hev : PyData.eqv (.tuple [.list (l1.map PyData.int), .list (l2.map PyData.int), .list (l3.map PyData.int), .list (l4.map PyData.int)]) (.tuple [.list (l1.map PyData.int), .list (l2.map PyData.int), .list (l3.map PyData.int), .list (l4.map PyData.int)]) = true := by
    simp [PyData.eqv, PyData.eqvAll, ked_eqvAll]
  rw [hev]
  exact post g4 t3 _ F4 R4
end
end Mine

namespace Mine

noncomputable def scLaw : Scope := ⟨.function, [(Str.ofString "script", .local), (Str.ofString "box", .local), (Str.ofString "limb", .local), (Str.ofString "x", .local), (Str.ofString "y", .local), (Str.ofString "number", .local), (Str.ofString "a", .local), (Str.ofString "b", .local), (Str.ofString "wide", .local), (Str.ofString "found", .local), (Str.ofString "m", .cell), (Str.ofString "row", .cell), (Str.ofString "size", .cell), (Str.ofString "told", .cell), (Str.ofString "w", .cell), (Str.ofString "_law_box", .globalImplicit), (Str.ofString "_law_draw", .globalImplicit), (Str.ofString "_law_size", .globalImplicit), (Str.ofString "_law_row", .globalImplicit), (Str.ofString "len", .globalImplicit), (Str.ofString "mont_make", .globalImplicit), (Str.ofString "_law_told_right", .globalImplicit), (Str.ofString "_law_reduced_right", .globalImplicit), (Str.ofString "redc", .globalImplicit), (Str.ofString "to_mont", .globalImplicit), (Str.ofString "_law_mul", .globalImplicit), (Str.ofString "from_mont", .globalImplicit), (Str.ofString "mont_mul", .globalImplicit), (Str.ofString "mont_rows", .globalImplicit), (Str.ofString "scaled_rest", .globalImplicit), (Str.ofString "_law_refused", .globalImplicit)], false, false, []⟩
noncomputable def DL0 : DC := ⟨["m", "size", "told", "w"], posn [(225, 22, 225, 23), (225, 26, 225, 30), (225, 22, 225, 30), (225, 32, 225, 33), (225, 13, 225, 21), (225, 13, 225, 34), (225, 36, 225, 40), (225, 42, 225, 43), (225, 8, 225, 12), (225, 8, 225, 44)]⟩
noncomputable def eL0 : ME := .call 20 (.bin .mul (.loc 0 0) (.loc 1 1) 2) (.cons (.loc 3 3) .nil) 4
noncomputable def esL0 : MEs := .cons (.loc 2 6) (.cons (.loc 3 7) .nil)
noncomputable def scL0 : Scope := ⟨.function, [(Str.ofString "m", .free), (Str.ofString "size", .free), (Str.ofString "told", .free), (Str.ofString "w", .free), (Str.ofString "redc", .globalImplicit), (Str.ofString "_law_row", .globalImplicit)], false, false, []⟩
noncomputable def DL1 : DC := ⟨["row", "told", "w"], posn [(228, 16, 228, 19), (228, 21, 228, 25), (228, 27, 228, 28), (228, 30, 228, 38), (228, 8, 228, 15), (228, 8, 228, 39)]⟩
noncomputable def eL1 : ME := .loc 0 0
noncomputable def esL1 : MEs := .cons (.loc 1 1) (.cons (.loc 2 2) (.cons (.glob 22 3) .nil))
noncomputable def scL1 : Scope := ⟨.function, [(Str.ofString "row", .free), (Str.ofString "told", .free), (Str.ofString "w", .free), (Str.ofString "to_mont", .globalImplicit), (Str.ofString "_law_mul", .globalImplicit)], false, false, []⟩
noncomputable def DL2 : DC := ⟨["m", "w"], posn [(231, 27, 231, 28), (231, 31, 231, 32), (231, 27, 231, 32), (231, 34, 231, 35), (231, 18, 231, 26), (231, 18, 231, 36), (231, 38, 231, 39), (231, 8, 231, 17), (231, 8, 231, 40)]⟩
noncomputable def eL2 : ME := .call 20 (.bin .add (.loc 0 0) (.int 1 1) 2) (.cons (.loc 1 3) .nil) 4
noncomputable def esL2 : MEs := .cons (.loc 1 6) .nil
noncomputable def scL2 : Scope := ⟨.function, [(Str.ofString "m", .free), (Str.ofString "w", .free), (Str.ofString "mont_make", .globalImplicit), (Str.ofString "_law_row", .globalImplicit)], false, false, []⟩
noncomputable def DL3 : DC := ⟨["w"], posn [(232, 18, 232, 20), (232, 22, 232, 23), (232, 8, 232, 17), (232, 8, 232, 24)]⟩
noncomputable def eL3 : ME := .nil false 0
noncomputable def esL3 : MEs := .cons (.loc 0 1) .nil
noncomputable def scL3 : Scope := ⟨.function, [(Str.ofString "w", .free), (Str.ofString "mont_make", .globalImplicit)], false, false, []⟩
/-- the last statement's places, the law's names -/
noncomputable def DT : DC := ⟨D_law.names, posn [(234, 12, 234, 13), (234, 15, 234, 16), (234, 18, 234, 22), (234, 24, 234, 27),
  (234, 42, 234, 43), (234, 45, 234, 46), (234, 33, 234, 41), (234, 33, 234, 47),
  (234, 58, 234, 59), (234, 61, 234, 62), (234, 49, 234, 57), (234, 49, 234, 63),
  (234, 74, 234, 80), (234, 82, 234, 83), (234, 65, 234, 73), (234, 65, 234, 84),
  (234, 95, 234, 96), (234, 98, 234, 99), (234, 86, 234, 94), (234, 86, 234, 100)]⟩
noncomputable def esT1 : MEs := .cons (.loc 6 0) (.cons (.loc 7 1) (.cons (.loc 8 2) (.cons (.loc 11 3) .nil)))
noncomputable def esT2 : MEs := .cons (.call 20 (.loc 3 4) (.cons (.loc 14 5) .nil) 6) (.cons (.call 20 (.loc 4 8) (.cons (.loc 14 9) .nil) 10) (.cons (.call 20 (.loc 5 12) (.cons (.loc 14 13) .nil) 14) (.cons (.call 20 (.loc 10 16) (.cons (.loc 14 17) .nil) 18) .nil)))

noncomputable def askL (p1 p2 pos : Pos) (D : DC) (g q : Nat) (e : ME) (es : MEs) (sc : Scope) : Expr := .Call (.Name "_law_refused" p1) [.Lambda noArgs (dE D (.call g e es q)) sc pos] [] p2
noncomputable def retF (p q : Pos) : List Stmt := [.Return (some (.Constant (.bool false) 0 p)) q]
noncomputable def lawTail : List Stmt :=
  [.If (.UnaryOp .Not (askL ⟨224, 11, 224, 23⟩ ⟨224, 11, 225, 46⟩ ⟨225, 0, 225, 44⟩ DL0 13 8 eL0 esL0 scL0) ⟨224, 7, 225, 46⟩) (retF ⟨226, 15, 226, 20⟩ ⟨226, 8, 226, 20⟩) [] ⟨224, 4, 226, 20⟩,
   .If (.UnaryOp .Not (askL ⟨227, 11, 227, 23⟩ ⟨227, 11, 228, 41⟩ ⟨228, 0, 228, 39⟩ DL1 14 4 eL1 esL1 scL1) ⟨227, 7, 228, 41⟩) (retF ⟨229, 15, 229, 20⟩ ⟨229, 8, 229, 20⟩) [] ⟨227, 4, 229, 20⟩,
   .If (.BoolOp .Or [.UnaryOp .Not (askL ⟨230, 11, 230, 23⟩ ⟨230, 11, 231, 42⟩ ⟨231, 0, 231, 40⟩ DL2 10 7 eL2 esL2 scL2) ⟨230, 7, 231, 42⟩,
       .UnaryOp .Not (askL ⟨231, 50, 231, 62⟩ ⟨231, 50, 232, 26⟩ ⟨232, 0, 232, 24⟩ DL3 10 2 eL3 esL3 scL3) ⟨231, 46, 232, 26⟩] ⟨230, 7, 232, 26⟩) (retF ⟨233, 15, 233, 20⟩ ⟨233, 8, 233, 20⟩) [] ⟨230, 4, 233, 20⟩,
   .Return (some (.Compare (.Tuple (dEs DT esT1) 0 ⟨234, 11, 234, 28⟩) [.Eq] [.Tuple (dEs DT esT2) 0 ⟨234, 32, 234, 101⟩] ⟨234, 11, 234, 101⟩)) ⟨234, 4, 234, 101⟩]

noncomputable def lawCells (L : Addr) : List (Str × Addr) := [("w", L + 5), ("told", L + 4), ("size", L + 3), ("row", L + 2), ("m", L + 1)]
noncomputable def lawFX (H0 : Heap) (L fa c : Addr) : FX := ⟨callerA.deeper (envX "law" scLaw L fa (.ref c) (lawCells L)), callerA, [], H0, L, fa, "law", scLaw, .ref c, lawCells L⟩

theorem wl {cs : Scope} {n i q : Nat} (h : i < n) : wfE cs n (.loc i q) := h
theorem inj_of {l : List (Str × Addr)} (h : (l.map (·.2)).Nodup) : ∀ y y' a, l.lookup y = some a → l.lookup y' = some a → y = y' := by
  intro y y' a h1 h2
  have m1 := lookup_mem h1
  have m2 := lookup_mem h2
  clear h1 h2
  induction l with
  | nil => cases m1
  | cons p r ih =>
    rw [List.map_cons, List.nodup_cons] at h
    rcases List.mem_cons.mp m1 with e1 | k1
    · rcases List.mem_cons.mp m2 with e2 | k2
      · rw [← e1] at e2; cases e2; rfl
      · exact absurd (List.mem_map.mpr ⟨_, k2, by rw [← e1]⟩) h.1
    · rcases List.mem_cons.mp m2 with e2 | k2
      · exact absurd (List.mem_map.mpr ⟨_, k1, by rw [← e2]⟩) h.1
      · exact ih h.2 k1 k2

/-- the law's names behind the fourteen statements, the box forgotten -/
noncomputable def LawSt.loc2 (s : LawSt) (xs : List Int) : List V :=
  [.lst xs, .unset, .int s.limb, .int s.x, .int s.y, .int s.number, .lst (row (2 ^ s.w) s.x), .lst (row (2 ^ s.w) s.y), .lst (row (2 ^ s.w) s.number), .lst (row (2 ^ s.w) s.z), .int s.M, .lst (row (2 ^ s.w) s.M), .int (big s.w s.M), told s.w s.M s.q, .int s.w]

section
variable {S : Glo} {G : Fix}

theorem law_tail (hf : Facts S G) (hm : MontFacts S G) (hI : InitFacts S G) (n : Nat) (hc : CallOK S G (n + 6 + 1) (callM PT (n + 6))) (hgl : ∀ g vs H r, callM PT (n + 6) g vs H = some r → g < gnames.length) {fR : Addr} (hRF : RefFacts S fR)
    {H0 : Heap} {L fa c P : Addr} (hx : (lawFX H0 L fa c).OK S G (n + 6 + 3)) (hbase : H0 = G.base) (hcode : CodeHd H0 c P) (st : LawSt) (hok : st.ok) (xs : List Int)
    {s : Shared} {m : Str → Option Value} {cs fz : Led} (F : Fr H0 L s.heap m) (R : SR G H0 L s.heap cs ⟨fz, [], []⟩ ⟨[], none⟩) (VV : VarsR G (lawFX H0 L fa c) D_law m cs ⟨fz, [], []⟩ (st.loc2 xs)) (hP : (P, tabObj #[]) ∈ cs)
    {E : Value → Shared → Prop} {Q : Flow → Shared → Prop} (post : ∀ h' tk', Fr H0 L h' m → GrownAt P h' → Q (.ret (.bool true)) { s with heap := h', toks := tk' }) :
    wpAny (model S.prog S.w) (lawFX H0 L fa c).A (execs lawTail (lawFX H0 L fa c).env) Q E s := by
  obtain ⟨hp, hq, rx, ry, rn⟩ := hok
  have hw := hp.hw
  have hB := B_rng hw
  have hM0 := hp.pos
  have hsm := hp.small
  have hbp := hp.big_pos
  have hbl := hp.big_lt
  have hmb := hp.mbig_lt
  have hodd := hp.odd
  have k1 : (2 : Int) ^ 40 < 2 ^ 200 := by decide
  have k2 : (2 : Int) ^ 50 < 2 ^ 256 := by decide
  have k3 : (2 : Int) ^ 90 < 2 ^ 200 := by decide
  have k4 : (2 : Int) ^ 40 < 2 ^ 256 := by decide
  have hmb0 : 0 ≤ st.M * big st.w st.M := Int.mul_nonneg (by omega) (by omega)
  have hdeep : CallOK S G (n + 6 + 1) (callM PT (n + 6)) := hc
  -- first
  refine wpAny_execs_cons (wpAny_If (isTrue_not (isTrue_plain ?_ rfl)))
  refine refused_ok (D := D_law) (d := n + 6) (Dl := DL0) (g := 13) (q := 8) (e := eL0) (es := esL0) (scope := scL0) (clos := [("w", L + 5), ("told", L + 4), ("size", L + 3), ("m", L + 1)]) (locl := [.int st.M, .int (big st.w st.M), told st.w st.M st.q, .int st.w]) (loc := st.loc2 xs)
    (v := .lst (row (2 ^ st.w) (st.M * big st.w st.M))) (vs := [told st.w st.M st.q, .int st.w]) (ps := #[]) (m := m) (cs := cs) (fz := fz) hf hm hI hdeep hgl hRF hx hbase hcode rfl rfl ⟨by decide, by decide, by decide⟩ rfl rfl rfl (by decide) ⟨⟨by decide, rfl⟩, ⟨⟨by decide, rfl⟩, ⟨wl (by decide), wl (by decide)⟩, wl (by decide), trivial⟩, wl (by decide), wl (by decide), trivial⟩ rfl (by decide) rfl
    (inj_of (by simp)) ?_ trivial rfl ?_ ?_ ?_ F R VV hP ?_
  · intro i hi
    match i, hi with
    | 0, _ => exact ⟨10, rfl, by decide, rfl, rfl, rfl, rfl⟩
    | 1, _ => exact ⟨12, rfl, by decide, rfl, rfl, rfl, rfl⟩
    | 2, _ => exact ⟨13, rfl, by decide, rfl, rfl, rfl, rfl⟩
    | 3, _ => exact ⟨14, rfl, by decide, rfl, rfl, rfl, rfl⟩
  · have hmul : arith .mul st.M (big st.w st.M) = some (st.M * big st.w st.M) := ar_mul (okM_rng (by omega) (by omega)) (okM_rng (by omega) (by omega))
    have hrow := law_row_v hw (n + 5) (H := ⟨[], none⟩) (x := st.M * big st.w st.M) ⟨hmb0, by omega⟩
    simp only [eL0, ev, evs, evl, ex, exs, get0, get1, get2, get3, get4, get5, get6, get7, get8, get9, get10, get11, get12, get13, get14, set0, set1, set2, set3, set4, set5, set6, set7, set8, set9, set10, set11, set12, set13, set14, ar_add, ar_sub, ar_and, ar_or, ar_shr, items_lst, itemV_lst, itemV_box0, itemV_box1, itemV_box2, cmpV_int, cmpV_eqL, cmpV_neL, cmpI_eq, cmpI_ne, cmpI_lt, cmpI_le, cmpI_gt, cmpI_ge, attrV, reduceIte, if_true, if_false, decide_true, decide_false, Bool.not_true, Bool.not_false, Bool.false_eq_true, reduceCtorEq, decide_eq_true_eq, Int.toNat_natCast, Option.map_some, nn, Int.reduceLE, Int.reduceToNat, Int.reduceLT, Int.reduceEq, Int.reduceNeg, Int.le_refl, hmul, hrow]
  · simp only [esL0, ev, evs, evl, ex, exs, get0, get1, get2, get3, get4, get5, get6, get7, get8, get9, get10, get11, get12, get13, get14, set0, set1, set2, set3, set4, set5, set6, set7, set8, set9, set10, set11, set12, set13, set14, ar_add, ar_sub, ar_and, ar_or, ar_shr, items_lst, itemV_lst, itemV_box0, itemV_box1, itemV_box2, cmpV_int, cmpV_eqL, cmpV_neL, cmpI_eq, cmpI_ne, cmpI_lt, cmpI_le, cmpI_gt, cmpI_ge, attrV, reduceIte, if_true, if_false, decide_true, decide_false, Bool.not_true, Bool.not_false, Bool.false_eq_true, reduceCtorEq, decide_eq_true_eq, Int.toNat_natCast, Option.map_some, nn, Int.reduceLE, Int.reduceToNat, Int.reduceLT, Int.reduceEq, Int.reduceNeg, Int.le_refl]
  · exact redc_exc hp (n + 2) ⟨hmb0, by omega⟩ (Int.le_refl _)
  intro h1 t1 cs1 c1 F1 R1 VV1 hP1
  refine wpAny_truthy_bool (wpAny_execs_nil ?_)
  -- second
  refine wpAny_execs_cons (wpAny_If (isTrue_not (isTrue_plain ?_ rfl)))
  refine refused_ok (D := D_law) (d := n + 6) (Dl := DL1) (g := 14) (q := 4) (e := eL1) (es := esL1) (scope := scL1) (clos := [("w", L + 5), ("told", L + 4), ("row", L + 2)]) (locl := [.lst (row (2 ^ st.w) st.M), told st.w st.M st.q, .int st.w]) (loc := st.loc2 xs)
    (v := .lst (row (2 ^ st.w) st.M)) (vs := [told st.w st.M st.q, .int st.w, .fn 22]) (m := m) (cs := cs1) (fz := fz) hf hm hI hdeep hgl hRF hx hbase hcode rfl rfl ⟨by decide, by decide, by decide⟩ rfl rfl rfl (by decide) ⟨⟨by decide, rfl⟩, wl (by decide), wl (by decide), wl (by decide), ⟨by decide, rfl⟩, trivial⟩ rfl (by decide) rfl
    (inj_of (by simp)) ?_ ?_ ?_ ?_ ?_ ?_ (s := { s with heap := h1, toks := t1 }) F1 R1 VV1 hP1 ?_
  · intro i hi
    match i, hi with
    | 0, _ => exact ⟨11, rfl, by decide, rfl, rfl, rfl, rfl⟩
    | 1, _ => exact ⟨13, rfl, by decide, rfl, rfl, rfl, rfl⟩
    | 2, _ => exact ⟨14, rfl, by decide, rfl, rfl, rfl, rfl⟩
  · exact trivial
  · rfl
  · simp only [eL1, ev, evs, evl, ex, exs, get0, get1, get2, get3, get4, get5, get6, get7, get8, get9, get10, get11, get12, get13, get14, set0, set1, set2, set3, set4, set5, set6, set7, set8, set9, set10, set11, set12, set13, set14, ar_add, ar_sub, ar_and, ar_or, ar_shr, items_lst, itemV_lst, itemV_box0, itemV_box1, itemV_box2, cmpV_int, cmpV_eqL, cmpV_neL, cmpI_eq, cmpI_ne, cmpI_lt, cmpI_le, cmpI_gt, cmpI_ge, attrV, reduceIte, if_true, if_false, decide_true, decide_false, Bool.not_true, Bool.not_false, Bool.false_eq_true, reduceCtorEq, decide_eq_true_eq, Int.toNat_natCast, Option.map_some, nn, Int.reduceLE, Int.reduceToNat, Int.reduceLT, Int.reduceEq, Int.reduceNeg, Int.le_refl]
  · simp only [esL1, ev, evs, evl, ex, exs, get0, get1, get2, get3, get4, get5, get6, get7, get8, get9, get10, get11, get12, get13, get14, set0, set1, set2, set3, set4, set5, set6, set7, set8, set9, set10, set11, set12, set13, set14, ar_add, ar_sub, ar_and, ar_or, ar_shr, items_lst, itemV_lst, itemV_box0, itemV_box1, itemV_box2, cmpV_int, cmpV_eqL, cmpV_neL, cmpI_eq, cmpI_ne, cmpI_lt, cmpI_le, cmpI_gt, cmpI_ge, attrV, reduceIte, if_true, if_false, decide_true, decide_false, Bool.not_true, Bool.not_false, Bool.false_eq_true, reduceCtorEq, decide_eq_true_eq, Int.toNat_natCast, Option.map_some, nn, Int.reduceLE, Int.reduceToNat, Int.reduceLT, Int.reduceEq, Int.reduceNeg, Int.le_refl]
  · exact to_mont_exc hp (n + 1) hp.sm (Int.le_refl _)
  intro h2 t2 cs2 c2 F2 R2 VV2 hP2
  refine wpAny_truthy_bool (wpAny_execs_nil ?_)
  -- third
  refine wpAny_execs_cons (wpAny_If (isTrue_or (isTrue_not (isTrue_plain ?_ rfl))))
  refine refused_ok (D := D_law) (d := n + 6) (Dl := DL2) (g := 10) (q := 7) (e := eL2) (es := esL2) (scope := scL2) (clos := [("w", L + 5), ("m", L + 1)]) (locl := [.int st.M, .int st.w]) (loc := st.loc2 xs)
    (v := .lst (row (2 ^ st.w) (st.M + 1))) (vs := [.int st.w]) (m := m) (cs := cs2) (fz := fz) hf hm hI hdeep hgl hRF hx hbase hcode rfl rfl ⟨by decide, by decide, by decide⟩ rfl rfl rfl (by decide) ⟨⟨by decide, rfl⟩, ⟨⟨by decide, rfl⟩, ⟨wl (by decide), trivial⟩, wl (by decide), trivial⟩, wl (by decide), trivial⟩ rfl (by decide) rfl
    (inj_of (by simp)) ?_ ?_ ?_ ?_ ?_ ?_ (s := { s with heap := h2, toks := t2 }) F2 R2 VV2 hP2 ?_
  · intro i hi
    match i, hi with
    | 0, _ => exact ⟨10, rfl, by decide, rfl, rfl, rfl, rfl⟩
    | 1, _ => exact ⟨14, rfl, by decide, rfl, rfl, rfl, rfl⟩
  · exact trivial
  · rfl
  · have hrow := law_row_v hw (n + 5) (H := ⟨[], none⟩) (x := st.M + 1) ⟨by omega, by omega⟩
    simp only [eL2, ev, evs, evl, ex, exs, get0, get1, get2, get3, get4, get5, get6, get7, get8, get9, get10, get11, get12, get13, get14, set0, set1, set2, set3, set4, set5, set6, set7, set8, set9, set10, set11, set12, set13, set14, ar_add, ar_sub, ar_and, ar_or, ar_shr, items_lst, itemV_lst, itemV_box0, itemV_box1, itemV_box2, cmpV_int, cmpV_eqL, cmpV_neL, cmpI_eq, cmpI_ne, cmpI_lt, cmpI_le, cmpI_gt, cmpI_ge, attrV, reduceIte, if_true, if_false, decide_true, decide_false, Bool.not_true, Bool.not_false, Bool.false_eq_true, reduceCtorEq, decide_eq_true_eq, Int.toNat_natCast, Option.map_some, nn, Int.reduceLE, Int.reduceToNat, Int.reduceLT, Int.reduceEq, Int.reduceNeg, Int.le_refl, hrow]
  · simp only [esL2, ev, evs, evl, ex, exs, get0, get1, get2, get3, get4, get5, get6, get7, get8, get9, get10, get11, get12, get13, get14, set0, set1, set2, set3, set4, set5, set6, set7, set8, set9, set10, set11, set12, set13, set14, ar_add, ar_sub, ar_and, ar_or, ar_shr, items_lst, itemV_lst, itemV_box0, itemV_box1, itemV_box2, cmpV_int, cmpV_eqL, cmpV_neL, cmpI_eq, cmpI_ne, cmpI_lt, cmpI_le, cmpI_gt, cmpI_ge, attrV, reduceIte, if_true, if_false, decide_true, decide_false, Bool.not_true, Bool.not_false, Bool.false_eq_true, reduceCtorEq, decide_eq_true_eq, Int.toNat_natCast, Option.map_some, nn, Int.reduceLE, Int.reduceToNat, Int.reduceLT, Int.reduceEq, Int.reduceNeg, Int.le_refl]
  · exact mont_make_exc hw (n + 2) (by omega) (by omega)
  intro h3 t3 cs3 c3 F3 R3 VV3 hP3
  refine wpAny_truthy_bool ?_
  show wpAny _ _ (isTrue (.BoolOp .Or [_] _) _ _) _ _ _
  refine isTrue_or (isTrue_not (isTrue_plain ?_ rfl))
  refine refused_ok (D := D_law) (d := n + 6) (Dl := DL3) (g := 10) (q := 2) (e := eL3) (es := esL3) (scope := scL3) (clos := [("w", L + 5)]) (locl := [.int st.w]) (loc := st.loc2 xs)
    (v := .lst []) (vs := [.int st.w]) (m := m) (cs := cs3) (fz := fz) hf hm hI hdeep hgl hRF hx hbase hcode rfl rfl ⟨by decide, by decide, by decide⟩ rfl rfl rfl (by decide) ⟨⟨by decide, rfl⟩, trivial, wl (by decide), trivial⟩ rfl (by decide) rfl
    (inj_of (by simp)) ?_ ?_ ?_ ?_ ?_ ?_ (s := { s with heap := h3, toks := t3 }) F3 R3 VV3 hP3 ?_
  · intro i hi
    match i, hi with
    | 0, _ => exact ⟨14, rfl, by decide, rfl, rfl, rfl, rfl⟩
  · exact trivial
  · rfl
  · have hmk : mkL false [] ⟨[], none⟩ = some (.lst [], ⟨[], none⟩) := mkL_f (by simp)
    simp only [eL3, ev, evs, evl, ex, exs, get0, get1, get2, get3, get4, get5, get6, get7, get8, get9, get10, get11, get12, get13, get14, set0, set1, set2, set3, set4, set5, set6, set7, set8, set9, set10, set11, set12, set13, set14, ar_add, ar_sub, ar_and, ar_or, ar_shr, items_lst, itemV_lst, itemV_box0, itemV_box1, itemV_box2, cmpV_int, cmpV_eqL, cmpV_neL, cmpI_eq, cmpI_ne, cmpI_lt, cmpI_le, cmpI_gt, cmpI_ge, attrV, reduceIte, if_true, if_false, decide_true, decide_false, Bool.not_true, Bool.not_false, Bool.false_eq_true, reduceCtorEq, decide_eq_true_eq, Int.toNat_natCast, Option.map_some, nn, Int.reduceLE, Int.reduceToNat, Int.reduceLT, Int.reduceEq, Int.reduceNeg, Int.le_refl, hmk]
  · simp only [esL3, ev, evs, evl, ex, exs, get0, get1, get2, get3, get4, get5, get6, get7, get8, get9, get10, get11, get12, get13, get14, set0, set1, set2, set3, set4, set5, set6, set7, set8, set9, set10, set11, set12, set13, set14, ar_add, ar_sub, ar_and, ar_or, ar_shr, items_lst, itemV_lst, itemV_box0, itemV_box1, itemV_box2, cmpV_int, cmpV_eqL, cmpV_neL, cmpI_eq, cmpI_ne, cmpI_lt, cmpI_le, cmpI_gt, cmpI_ge, attrV, reduceIte, if_true, if_false, decide_true, decide_false, Bool.not_true, Bool.not_false, Bool.false_eq_true, reduceCtorEq, decide_eq_true_eq, Int.toNat_natCast, Option.map_some, nn, Int.reduceLE, Int.reduceToNat, Int.reduceLT, Int.reduceEq, Int.reduceNeg, Int.le_refl]
  · exact mont_make_exc hw (n + 2) (M := 0) (by omega) (by omega)
  intro h4 t4 cs4 c4 F4 R4 VV4 hP4
  refine wpAny_truthy_bool (isTrue_or_nil (wpAny_execs_nil ?_))
  -- the last
  have hDT : DT.good := ⟨by decide, by decide, by decide⟩
  have VVT : VarsR G (lawFX H0 L fa c) DT m cs4 ⟨fz, [], []⟩ (st.loc2 xs) := ⟨VV4.len, VV4.kinds, VV4.vars⟩
  have hx1 : (lawFX H0 L fa c).OK S G (n + 6 + 1) := ⟨hx.B, hx.X, hx.T, hx.kf, hx.hA, hx.hh, by have := hx.dep; omega, by have := hx.uni; omega, hx.cells0, hx.inj⟩
  have hrow := fun (v : Int) (hv : Sm v) => law_row_v hw (n + 5) (H := ⟨[], none⟩) hv
  have hnS : Sm st.number := ⟨rn.1, by omega⟩
  refine wpAny_execs_cons (tuple_eq_ok (D := DT) (es1 := esT1) (es2 := esT2) (x := lawFX H0 L fa c) (d := n + 6 + 1) (cl := callM PT (n + 6)) (s := { s with heap := h4, toks := t4 }) (m := m) (cs := cs4) (W := ⟨fz, [], []⟩) (loc := st.loc2 xs) (H := ⟨[], none⟩) (H1 := ⟨[], none⟩) (H2 := ⟨[], none⟩)
    (l1 := row (2 ^ st.w) st.x) (l2 := row (2 ^ st.w) st.y) (l3 := row (2 ^ st.w) st.number) (l4 := row (2 ^ st.w) st.M) hx1 (evs_all hDT hf hm hI hc hgl esT1).1 (evs_all hDT hf hm hI hc hgl esT2).1 ⟨wl (by decide), wl (by decide), wl (by decide), wl (by decide), trivial⟩
    ⟨⟨⟨by decide, rfl⟩, wl (by decide), wl (by decide), trivial⟩, ⟨⟨by decide, rfl⟩, wl (by decide), wl (by decide), trivial⟩, ⟨⟨by decide, rfl⟩, wl (by decide), wl (by decide), trivial⟩, ⟨⟨by decide, rfl⟩, wl (by decide), wl (by decide), trivial⟩, trivial⟩ ?_ ?_ F4 R4 VVT ?_)
  · simp only [esT1, LawSt.loc2, ev, evs, evl, ex, exs, get0, get1, get2, get3, get4, get5, get6, get7, get8, get9, get10, get11, get12, get13, get14, set0, set1, set2, set3, set4, set5, set6, set7, set8, set9, set10, set11, set12, set13, set14, ar_add, ar_sub, ar_and, ar_or, ar_shr, items_lst, itemV_lst, itemV_box0, itemV_box1, itemV_box2, cmpV_int, cmpV_eqL, cmpV_neL, cmpI_eq, cmpI_ne, cmpI_lt, cmpI_le, cmpI_gt, cmpI_ge, attrV, reduceIte, if_true, if_false, decide_true, decide_false, Bool.not_true, Bool.not_false, Bool.false_eq_true, reduceCtorEq, decide_eq_true_eq, Int.toNat_natCast, Option.map_some, nn, Int.reduceLE, Int.reduceToNat, Int.reduceLT, Int.reduceEq, Int.reduceNeg, Int.le_refl]
  · simp only [esT2, LawSt.loc2, ev, evs, evl, ex, exs, get0, get1, get2, get3, get4, get5, get6, get7, get8, get9, get10, get11, get12, get13, get14, set0, set1, set2, set3, set4, set5, set6, set7, set8, set9, set10, set11, set12, set13, set14, ar_add, ar_sub, ar_and, ar_or, ar_shr, items_lst, itemV_lst, itemV_box0, itemV_box1, itemV_box2, cmpV_int, cmpV_eqL, cmpV_neL, cmpI_eq, cmpI_ne, cmpI_lt, cmpI_le, cmpI_gt, cmpI_ge, attrV, reduceIte, if_true, if_false, decide_true, decide_false, Bool.not_true, Bool.not_false, Bool.false_eq_true, reduceCtorEq, decide_eq_true_eq, Int.toNat_natCast, Option.map_some, nn, Int.reduceLE, Int.reduceToNat, Int.reduceLT, Int.reduceEq, Int.reduceNeg, Int.le_refl, hrow st.x ⟨rx.1, by omega⟩, hrow st.y ⟨ry.1, by omega⟩, hrow st.number hnS, hrow st.M hp.sm]
  · intro h5 t5 W5 F5 R5
    exact post h5 t5 F5 (GrownAt.of R5.N (List.mem_append_left _ hP4))
end
end Mine

set_option maxHeartbeats 80000000
namespace Mine

noncomputable def initPos : Nat → Pos := posn [(85, 8, 85, 12), (85, 8, 85, 20), (85, 23, 85, 30), (85, 8, 85, 30), (86, 8, 86, 12), (86, 8, 86, 18), (86, 21, 86, 26), (86, 8, 86, 26), (87, 8, 87, 12), (87, 8, 87, 16), (87, 19, 87, 22), (87, 8, 87, 22), (88, 8, 88, 12), (88, 8, 88, 19), (88, 22, 88, 28), (88, 8, 88, 28)]
noncomputable def refPos : Nat → Pos := posn [(189, 8, 189, 12), (189, 8, 189, 14), (189, 8, 189, 14), (190, 11, 190, 21), (191, 15, 191, 19), (191, 8, 191, 19), (190, 4, 191, 19), (188, 4, 191, 19), (192, 11, 192, 16), (192, 4, 192, 16)]
noncomputable def codeObj (nm : String) (a : Nat) (qn : String) (b c : Nat) (l1 : Int) (n : Int) (r1 r2 : Addr) (v1 v2 : Value) (r3 : Addr) (k : Int) (l2 : Int) (d : Nat) : Obj :=
  { cls := .type "code", data := .fields #[.str (Str.ofString nm) a, .str (Str.ofString qn) b, .str (Str.ofString "/claim/cut.py") c, .int l1 0, .int n 0, .int 0 0, .int 0 0, .int 3 0, .ref r1, .bool true, .int 181 0, .ref r2, .none, v1, v2, .ref r3, .int k 0, .int l2 0, .str (Str.ofString "/claim/cut.py") d] }
noncomputable def dEnt (P : Params) (nm : String) (a : Nat) (v : Value) : DictEntry := { hash := PyData.keyHash P (Str.ofString nm), key := .str (Str.ofString nm) a, val := v }
noncomputable def lawBody : List Stmt := match PySem.Challenge.pw_nn0018_01.theDef (Str.ofString "law") with | some (_, b, _) => b | none => []
noncomputable def KK : Params → Frag := fun P =>
  (nat_lit 2, { cls := Value.none, data := Data.dict #[dEnt P "type.__subclasses__.Exception.0" 205 (Value.int 24 0), dEnt P "type.__subclasses__.Exception.n" 206 (Value.int 1 0)] 2 }) ::
  (nat_lit 3, { cls := Value.type "dict", data := Data.dict #[dEnt P "__name__" 165 (Value.str (Str.ofString "law_nn0018_01") 502), dEnt P "__doc__" 166 Value.none, dEnt P "__package__" 167 Value.none, dEnt P "__loader__" 168 (Value.builtin "__main__.__loader__#opaque"), dEnt P "__spec__" 169 Value.none, dEnt P "__annotations__" 170 (Value.ref 6), dEnt P "__builtins__" 171 (Value.ref 4), dEnt P "__file__" 173 (Value.str (Str.ofString "/claim/cut.py") 172), dEnt P "__cached__" 174 Value.none, dEnt P "GmpError" 208 (Value.ref 24), dEnt P "NoInverse" 224 (Value.ref 37), dEnt P "OutOfRange" 240 (Value.ref 49), dEnt P "normal" 248 (Value.ref 58), dEnt P "is_even" 255 (Value.ref 65), dEnt P "compare" 264 (Value.ref 72), dEnt P "add" 277 (Value.ref 79), dEnt P "sub" 291 (Value.ref 86), dEnt P "lifted" 299 (Value.ref 93), dEnt P "mul_limb" 312 (Value.ref 100), dEnt P "shift_left" 327 (Value.ref 107), dEnt P "inverse_limb" 340 (Value.ref 114), dEnt P "Montgomery" 377 (Value.ref 131), dEnt P "doubled_rest" 387 (Value.ref 142), dEnt P "mont_make" 398 (Value.ref 149), dEnt P "add_row" 412 (Value.ref 156), dEnt P "taken_once" 421 (Value.ref 163), dEnt P "redc" 435 (Value.ref 170), dEnt P "to_mont" 445 (Value.ref 177), dEnt P "from_mont" 454 (Value.ref 184), dEnt P "mont_mul" 465 (Value.ref 191), dEnt P "mont_rows" 480 (Value.ref 198), dEnt P "scaled_rest" 492 (Value.ref 205), dEnt P "check_mont" 501 (Value.ref 212), dEnt P "_law_row" 512 (Value.ref 219), dEnt P "_law_number" 522 (Value.ref 226), dEnt P "_law_mul" 531 (Value.ref 233), dEnt P "_law_draw" 539 (Value.ref 240), dEnt P "_law_size" 550 (Value.ref 247), dEnt P "_law_box" 556 (Value.ref 252), dEnt P "_law_refused" 563 (Value.ref 259), dEnt P "_law_told_right" 574 (Value.ref 266), dEnt P "_law_reduced_right" 586 (Value.ref 273), dEnt P "law" 607 (Value.ref 280)] 43 }) ::
  (nat_lit 23, { cls := Value.type "dict", data := Data.dict #[dEnt P "__module__" 196 (Value.str (Str.ofString "gmp.limbs") 187), dEnt P "__firstlineno__" 200 (Value.int 2 199), dEnt P "__static_attributes__" 201 (Value.ref 22), dEnt P "__weakref__" 203 (Value.ref 25), dEnt P "__doc__" 204 Value.none] 3 }) ::
  (nat_lit 24, { cls := Value.type "type", data := Data.cls { name := Str.ofString "GmpError", bases := [Value.type "Exception"], mro := [Value.ref 24, Value.type "Exception", Value.type "BaseException", Value.type "object"], ns := 23, qualname := Str.ofString "GmpError", subclasses := [Value.ref 37, Value.ref 49] }, slots := #[some (Value.ref 15), none, some (Value.str (Str.ofString "GmpError") 189), some (Value.str (Str.ofString "GmpError") 197), some (Value.builtin "Exception.__new__"), some (Value.bool true)] }) ::
  (nat_lit 36, { cls := Value.type "dict", data := Data.dict #[dEnt P "__module__" 216 (Value.str (Str.ofString "gmp.limbs") 187), dEnt P "__firstlineno__" 220 (Value.int 4 219), dEnt P "__static_attributes__" 221 (Value.ref 35), dEnt P "__doc__" 222 Value.none] 2 }) ::
  (nat_lit 37, { cls := Value.type "type", data := Data.cls { name := Str.ofString "NoInverse", bases := [Value.ref 24], mro := [Value.ref 37, Value.ref 24, Value.type "Exception", Value.type "BaseException", Value.type "object"], ns := 36, qualname := Str.ofString "NoInverse" }, slots := #[some (Value.ref 28), none, some (Value.str (Str.ofString "NoInverse") 209), some (Value.str (Str.ofString "NoInverse") 217), some (Value.builtin "Exception.__new__"), some (Value.bool true)] }) ::
  (nat_lit 48, { cls := Value.type "dict", data := Data.dict #[dEnt P "__module__" 232 (Value.str (Str.ofString "gmp.limbs") 187), dEnt P "__firstlineno__" 236 (Value.int 6 235), dEnt P "__static_attributes__" 237 (Value.ref 47), dEnt P "__doc__" 238 Value.none] 2 }) ::
  (nat_lit 49, { cls := Value.type "type", data := Data.cls { name := Str.ofString "OutOfRange", bases := [Value.ref 24], mro := [Value.ref 49, Value.ref 24, Value.type "Exception", Value.type "BaseException", Value.type "object"], ns := 48, qualname := Str.ofString "OutOfRange" }, slots := #[some (Value.ref 40), none, some (Value.str (Str.ofString "OutOfRange") 225), some (Value.str (Str.ofString "OutOfRange") 233), some (Value.builtin "Exception.__new__"), some (Value.bool true)] }) ::
  (nat_lit 57, codeObj "normal" 241 "normal" 242 243 8 1 52 53 (Value.ref 54) (Value.ref 55) 56 246 8 247) ::
  (nat_lit 58, { cls := Value.type "function", data := Data.func { name := Str.ofString "normal", qualname := Str.ofString "normal", params := { posonlyargs := [], args := [{ arg := Str.ofString "a", annotation := none, pos := ⟨8, 11, 8, 12⟩ }], vararg := none, kwonlyargs := [], kw_defaults := [], kwarg := none, defaults := [] }, body := FuncBody.stmts (dSs D_normal b_normal), scope := { kind := ScopeKind.function, names := [(Str.ofString "a", NameKind.local), (Str.ofString "end", NameKind.local), (Str.ofString "len", NameKind.globalImplicit)], isGenerator := false, isCoroutine := false }, globals := 3, closure := [], defaults := Value.none, kwdefaults := Value.none, pyModule := Value.str (Str.ofString "gmp.limbs") 187, code := Value.ref 57 } }) ::
  (nat_lit 64, codeObj "is_even" 249 "is_even" 250 251 13 1 59 60 (Value.ref 61) (Value.ref 62) 63 253 13 254) ::
  (nat_lit 65, { cls := Value.type "function", data := Data.func { name := Str.ofString "is_even", qualname := Str.ofString "is_even", params := { posonlyargs := [], args := [{ arg := Str.ofString "a", annotation := none, pos := ⟨13, 12, 13, 13⟩ }], vararg := none, kwonlyargs := [], kw_defaults := [], kwarg := none, defaults := [] }, body := FuncBody.stmts (dSs D_is_even b_is_even), scope := { kind := ScopeKind.function, names := [(Str.ofString "a", NameKind.local), (Str.ofString "len", NameKind.globalImplicit)], isGenerator := false, isCoroutine := false }, globals := 3, closure := [], defaults := Value.none, kwdefaults := Value.none, pyModule := Value.str (Str.ofString "gmp.limbs") 187, code := Value.ref 64 } }) ::
  (nat_lit 71, codeObj "compare" 256 "compare" 257 258 15 2 66 67 (Value.ref 68) (Value.ref 69) 70 262 15 263) ::
  (nat_lit 72, { cls := Value.type "function", data := Data.func { name := Str.ofString "compare", qualname := Str.ofString "compare", params := { posonlyargs := [], args := [{ arg := Str.ofString "a", annotation := none, pos := ⟨15, 12, 15, 13⟩ }, { arg := Str.ofString "b", annotation := none, pos := ⟨15, 15, 15, 16⟩ }], vararg := none, kwonlyargs := [], kw_defaults := [], kwarg := none, defaults := [] }, body := FuncBody.stmts (dSs D_compare b_compare), scope := { kind := ScopeKind.function, names := [(Str.ofString "a", NameKind.local), (Str.ofString "b", NameKind.local), (Str.ofString "at", NameKind.local), (Str.ofString "len", NameKind.globalImplicit), (Str.ofString "range", NameKind.globalImplicit)], isGenerator := false, isCoroutine := false }, globals := 3, closure := [], defaults := Value.none, kwdefaults := Value.none, pyModule := Value.str (Str.ofString "gmp.limbs") 187, code := Value.ref 71 } }) ::
  (nat_lit 78, codeObj "add" 265 "add" 266 267 22 3 73 74 (Value.ref 75) (Value.ref 76) 77 275 22 276) ::
  (nat_lit 79, { cls := Value.type "function", data := Data.func { name := Str.ofString "add", qualname := Str.ofString "add", params := { posonlyargs := [], args := [{ arg := Str.ofString "a", annotation := none, pos := ⟨22, 8, 22, 9⟩ }, { arg := Str.ofString "b", annotation := none, pos := ⟨22, 11, 22, 12⟩ }, { arg := Str.ofString "w", annotation := none, pos := ⟨22, 14, 22, 15⟩ }], vararg := none, kwonlyargs := [], kw_defaults := [], kwarg := none, defaults := [] }, body := FuncBody.stmts (dSs D_add b_add), scope := { kind := ScopeKind.function, names := [(Str.ofString "a", NameKind.local), (Str.ofString "b", NameKind.local), (Str.ofString "w", NameKind.local), (Str.ofString "found", NameKind.local), (Str.ofString "carry", NameKind.local), (Str.ofString "mask", NameKind.local), (Str.ofString "at", NameKind.local), (Str.ofString "len", NameKind.globalImplicit), (Str.ofString "range", NameKind.globalImplicit)], isGenerator := false, isCoroutine := false }, globals := 3, closure := [], defaults := Value.none, kwdefaults := Value.none, pyModule := Value.str (Str.ofString "gmp.limbs") 187, code := Value.ref 78 } }) ::
  (nat_lit 85, codeObj "sub" 278 "sub" 279 280 37 3 80 81 (Value.ref 82) (Value.ref 83) 84 289 37 290) ::
  (nat_lit 86, { cls := Value.type "function", data := Data.func { name := Str.ofString "sub", qualname := Str.ofString "sub", params := { posonlyargs := [], args := [{ arg := Str.ofString "a", annotation := none, pos := ⟨37, 8, 37, 9⟩ }, { arg := Str.ofString "b", annotation := none, pos := ⟨37, 11, 37, 12⟩ }, { arg := Str.ofString "w", annotation := none, pos := ⟨37, 14, 37, 15⟩ }], vararg := none, kwonlyargs := [], kw_defaults := [], kwarg := none, defaults := [] }, body := FuncBody.stmts (dSs D_sub b_sub), scope := { kind := ScopeKind.function, names := [(Str.ofString "a", NameKind.local), (Str.ofString "b", NameKind.local), (Str.ofString "w", NameKind.local), (Str.ofString "found", NameKind.local), (Str.ofString "borrow", NameKind.local), (Str.ofString "base", NameKind.local), (Str.ofString "at", NameKind.local), (Str.ofString "limb", NameKind.local), (Str.ofString "compare", NameKind.globalImplicit), (Str.ofString "OutOfRange", NameKind.globalImplicit), (Str.ofString "range", NameKind.globalImplicit), (Str.ofString "len", NameKind.globalImplicit), (Str.ofString "normal", NameKind.globalImplicit)], isGenerator := false, isCoroutine := false }, globals := 3, closure := [], defaults := Value.none, kwdefaults := Value.none, pyModule := Value.str (Str.ofString "gmp.limbs") 187, code := Value.ref 85 } }) ::
  (nat_lit 92, codeObj "lifted" 292 "lifted" 293 294 46 2 87 88 (Value.ref 89) (Value.ref 90) 91 297 46 298) ::
  (nat_lit 93, { cls := Value.type "function", data := Data.func { name := Str.ofString "lifted", qualname := Str.ofString "lifted", params := { posonlyargs := [], args := [{ arg := Str.ofString "a", annotation := none, pos := ⟨46, 11, 46, 12⟩ }, { arg := Str.ofString "spot", annotation := none, pos := ⟨46, 14, 46, 18⟩ }], vararg := none, kwonlyargs := [], kw_defaults := [], kwarg := none, defaults := [] }, body := FuncBody.stmts (dSs D_lifted b_lifted), scope := { kind := ScopeKind.function, names := [(Str.ofString "a", NameKind.local), (Str.ofString "spot", NameKind.local), (Str.ofString "len", NameKind.globalImplicit)], isGenerator := false, isCoroutine := false }, globals := 3, closure := [], defaults := Value.none, kwdefaults := Value.none, pyModule := Value.str (Str.ofString "gmp.limbs") 187, code := Value.ref 92 } }) ::
  (nat_lit 99, codeObj "mul_limb" 300 "mul_limb" 301 302 48 3 94 95 (Value.ref 96) (Value.ref 97) 98 310 48 311) ::
  (nat_lit 100, { cls := Value.type "function", data := Data.func { name := Str.ofString "mul_limb", qualname := Str.ofString "mul_limb", params := { posonlyargs := [], args := [{ arg := Str.ofString "a", annotation := none, pos := ⟨48, 13, 48, 14⟩ }, { arg := Str.ofString "limb", annotation := none, pos := ⟨48, 16, 48, 20⟩ }, { arg := Str.ofString "w", annotation := none, pos := ⟨48, 22, 48, 23⟩ }], vararg := none, kwonlyargs := [], kw_defaults := [], kwarg := none, defaults := [] }, body := FuncBody.stmts (dSs D_mul_limb b_mul_limb), scope := { kind := ScopeKind.function, names := [(Str.ofString "a", NameKind.local), (Str.ofString "limb", NameKind.local), (Str.ofString "w", NameKind.local), (Str.ofString "found", NameKind.local), (Str.ofString "carry", NameKind.local), (Str.ofString "mask", NameKind.local), (Str.ofString "one", NameKind.local)], isGenerator := false, isCoroutine := false }, globals := 3, closure := [], defaults := Value.none, kwdefaults := Value.none, pyModule := Value.str (Str.ofString "gmp.limbs") 187, code := Value.ref 99 } }) ::
  (nat_lit 106, codeObj "shift_left" 313 "shift_left" 314 315 59 3 101 102 (Value.ref 103) (Value.ref 104) 105 325 59 326) ::
  (nat_lit 107, { cls := Value.type "function", data := Data.func { name := Str.ofString "shift_left", qualname := Str.ofString "shift_left", params := { posonlyargs := [], args := [{ arg := Str.ofString "a", annotation := none, pos := ⟨59, 15, 59, 16⟩ }, { arg := Str.ofString "n", annotation := none, pos := ⟨59, 18, 59, 19⟩ }, { arg := Str.ofString "w", annotation := none, pos := ⟨59, 21, 59, 22⟩ }], vararg := none, kwonlyargs := [], kw_defaults := [], kwarg := none, defaults := [] }, body := FuncBody.stmts (dSs D_shift_left b_shift_left), scope := { kind := ScopeKind.function, names := [(Str.ofString "a", NameKind.local), (Str.ofString "n", NameKind.local), (Str.ofString "w", NameKind.local), (Str.ofString "spots", NameKind.local), (Str.ofString "few", NameKind.local), (Str.ofString "found", NameKind.local), (Str.ofString "carry", NameKind.local), (Str.ofString "mask", NameKind.local), (Str.ofString "one", NameKind.local), (Str.ofString "len", NameKind.globalImplicit)], isGenerator := false, isCoroutine := false }, globals := 3, closure := [], defaults := Value.none, kwdefaults := Value.none, pyModule := Value.str (Str.ofString "gmp.limbs") 187, code := Value.ref 106 } }) ::
  (nat_lit 113, codeObj "inverse_limb" 330 "inverse_limb" 331 332 72 2 108 109 (Value.ref 110) (Value.ref 111) 112 338 72 339) ::
  (nat_lit 114, { cls := Value.type "function", data := Data.func { name := Str.ofString "inverse_limb", qualname := Str.ofString "inverse_limb", params := { posonlyargs := [], args := [{ arg := Str.ofString "d", annotation := none, pos := ⟨72, 17, 72, 18⟩ }, { arg := Str.ofString "w", annotation := none, pos := ⟨72, 20, 72, 21⟩ }], vararg := none, kwonlyargs := [], kw_defaults := [], kwarg := none, defaults := [] }, body := FuncBody.stmts (dSs D_inverse_limb b_inverse_limb), scope := { kind := ScopeKind.function, names := [(Str.ofString "d", NameKind.local), (Str.ofString "w", NameKind.local), (Str.ofString "whole", NameKind.local), (Str.ofString "found", NameKind.local), (Str.ofString "sure", NameKind.local), (Str.ofString "NoInverse", NameKind.globalImplicit)], isGenerator := false, isCoroutine := false }, globals := 3, closure := [], defaults := Value.none, kwdefaults := Value.none, pyModule := Value.str (Str.ofString "gmp.hensel") 328, code := Value.ref 113 } }) ::
  (nat_lit 127, codeObj "__init__" 355 "Montgomery.__init__" 356 357 84 5 122 123 (Value.ref 124) (Value.ref 125) 126 363 84 364) ::
  (nat_lit 128, { cls := Value.type "function", data := Data.func { name := Str.ofString "__init__", qualname := Str.ofString "Montgomery.__init__", params := { posonlyargs := [], args := [{ arg := Str.ofString "self", annotation := none, pos := ⟨84, 17, 84, 21⟩ }, { arg := Str.ofString "modulus", annotation := none, pos := ⟨84, 23, 84, 30⟩ }, { arg := Str.ofString "minus", annotation := none, pos := ⟨84, 32, 84, 37⟩ }, { arg := Str.ofString "one", annotation := none, pos := ⟨84, 39, 84, 42⟩ }, { arg := Str.ofString "square", annotation := none, pos := ⟨84, 44, 84, 50⟩ }], vararg := none, kwonlyargs := [], kw_defaults := [], kwarg := none, defaults := [] }, body := FuncBody.stmts (initBody initPos), scope := { kind := ScopeKind.function, names := [(Str.ofString "self", NameKind.local), (Str.ofString "modulus", NameKind.local), (Str.ofString "minus", NameKind.local), (Str.ofString "one", NameKind.local), (Str.ofString "square", NameKind.local)], isGenerator := false, isCoroutine := false }, globals := 3, closure := [], defaults := Value.none, kwdefaults := Value.none, pyModule := Value.str (Str.ofString "gmp.reduce") 341, code := Value.ref 127 } }) ::
  (nat_lit 130, { cls := Value.type "dict", data := Data.dict #[dEnt P "__module__" 350 (Value.str (Str.ofString "gmp.reduce") 341), dEnt P "__firstlineno__" 354 (Value.int 82 353), dEnt P "__init__" 365 (Value.ref 128), dEnt P "__static_attributes__" 370 (Value.ref 129), dEnt P "__dict__" 372 (Value.ref 132), dEnt P "__weakref__" 374 (Value.ref 133), dEnt P "__doc__" 375 Value.none] 4 }) ::
  (nat_lit 131, { cls := Value.type "type", data := Data.cls { name := Str.ofString "Montgomery", bases := [Value.type "object"], mro := [Value.ref 131, Value.type "object"], ns := 130, qualname := Str.ofString "Montgomery" }, slots := #[none, none, some (Value.str (Str.ofString "Montgomery") 343), some (Value.str (Str.ofString "Montgomery") 351), some (Value.builtin "object.__new__"), some (Value.bool true)] }) ::
  (nat_lit 141, codeObj "doubled_rest" 378 "doubled_rest" 379 380 89 3 136 137 (Value.ref 138) (Value.ref 139) 140 385 89 386) ::
  (nat_lit 142, { cls := Value.type "function", data := Data.func { name := Str.ofString "doubled_rest", qualname := Str.ofString "doubled_rest", params := { posonlyargs := [], args := [{ arg := Str.ofString "a", annotation := none, pos := ⟨89, 17, 89, 18⟩ }, { arg := Str.ofString "m", annotation := none, pos := ⟨89, 20, 89, 21⟩ }, { arg := Str.ofString "w", annotation := none, pos := ⟨89, 23, 89, 24⟩ }], vararg := none, kwonlyargs := [], kw_defaults := [], kwarg := none, defaults := [] }, body := FuncBody.stmts (dSs D_doubled_rest b_doubled_rest), scope := { kind := ScopeKind.function, names := [(Str.ofString "a", NameKind.local), (Str.ofString "m", NameKind.local), (Str.ofString "w", NameKind.local), (Str.ofString "found", NameKind.local), (Str.ofString "shift_left", NameKind.globalImplicit), (Str.ofString "compare", NameKind.globalImplicit), (Str.ofString "sub", NameKind.globalImplicit)], isGenerator := false, isCoroutine := false }, globals := 3, closure := [], defaults := Value.none, kwdefaults := Value.none, pyModule := Value.str (Str.ofString "gmp.reduce") 341, code := Value.ref 141 } }) ::
  (nat_lit 148, codeObj "mont_make" 388 "mont_make" 389 390 92 2 143 144 (Value.ref 145) (Value.ref 146) 147 396 92 397) ::
  (nat_lit 149, { cls := Value.type "function", data := Data.func { name := Str.ofString "mont_make", qualname := Str.ofString "mont_make", params := { posonlyargs := [], args := [{ arg := Str.ofString "m", annotation := none, pos := ⟨92, 14, 92, 15⟩ }, { arg := Str.ofString "w", annotation := none, pos := ⟨92, 17, 92, 18⟩ }], vararg := none, kwonlyargs := [], kw_defaults := [], kwarg := none, defaults := [] }, body := FuncBody.stmts (dSs D_mont_make b_mont_make), scope := { kind := ScopeKind.function, names := [(Str.ofString "m", NameKind.local), (Str.ofString "w", NameKind.local), (Str.ofString "one", NameKind.local), (Str.ofString "turn", NameKind.local), (Str.ofString "square", NameKind.local), (Str.ofString "is_even", NameKind.globalImplicit), (Str.ofString "OutOfRange", NameKind.globalImplicit), (Str.ofString "range", NameKind.globalImplicit), (Str.ofString "len", NameKind.globalImplicit), (Str.ofString "doubled_rest", NameKind.globalImplicit), (Str.ofString "Montgomery", NameKind.globalImplicit), (Str.ofString "inverse_limb", NameKind.globalImplicit)], isGenerator := false, isCoroutine := false }, globals := 3, closure := [], defaults := Value.none, kwdefaults := Value.none, pyModule := Value.str (Str.ofString "gmp.reduce") 341, code := Value.ref 148 } }) ::
  (nat_lit 155, codeObj "add_row" 399 "add_row" 400 401 102 5 150 151 (Value.ref 152) (Value.ref 153) 154 410 102 411) ::
  (nat_lit 156, { cls := Value.type "function", data := Data.func { name := Str.ofString "add_row", qualname := Str.ofString "add_row", params := { posonlyargs := [], args := [{ arg := Str.ofString "rest", annotation := none, pos := ⟨102, 12, 102, 16⟩ }, { arg := Str.ofString "m", annotation := none, pos := ⟨102, 18, 102, 19⟩ }, { arg := Str.ofString "limb", annotation := none, pos := ⟨102, 21, 102, 25⟩ }, { arg := Str.ofString "at", annotation := none, pos := ⟨102, 27, 102, 29⟩ }, { arg := Str.ofString "w", annotation := none, pos := ⟨102, 31, 102, 32⟩ }], vararg := none, kwonlyargs := [], kw_defaults := [], kwarg := none, defaults := [] }, body := FuncBody.stmts (dSs D_add_row b_add_row), scope := { kind := ScopeKind.function, names := [(Str.ofString "rest", NameKind.local), (Str.ofString "m", NameKind.local), (Str.ofString "limb", NameKind.local), (Str.ofString "at", NameKind.local), (Str.ofString "w", NameKind.local), (Str.ofString "carry", NameKind.local), (Str.ofString "mask", NameKind.local), (Str.ofString "one", NameKind.local)], isGenerator := false, isCoroutine := false }, globals := 3, closure := [], defaults := Value.none, kwdefaults := Value.none, pyModule := Value.str (Str.ofString "gmp.reduce") 341, code := Value.ref 155 } }) ::
  (nat_lit 162, codeObj "taken_once" 413 "taken_once" 414 415 114 3 157 158 (Value.ref 159) (Value.ref 160) 161 419 114 420) ::
  (nat_lit 163, { cls := Value.type "function", data := Data.func { name := Str.ofString "taken_once", qualname := Str.ofString "taken_once", params := { posonlyargs := [], args := [{ arg := Str.ofString "a", annotation := none, pos := ⟨114, 15, 114, 16⟩ }, { arg := Str.ofString "m", annotation := none, pos := ⟨114, 18, 114, 19⟩ }, { arg := Str.ofString "w", annotation := none, pos := ⟨114, 21, 114, 22⟩ }], vararg := none, kwonlyargs := [], kw_defaults := [], kwarg := none, defaults := [] }, body := FuncBody.stmts (dSs D_taken_once b_taken_once), scope := { kind := ScopeKind.function, names := [(Str.ofString "a", NameKind.local), (Str.ofString "m", NameKind.local), (Str.ofString "w", NameKind.local), (Str.ofString "compare", NameKind.globalImplicit), (Str.ofString "sub", NameKind.globalImplicit)], isGenerator := false, isCoroutine := false }, globals := 3, closure := [], defaults := Value.none, kwdefaults := Value.none, pyModule := Value.str (Str.ofString "gmp.reduce") 341, code := Value.ref 162 } }) ::
  (nat_lit 169, codeObj "redc" 422 "redc" 423 424 116 3 164 165 (Value.ref 166) (Value.ref 167) 168 433 116 434) ::
  (nat_lit 170, { cls := Value.type "function", data := Data.func { name := Str.ofString "redc", qualname := Str.ofString "redc", params := { posonlyargs := [], args := [{ arg := Str.ofString "a", annotation := none, pos := ⟨116, 9, 116, 10⟩ }, { arg := Str.ofString "told", annotation := none, pos := ⟨116, 12, 116, 16⟩ }, { arg := Str.ofString "w", annotation := none, pos := ⟨116, 18, 116, 19⟩ }], vararg := none, kwonlyargs := [], kw_defaults := [], kwarg := none, defaults := [] }, body := FuncBody.stmts (dSs D_redc b_redc), scope := { kind := ScopeKind.function, names := [(Str.ofString "a", NameKind.local), (Str.ofString "told", NameKind.local), (Str.ofString "w", NameKind.local), (Str.ofString "m", NameKind.local), (Str.ofString "size", NameKind.local), (Str.ofString "rest", NameKind.local), (Str.ofString "mask", NameKind.local), (Str.ofString "at", NameKind.local), (Str.ofString "len", NameKind.globalImplicit), (Str.ofString "compare", NameKind.globalImplicit), (Str.ofString "lifted", NameKind.globalImplicit), (Str.ofString "OutOfRange", NameKind.globalImplicit), (Str.ofString "range", NameKind.globalImplicit), (Str.ofString "add_row", NameKind.globalImplicit), (Str.ofString "taken_once", NameKind.globalImplicit), (Str.ofString "normal", NameKind.globalImplicit)], isGenerator := false, isCoroutine := false }, globals := 3, closure := [], defaults := Value.none, kwdefaults := Value.none, pyModule := Value.str (Str.ofString "gmp.reduce") 341, code := Value.ref 169 } }) ::
  (nat_lit 176, codeObj "to_mont" 436 "to_mont" 437 438 125 4 171 172 (Value.ref 173) (Value.ref 174) 175 443 125 444) ::
  (nat_lit 177, { cls := Value.type "function", data := Data.func { name := Str.ofString "to_mont", qualname := Str.ofString "to_mont", params := { posonlyargs := [], args := [{ arg := Str.ofString "a", annotation := none, pos := ⟨125, 12, 125, 13⟩ }, { arg := Str.ofString "told", annotation := none, pos := ⟨125, 15, 125, 19⟩ }, { arg := Str.ofString "w", annotation := none, pos := ⟨125, 21, 125, 22⟩ }, { arg := Str.ofString "mul", annotation := none, pos := ⟨125, 24, 125, 27⟩ }], vararg := none, kwonlyargs := [], kw_defaults := [], kwarg := none, defaults := [] }, body := FuncBody.stmts (dSs D_to_mont b_to_mont), scope := { kind := ScopeKind.function, names := [(Str.ofString "a", NameKind.local), (Str.ofString "told", NameKind.local), (Str.ofString "w", NameKind.local), (Str.ofString "mul", NameKind.local), (Str.ofString "compare", NameKind.globalImplicit), (Str.ofString "OutOfRange", NameKind.globalImplicit), (Str.ofString "redc", NameKind.globalImplicit)], isGenerator := false, isCoroutine := false }, globals := 3, closure := [], defaults := Value.none, kwdefaults := Value.none, pyModule := Value.str (Str.ofString "gmp.reduce") 341, code := Value.ref 176 } }) ::
  (nat_lit 183, codeObj "from_mont" 446 "from_mont" 447 448 129 3 178 179 (Value.ref 180) (Value.ref 181) 182 452 129 453) ::
  (nat_lit 184, { cls := Value.type "function", data := Data.func { name := Str.ofString "from_mont", qualname := Str.ofString "from_mont", params := { posonlyargs := [], args := [{ arg := Str.ofString "a", annotation := none, pos := ⟨129, 14, 129, 15⟩ }, { arg := Str.ofString "told", annotation := none, pos := ⟨129, 17, 129, 21⟩ }, { arg := Str.ofString "w", annotation := none, pos := ⟨129, 23, 129, 24⟩ }], vararg := none, kwonlyargs := [], kw_defaults := [], kwarg := none, defaults := [] }, body := FuncBody.stmts (dSs D_from_mont b_from_mont), scope := { kind := ScopeKind.function, names := [(Str.ofString "a", NameKind.local), (Str.ofString "told", NameKind.local), (Str.ofString "w", NameKind.local), (Str.ofString "redc", NameKind.globalImplicit)], isGenerator := false, isCoroutine := false }, globals := 3, closure := [], defaults := Value.none, kwdefaults := Value.none, pyModule := Value.str (Str.ofString "gmp.reduce") 341, code := Value.ref 183 } }) ::
  (nat_lit 190, codeObj "mont_mul" 455 "mont_mul" 456 457 131 5 185 186 (Value.ref 187) (Value.ref 188) 189 463 131 464) ::
  (nat_lit 191, { cls := Value.type "function", data := Data.func { name := Str.ofString "mont_mul", qualname := Str.ofString "mont_mul", params := { posonlyargs := [], args := [{ arg := Str.ofString "a", annotation := none, pos := ⟨131, 13, 131, 14⟩ }, { arg := Str.ofString "b", annotation := none, pos := ⟨131, 16, 131, 17⟩ }, { arg := Str.ofString "told", annotation := none, pos := ⟨131, 19, 131, 23⟩ }, { arg := Str.ofString "w", annotation := none, pos := ⟨131, 25, 131, 26⟩ }, { arg := Str.ofString "mul", annotation := none, pos := ⟨131, 28, 131, 31⟩ }], vararg := none, kwonlyargs := [], kw_defaults := [], kwarg := none, defaults := [] }, body := FuncBody.stmts (dSs D_mont_mul b_mont_mul), scope := { kind := ScopeKind.function, names := [(Str.ofString "a", NameKind.local), (Str.ofString "b", NameKind.local), (Str.ofString "told", NameKind.local), (Str.ofString "w", NameKind.local), (Str.ofString "mul", NameKind.local), (Str.ofString "redc", NameKind.globalImplicit)], isGenerator := false, isCoroutine := false }, globals := 3, closure := [], defaults := Value.none, kwdefaults := Value.none, pyModule := Value.str (Str.ofString "gmp.reduce") 341, code := Value.ref 190 } }) ::
  (nat_lit 197, codeObj "mont_rows" 466 "mont_rows" 467 468 133 4 192 193 (Value.ref 194) (Value.ref 195) 196 478 133 479) ::
  (nat_lit 198, { cls := Value.type "function", data := Data.func { name := Str.ofString "mont_rows", qualname := Str.ofString "mont_rows", params := { posonlyargs := [], args := [{ arg := Str.ofString "a", annotation := none, pos := ⟨133, 14, 133, 15⟩ }, { arg := Str.ofString "b", annotation := none, pos := ⟨133, 17, 133, 18⟩ }, { arg := Str.ofString "told", annotation := none, pos := ⟨133, 20, 133, 24⟩ }, { arg := Str.ofString "w", annotation := none, pos := ⟨133, 26, 133, 27⟩ }], vararg := none, kwonlyargs := [], kw_defaults := [], kwarg := none, defaults := [] }, body := FuncBody.stmts (dSs D_mont_rows b_mont_rows), scope := { kind := ScopeKind.function, names := [(Str.ofString "a", NameKind.local), (Str.ofString "b", NameKind.local), (Str.ofString "told", NameKind.local), (Str.ofString "w", NameKind.local), (Str.ofString "m", NameKind.local), (Str.ofString "size", NameKind.local), (Str.ofString "mask", NameKind.local), (Str.ofString "rest", NameKind.local), (Str.ofString "at", NameKind.local), (Str.ofString "len", NameKind.globalImplicit), (Str.ofString "range", NameKind.globalImplicit), (Str.ofString "add_row", NameKind.globalImplicit), (Str.ofString "taken_once", NameKind.globalImplicit), (Str.ofString "normal", NameKind.globalImplicit)], isGenerator := false, isCoroutine := false }, globals := 3, closure := [], defaults := Value.none, kwdefaults := Value.none, pyModule := Value.str (Str.ofString "gmp.reduce") 341, code := Value.ref 197 } }) ::
  (nat_lit 204, codeObj "scaled_rest" 481 "scaled_rest" 482 483 142 4 199 200 (Value.ref 201) (Value.ref 202) 203 490 142 491) ::
  (nat_lit 205, { cls := Value.type "function", data := Data.func { name := Str.ofString "scaled_rest", qualname := Str.ofString "scaled_rest", params := { posonlyargs := [], args := [{ arg := Str.ofString "a", annotation := none, pos := ⟨142, 16, 142, 17⟩ }, { arg := Str.ofString "m", annotation := none, pos := ⟨142, 19, 142, 20⟩ }, { arg := Str.ofString "w", annotation := none, pos := ⟨142, 22, 142, 23⟩ }, { arg := Str.ofString "limb", annotation := none, pos := ⟨142, 25, 142, 29⟩ }], vararg := none, kwonlyargs := [], kw_defaults := [], kwarg := none, defaults := [] }, body := FuncBody.stmts (dSs D_scaled_rest b_scaled_rest), scope := { kind := ScopeKind.function, names := [(Str.ofString "a", NameKind.local), (Str.ofString "m", NameKind.local), (Str.ofString "w", NameKind.local), (Str.ofString "limb", NameKind.local), (Str.ofString "found", NameKind.local), (Str.ofString "spot", NameKind.local), (Str.ofString "range", NameKind.globalImplicit), (Str.ofString "doubled_rest", NameKind.globalImplicit), (Str.ofString "taken_once", NameKind.globalImplicit), (Str.ofString "add", NameKind.globalImplicit)], isGenerator := false, isCoroutine := false }, globals := 3, closure := [], defaults := Value.none, kwdefaults := Value.none, pyModule := Value.str (Str.ofString "gmp.reduce") 341, code := Value.ref 204 } }) ::
  (nat_lit 211, codeObj "check_mont" 493 "check_mont" 494 495 149 2 206 207 (Value.ref 208) (Value.ref 209) 210 499 149 500) ::
  (nat_lit 212, { cls := Value.type "function", data := Data.func { name := Str.ofString "check_mont", qualname := Str.ofString "check_mont", params := { posonlyargs := [], args := [{ arg := Str.ofString "told", annotation := none, pos := ⟨149, 15, 149, 19⟩ }, { arg := Str.ofString "w", annotation := none, pos := ⟨149, 21, 149, 22⟩ }], vararg := none, kwonlyargs := [], kw_defaults := [], kwarg := none, defaults := [] }, body := FuncBody.stmts (dSs D_check_mont b_check_mont), scope := { kind := ScopeKind.function, names := [(Str.ofString "told", NameKind.local), (Str.ofString "w", NameKind.local), (Str.ofString "m", NameKind.local), (Str.ofString "mul_limb", NameKind.globalImplicit), (Str.ofString "redc", NameKind.globalImplicit)], isGenerator := false, isCoroutine := false }, globals := 3, closure := [], defaults := Value.none, kwdefaults := Value.none, pyModule := Value.str (Str.ofString "gmp.reduce") 341, code := Value.ref 211 } }) ::
  (nat_lit 218, codeObj "_law_row" 504 "_law_row" 505 506 155 2 213 214 (Value.ref 215) (Value.ref 216) 217 510 155 511) ::
  (nat_lit 219, { cls := Value.type "function", data := Data.func { name := Str.ofString "_law_row", qualname := Str.ofString "_law_row", params := { posonlyargs := [], args := [{ arg := Str.ofString "number", annotation := none, pos := ⟨155, 13, 155, 19⟩ }, { arg := Str.ofString "w", annotation := none, pos := ⟨155, 21, 155, 22⟩ }], vararg := none, kwonlyargs := [], kw_defaults := [], kwarg := none, defaults := [] }, body := FuncBody.stmts (dSs D_law_row b_law_row), scope := { kind := ScopeKind.function, names := [(Str.ofString "number", NameKind.local), (Str.ofString "w", NameKind.local), (Str.ofString "found", NameKind.local)], isGenerator := false, isCoroutine := false }, globals := 3, closure := [], defaults := Value.none, kwdefaults := Value.none, pyModule := Value.str (Str.ofString "law_nn0018_01") 502, code := Value.ref 218 } }) ::
  (nat_lit 225, codeObj "_law_number" 513 "_law_number" 514 515 161 2 220 221 (Value.ref 222) (Value.ref 223) 224 520 161 521) ::
  (nat_lit 226, { cls := Value.type "function", data := Data.func { name := Str.ofString "_law_number", qualname := Str.ofString "_law_number", params := { posonlyargs := [], args := [{ arg := Str.ofString "row", annotation := none, pos := ⟨161, 16, 161, 19⟩ }, { arg := Str.ofString "w", annotation := none, pos := ⟨161, 21, 161, 22⟩ }], vararg := none, kwonlyargs := [], kw_defaults := [], kwarg := none, defaults := [] }, body := FuncBody.stmts (dSs D_law_number b_law_number), scope := { kind := ScopeKind.function, names := [(Str.ofString "row", NameKind.local), (Str.ofString "w", NameKind.local), (Str.ofString "found", NameKind.local), (Str.ofString "limb", NameKind.local), (Str.ofString "reversed", NameKind.globalImplicit)], isGenerator := false, isCoroutine := false }, globals := 3, closure := [], defaults := Value.none, kwdefaults := Value.none, pyModule := Value.str (Str.ofString "law_nn0018_01") 502, code := Value.ref 225 } }) ::
  (nat_lit 232, codeObj "_law_mul" 523 "_law_mul" 524 525 166 3 227 228 (Value.ref 229) (Value.ref 230) 231 529 166 530) ::
  (nat_lit 233, { cls := Value.type "function", data := Data.func { name := Str.ofString "_law_mul", qualname := Str.ofString "_law_mul", params := { posonlyargs := [], args := [{ arg := Str.ofString "a", annotation := none, pos := ⟨166, 13, 166, 14⟩ }, { arg := Str.ofString "b", annotation := none, pos := ⟨166, 16, 166, 17⟩ }, { arg := Str.ofString "w", annotation := none, pos := ⟨166, 19, 166, 20⟩ }], vararg := none, kwonlyargs := [], kw_defaults := [], kwarg := none, defaults := [] }, body := FuncBody.stmts (dSs D_law_mul b_law_mul), scope := { kind := ScopeKind.function, names := [(Str.ofString "a", NameKind.local), (Str.ofString "b", NameKind.local), (Str.ofString "w", NameKind.local), (Str.ofString "_law_row", NameKind.globalImplicit), (Str.ofString "_law_number", NameKind.globalImplicit)], isGenerator := false, isCoroutine := false }, globals := 3, closure := [], defaults := Value.none, kwdefaults := Value.none, pyModule := Value.str (Str.ofString "law_nn0018_01") 502, code := Value.ref 232 } }) ::
  (nat_lit 239, codeObj "_law_draw" 532 "_law_draw" 533 534 168 2 234 235 (Value.ref 236) (Value.ref 237) 238 537 168 538) ::
  (nat_lit 240, { cls := Value.type "function", data := Data.func { name := Str.ofString "_law_draw", qualname := Str.ofString "_law_draw", params := { posonlyargs := [], args := [{ arg := Str.ofString "box", annotation := none, pos := ⟨168, 14, 168, 17⟩ }, { arg := Str.ofString "many", annotation := none, pos := ⟨168, 19, 168, 23⟩ }], vararg := none, kwonlyargs := [], kw_defaults := [], kwarg := none, defaults := [] }, body := FuncBody.stmts (dSs D_law_draw b_law_draw), scope := { kind := ScopeKind.function, names := [(Str.ofString "box", NameKind.local), (Str.ofString "many", NameKind.local), (Str.ofString "len", NameKind.globalImplicit), (Str.ofString "abs", NameKind.globalImplicit)], isGenerator := false, isCoroutine := false }, globals := 3, closure := [], defaults := Value.none, kwdefaults := Value.none, pyModule := Value.str (Str.ofString "law_nn0018_01") 502, code := Value.ref 239 } }) ::
  (nat_lit 246, codeObj "_law_size" 540 "_law_size" 541 542 174 3 241 242 (Value.ref 243) (Value.ref 244) 245 548 174 549) ::
  (nat_lit 247, { cls := Value.type "function", data := Data.func { name := Str.ofString "_law_size", qualname := Str.ofString "_law_size", params := { posonlyargs := [], args := [{ arg := Str.ofString "box", annotation := none, pos := ⟨174, 14, 174, 17⟩ }, { arg := Str.ofString "w", annotation := none, pos := ⟨174, 19, 174, 20⟩ }, { arg := Str.ofString "most", annotation := none, pos := ⟨174, 22, 174, 26⟩ }], vararg := none, kwonlyargs := [], kw_defaults := [], kwarg := none, defaults := [] }, body := FuncBody.stmts (dSs D_law_size b_law_size), scope := { kind := ScopeKind.function, names := [(Str.ofString "box", NameKind.local), (Str.ofString "w", NameKind.local), (Str.ofString "most", NameKind.local), (Str.ofString "limbs", NameKind.local), (Str.ofString "form", NameKind.local), (Str.ofString "_law_draw", NameKind.globalImplicit)], isGenerator := false, isCoroutine := false }, globals := 3, closure := [], defaults := Value.none, kwdefaults := Value.none, pyModule := Value.str (Str.ofString "law_nn0018_01") 502, code := Value.ref 246 } }) ::
  (nat_lit 251, codeObj "_law_box" 551 "_law_box" 552 553 182 2 248 249 Value.none Value.none 250 554 182 555) ::
  (nat_lit 252, { cls := Value.type "function", data := Data.func { name := Str.ofString "_law_box", qualname := Str.ofString "_law_box", params := { posonlyargs := [], args := [{ arg := Str.ofString "script", annotation := none, pos := ⟨182, 13, 182, 19⟩ }, { arg := Str.ofString "many", annotation := none, pos := ⟨182, 21, 182, 25⟩ }], vararg := none, kwonlyargs := [], kw_defaults := [], kwarg := none, defaults := [] }, body := FuncBody.stmts (dSs D_law_box b_law_box), scope := { kind := ScopeKind.function, names := [(Str.ofString "script", NameKind.local), (Str.ofString "many", NameKind.local), (Str.ofString "cell", NameKind.local), (Str.ofString "box", NameKind.local), (Str.ofString "abs", NameKind.globalImplicit)], isGenerator := false, isCoroutine := false, more := [(Str.ofString "fast", Const.str (Str.ofString "script")), (Str.ofString "fast", Const.str (Str.ofString "many")), (Str.ofString "fast", Const.str (Str.ofString "cell")), (Str.ofString "fast", Const.str (Str.ofString "box"))] }, globals := 3, closure := [], defaults := Value.none, kwdefaults := Value.none, pyModule := Value.str (Str.ofString "law_nn0018_01") 502, code := Value.ref 251 } }) ::
  (nat_lit 258, codeObj "_law_refused" 557 "_law_refused" 558 559 187 1 253 254 (Value.ref 255) (Value.ref 256) 257 561 187 562) ::
  (nat_lit 259, { cls := Value.type "function", data := Data.func { name := Str.ofString "_law_refused", qualname := Str.ofString "_law_refused", params := { posonlyargs := [], args := [{ arg := Str.ofString "work", annotation := none, pos := ⟨187, 17, 187, 21⟩ }], vararg := none, kwonlyargs := [], kw_defaults := [], kwarg := none, defaults := [] }, body := FuncBody.stmts (refBody refPos), scope := { kind := ScopeKind.function, names := [(Str.ofString "work", NameKind.local), (Str.ofString "OutOfRange", NameKind.globalImplicit)], isGenerator := false, isCoroutine := false }, globals := 3, closure := [], defaults := Value.none, kwdefaults := Value.none, pyModule := Value.str (Str.ofString "law_nn0018_01") 502, code := Value.ref 258 } }) ::
  (nat_lit 265, codeObj "_law_told_right" 564 "_law_told_right" 565 566 193 4 260 261 (Value.ref 262) (Value.ref 263) 264 572 193 573) ::
  (nat_lit 266, { cls := Value.type "function", data := Data.func { name := Str.ofString "_law_told_right", qualname := Str.ofString "_law_told_right", params := { posonlyargs := [], args := [{ arg := Str.ofString "told", annotation := none, pos := ⟨193, 20, 193, 24⟩ }, { arg := Str.ofString "m", annotation := none, pos := ⟨193, 26, 193, 27⟩ }, { arg := Str.ofString "row", annotation := none, pos := ⟨193, 29, 193, 32⟩ }, { arg := Str.ofString "w", annotation := none, pos := ⟨193, 34, 193, 35⟩ }], vararg := none, kwonlyargs := [], kw_defaults := [], kwarg := none, defaults := [] }, body := FuncBody.stmts (dSs D_law_told_right b_law_told_right), scope := { kind := ScopeKind.function, names := [(Str.ofString "told", NameKind.local), (Str.ofString "m", NameKind.local), (Str.ofString "row", NameKind.local), (Str.ofString "w", NameKind.local), (Str.ofString "size", NameKind.local), (Str.ofString "len", NameKind.globalImplicit), (Str.ofString "_law_row", NameKind.globalImplicit), (Str.ofString "check_mont", NameKind.globalImplicit), (Str.ofString "Montgomery", NameKind.globalImplicit)], isGenerator := false, isCoroutine := false }, globals := 3, closure := [], defaults := Value.none, kwdefaults := Value.none, pyModule := Value.str (Str.ofString "law_nn0018_01") 502, code := Value.ref 265 } }) ::
  (nat_lit 272, codeObj "_law_reduced_right" 575 "_law_reduced_right" 576 577 200 5 267 268 (Value.ref 269) (Value.ref 270) 271 584 200 585) ::
  (nat_lit 273, { cls := Value.type "function", data := Data.func { name := Str.ofString "_law_reduced_right", qualname := Str.ofString "_law_reduced_right", params := { posonlyargs := [], args := [{ arg := Str.ofString "found", annotation := none, pos := ⟨200, 23, 200, 28⟩ }, { arg := Str.ofString "number", annotation := none, pos := ⟨200, 30, 200, 36⟩ }, { arg := Str.ofString "m", annotation := none, pos := ⟨200, 38, 200, 39⟩ }, { arg := Str.ofString "size", annotation := none, pos := ⟨200, 41, 200, 45⟩ }, { arg := Str.ofString "w", annotation := none, pos := ⟨200, 47, 200, 48⟩ }], vararg := none, kwonlyargs := [], kw_defaults := [], kwarg := none, defaults := [] }, body := FuncBody.stmts (dSs D_law_reduced_right b_law_reduced_right), scope := { kind := ScopeKind.function, names := [(Str.ofString "found", NameKind.local), (Str.ofString "number", NameKind.local), (Str.ofString "m", NameKind.local), (Str.ofString "size", NameKind.local), (Str.ofString "w", NameKind.local), (Str.ofString "value", NameKind.local), (Str.ofString "_law_number", NameKind.globalImplicit), (Str.ofString "_law_row", NameKind.globalImplicit)], isGenerator := false, isCoroutine := false }, globals := 3, closure := [], defaults := Value.none, kwdefaults := Value.none, pyModule := Value.str (Str.ofString "law_nn0018_01") 502, code := Value.ref 272 } }) ::
  (nat_lit 279, codeObj "law" 587 "law" 588 589 203 1 274 275 (Value.ref 276) (Value.ref 277) 278 605 203 606) ::
  (nat_lit 280, { cls := Value.type "function", data := Data.func { name := Str.ofString "law", qualname := Str.ofString "law", params := { posonlyargs := [], args := [{ arg := Str.ofString "script", annotation := none, pos := ⟨203, 8, 203, 14⟩ }], vararg := none, kwonlyargs := [], kw_defaults := [], kwarg := none, defaults := [] }, body := FuncBody.stmts lawBody, scope := { kind := ScopeKind.function, names := [(Str.ofString "script", NameKind.local), (Str.ofString "box", NameKind.local), (Str.ofString "limb", NameKind.local), (Str.ofString "x", NameKind.local), (Str.ofString "y", NameKind.local), (Str.ofString "number", NameKind.local), (Str.ofString "a", NameKind.local), (Str.ofString "b", NameKind.local), (Str.ofString "wide", NameKind.local), (Str.ofString "found", NameKind.local), (Str.ofString "m", NameKind.cell), (Str.ofString "row", NameKind.cell), (Str.ofString "size", NameKind.cell), (Str.ofString "told", NameKind.cell), (Str.ofString "w", NameKind.cell), (Str.ofString "_law_box", NameKind.globalImplicit), (Str.ofString "_law_draw", NameKind.globalImplicit), (Str.ofString "_law_size", NameKind.globalImplicit), (Str.ofString "_law_row", NameKind.globalImplicit), (Str.ofString "len", NameKind.globalImplicit), (Str.ofString "mont_make", NameKind.globalImplicit), (Str.ofString "_law_told_right", NameKind.globalImplicit), (Str.ofString "_law_reduced_right", NameKind.globalImplicit), (Str.ofString "redc", NameKind.globalImplicit), (Str.ofString "to_mont", NameKind.globalImplicit), (Str.ofString "_law_mul", NameKind.globalImplicit), (Str.ofString "from_mont", NameKind.globalImplicit), (Str.ofString "mont_mul", NameKind.globalImplicit), (Str.ofString "mont_rows", NameKind.globalImplicit), (Str.ofString "scaled_rest", NameKind.globalImplicit), (Str.ofString "_law_refused", NameKind.globalImplicit)], isGenerator := false, isCoroutine := false }, globals := 3, closure := [], defaults := Value.none, kwdefaults := Value.none, pyModule := Value.str (Str.ofString "law_nn0018_01") 502, code := Value.ref 279 } }) :: []
noncomputable def KA : List Addr := [nat_lit 2, nat_lit 3, nat_lit 23, nat_lit 24, nat_lit 36, nat_lit 37, nat_lit 48, nat_lit 49, nat_lit 57, nat_lit 58, nat_lit 64, nat_lit 65, nat_lit 71, nat_lit 72, nat_lit 78, nat_lit 79, nat_lit 85, nat_lit 86, nat_lit 92, nat_lit 93, nat_lit 99, nat_lit 100, nat_lit 106, nat_lit 107, nat_lit 113, nat_lit 114, nat_lit 127, nat_lit 128, nat_lit 130, nat_lit 131, nat_lit 141, nat_lit 142, nat_lit 148, nat_lit 149, nat_lit 155, nat_lit 156, nat_lit 162, nat_lit 163, nat_lit 169, nat_lit 170, nat_lit 176, nat_lit 177, nat_lit 183, nat_lit 184, nat_lit 190, nat_lit 191, nat_lit 197, nat_lit 198, nat_lit 204, nat_lit 205, nat_lit 211, nat_lit 212, nat_lit 218, nat_lit 219, nat_lit 225, nat_lit 226, nat_lit 232, nat_lit 233, nat_lit 239, nat_lit 240, nat_lit 246, nat_lit 247, nat_lit 251, nat_lit 252, nat_lit 258, nat_lit 259, nat_lit 265, nat_lit 266, nat_lit 272, nat_lit 273, nat_lit 279, nat_lit 280]

noncomputable def vq : Program := view PySem.Challenge.pw_nn0018_01 [1, 2, 3, 4, 5, 6, 7, 8, 9, 10, 11, 13, 15, 16, 17, 18, 19, 20, 21, 22, 23, 24, 25, 26, 28, 29, 30, 31, 32, 33, 34, 35, 36, 37]
theorem KA_eq (P : Params) : KA = (KK P).map (·.1) := by kernel_rfl

theorem leftO_of_top {p q : Program} {loose : List Str} {Xt : Shared → Bool} {α : Type} {Yf : Shared → α} {Ya : World → α} {N : Nat} {g0 : Bool} {H₀ : Params → Heap} {gs₀ : Array GenState} {d₀ : Drawn} {k₀ : Nat} {m₀ : Nat} {ann : Option Value}
    {tb : String → Option Builtin} {TR : (String → Option Builtin) → Program → World → Nat → Option Value → Nat → Shared → Thread → Option Shared}
    (hT : treeTable = tb) (hR : @topRun = TR)
    (open_ : ∀ w : World, (fencedOpening treeTable p w N).map (fun s => (s.heap, s.gens, s.drawn, s.toks)) = some (H₀ w.params, gs₀, d₀, k₀))
    (size : ∀ w : World, ((H₀ w.params).isNs mainGlobals && gs₀.size == 0, (H₀ w.params).objs.size, (H₀ w.params).nsMap mainGlobals "__annotations__") = (true, m₀, ann))
    (h1 : ∀ w : World, (fun os => (TR tb p w m₀ ann N ⟨H₀ w.params, gs₀, d₀, k₀, os⟩ (topStub p)).map (fun s => staticsOk (importedModules p.main.body) (H₀ w.params) s.heap && namesBound p s.heap && gensDone s && laidKept (H₀ w.params) s.heap)) = fun _ => some true)
    (h2 : ∀ w : World, (fun os => (TR tb p w m₀ ann N ⟨H₀ w.params, gs₀, d₀, k₀, os⟩ (topStub p)).map (fun s => openSeen q loose (importedModules p.main.body) Xt g0 s)) = fun _ => some (openGood q loose))
    (h3 : ∀ w : World, (fun os => (TR tb p w m₀ ann N ⟨H₀ w.params, gs₀, d₀, k₀, os⟩ (topStub p)).map Yf) = fun _ => some (Ya w)) : LeftO p q loose Xt Yf Ya N g0 := fun w => by
  subst hT; subst hR
  obtain ⟨⟨h', gs, d, k, os⟩, e, e'⟩ := Option.map_eq_some_iff.mp (open_ w)
  obtain ⟨rfl, rfl, rfl, rfl⟩ : h' = H₀ w.params ∧ gs = gs₀ ∧ d = d₀ ∧ k = k₀ := by simpa using e'
  obtain ⟨z1, z2, z3⟩ : _ ∧ _ ∧ _ := by simpa only [Prod.mk.injEq] using size w
  obtain ⟨s₁, r, l1⟩ := Option.map_eq_some_iff.mp (congrFun (h1 w) os)
  have l2 := congrFun (h2 w) os
  have l3 := congrFun (h3 w) os
  rw [r] at l2 l3
  have t : topFrom treeTable p w N ⟨H₀ w.params, gs, d, k, os⟩ = some s₁ := by
    unfold topFrom
    dsimp only
    rw [z1, z2, z3, r]
    show (match staticsOk (importedModules p.main.body) (H₀ w.params) s₁.heap && namesBound p s₁.heap && gensDone s₁ && laidKept (H₀ w.params) s₁.heap with | true => _ | false => _) = _
    rw [l1]
  unfold openEnds
  rw [e]
  show (topFrom treeTable p w N _).map _ = _
  rw [t]
  exact congrArg some (Prod.ext (Option.some.inj l2) (Option.some.inj l3))

noncomputable def vXt : Shared → Bool := fun s => xlAt vq [] s && recOk (RowW.records PySem.Challenge.rw_nn0018_01.row.toRowW) s
noncomputable def vTop (w : World) (os : OsState) : Option Shared := PySem.W.Fast.tw14082659384304107361 PySem.W.Fast.tw14364793385576792824 PySem.Challenge.pw_nn0018_01 w 11 (some (.ref 6)) 3866 ⟨boot_heap w.params, Array.mk [], boot_drawn, boot_toks, os⟩ (topStub PySem.Challenge.pw_nn0018_01)
theorem run_ok : ∀ w : World, (fun os => (vTop w os).map (fun s => staticsOk (importedModules PySem.Challenge.pw_nn0018_01.main.body) (boot_heap w.params) s.heap && namesBound PySem.Challenge.pw_nn0018_01 s.heap && gensDone s && laidKept (boot_heap w.params) s.heap)) = fun _ => some true := by
  intro w
  kernel_rfl
theorem run_look : ∀ w : World, (fun os => (vTop w os).map (fun s => PySem.W.Fast.tw4187177175401517315 vq [] (importedModules PySem.Challenge.pw_nn0018_01.main.body) vXt true s)) = fun _ => some (openGood vq []) := by
  intro w
  kernel_rfl
theorem run_obs : ∀ w : World, (fun os => (vTop w os).map (fun s => (KA.map s.heap.get?, [275].map s.heap.get?))) = fun _ => some ((KK w.params).map fun p => some p.2, [275].map fun _ => some (tabObj #[])) := by
  intro w
  kernel_rfl
theorem run_open : ∀ w : World, (fencedOpening treeTable PySem.Challenge.pw_nn0018_01 w 3866).map (fun s => (s.heap, s.gens, s.drawn, s.toks)) = some (boot_heap w.params, Array.mk [], boot_drawn, boot_toks) :=
  boot_open (by kernel_rfl) (by decide) (fun s => by kernel_rfl)
theorem run_size : ∀ w : World, ((boot_heap w.params).isNs mainGlobals && (Array.mk [] : Array GenState).size == 0, (boot_heap w.params).objs.size, (boot_heap w.params).nsMap mainGlobals "__annotations__") = (true, 11, some (.ref 6)) := by
  intro w
  kernel_rfl
theorem left_top : LeftO PySem.Challenge.pw_nn0018_01 vq [] vXt (kmHook KK KA KA_eq [275]).obs (kmHook KK KA KA_eq [275]).val 3866 :=
  leftO_of_top PySem.W.Fast.te14364793385576792824 PySem.W.Fast.te14082659384304107361 run_open run_size run_ok
    (fun w => by rw [PySem.W.Fast.te4187177175401517315]; exact run_look w) run_obs
theorem law_said : PySem.Challenge.rw_nn0018_01.wellSaid = true := by kernel_rfl
end Mine

set_option maxHeartbeats 80000000
namespace Mine
theorem hd {d : DefRec} {kwd : List (Str × Expr)} (hdef : defOf vq PySem.Challenge.rw_nn0018_01.row.toRowW.name = some (d, kwd)) (hp : PySem.Challenge.pw_nn0018_01.theDef PySem.Challenge.rw_nn0018_01.row.toRowW.name = some (d.params, d.body, d.scope)) (hk : kwWritten? d.params.kwonlyargs d.params.kw_defaults = some kwd)
    (walk : WalkO vq [] (XL vq []) (kmHook KK KA KA_eq [275]).says PySem.Challenge.rw_nn0018_01.row.toRowW d kwd fun f vs => PySem.call f vs) : PySem.Challenge.rw_nn0018_01.Holds := by
  refine holds_law law_said fun said => ?_
  refine holds_open (q := vq) (loose := []) (Xt := vXt) (XP := XL vq []) (Yf := (kmHook KK KA KA_eq [275]).obs) (Ya := (kmHook KK KA KA_eq [275]).val) (YP := (kmHook KK KA KA_eq [275]).says) (N := 3866) left_top (kmHook KK KA KA_eq [275]).of (kmHook KK KA KA_eq [275]).keeps (fun s e => xl_of s (Bool.and_eq_true_iff.mp e).1) XL.keeps hdef hp hk (fun s e => recFacts_of (Bool.and_eq_true_iff.mp e).2) (by rfl) (by assumption) (by decide +kernel) ⟨rfl, rfl, rfl, rfl, rfl, by decide +kernel⟩ ?hw walk
  w_witness2
end Mine

set_option maxHeartbeats 8000000
namespace Mine
noncomputable def dEnv (cs : Scope) : Env := { scope := cs, locals := 0, globals := 0, cells := [], code := .none, frame := none }
/-- what swappedStores answers, as a plain test -/
noncomputable def swP (cs : Scope) (ts vs : List Expr) : Option (Option (List Str)) :=
  if !(ts.length == 2 || ts.length == 3) || vs.length != ts.length || (dEnv cs).blockKind != .function then some none
  else if vs.any fun | .Starred .. => true | _ => false then some none
  else if (ts.filterMap fun | .Name id pos => if (dEnv cs).kindOf id == some .local && pos.line == (ts.head?.map (·.pos.line)).getD 0 then some id else none | _ => none).length != ts.length ||
      (ts.filterMap fun | .Name id pos => if (dEnv cs).kindOf id == some .local && pos.line == (ts.head?.map (·.pos.line)).getD 0 then some id else none | _ => none).eraseDups.length != (ts.filterMap fun | .Name id pos => if (dEnv cs).kindOf id == some .local && pos.line == (ts.head?.map (·.pos.line)).getD 0 then some id else none | _ => none).length then some none
  else if vs.all (foldedForSure 8) then some none
  else if vs.all (constantsAlone 8) then none
  else some (some (ts.filterMap fun | .Name id pos => if (dEnv cs).kindOf id == some .local && pos.line == (ts.head?.map (·.pos.line)).getD 0 then some id else none | _ => none))
theorem swP_ok {cs : Scope} {ts vs : List Expr} {r : Option (List Str)} (h : swP cs ts vs = some r) (n1 : Nat) (p1 : Pos) (n2 : Nat) (p2 : Pos) (env : Env) (he : env.scope = cs) : swappedStores [.Tuple ts n1 p1] (.Tuple vs n2 p2) env = pure r := by
  cases env
  cases he
  unfold swP at h
  unfold swappedStores
  split at h
  · cases h; rename_i c; exact if_pos c
  · rename_i c1
    split at h
    · cases h; rename_i c; exact (if_neg c1).trans (if_pos c)
    · rename_i c2
      split at h
      · cases h; rename_i c; exact (if_neg c1).trans ((if_neg c2).trans (if_pos c))
      · rename_i c3
        split at h
        · cases h; rename_i c; exact (if_neg c1).trans ((if_neg c2).trans ((if_neg c3).trans (if_pos c)))
        · rename_i c4
          split at h
          · cases h
          · rename_i c5
            cases h; exact (if_neg c1).trans ((if_neg c2).trans ((if_neg c3).trans ((if_neg c4).trans (if_neg c5))))

noncomputable def gloB (cs : Scope) (y : Str) : Bool := cs.names.lookup y == some .globalImplicit
noncomputable def locB (cs : Scope) (y : Str) : Bool := cs.names.lookup y == some .local
mutual
noncomputable def wfEB (cs : Scope) (n : Nat) : ME → Bool
  | .loc i _ => decide (i < n)
  | .glob g _ => decide (g < gnames.length) && gloB cs (gname g)
  | .int _ _ => true
  | .bool _ _ => true
  | .bin _ a b _ => wfEB cs n a && wfEB cs n b
  | .cat _ a b _ => wfEB cs n a && wfEB cs n b
  | .rep _ a b _ => wfEB cs n a && wfEB cs n b
  | .neg a _ => wfEB cs n a
  | .not a _ => wfEB cs n a
  | .cmp _ a b _ => wfEB cs n a && wfEB cs n b
  | .cmp2 _ _ a b c _ => wfEB cs n a && (wfEB cs n b && wfEB cs n c)
  | .logic _ e es _ => wfEB cs n e && wfEsB cs n es
  | .ife t a b _ => wfEB cs n t && (wfEB cs n a && wfEB cs n b)
  | .len e _ => wfEB cs n e && gloB cs "len"
  | .abs e _ => wfEB cs n e && gloB cs "abs"
  | .call g e es _ => (decide (g < gnames.length) && gloB cs (gname g)) && (wfEB cs n e && wfEsB cs n es)
  | .callv i e es _ => decide (i < n) && (wfEB cs n e && wfEsB cs n es)
  | .mont a b c d _ => wfEB cs n a && (wfEB cs n b && (wfEB cs n c && (wfEB cs n d && gloB cs "Montgomery")))
  | .item e ix _ => wfEB cs n e && wfEB cs n ix
  | .slTo e hi _ => wfEB cs n e && wfEB cs n hi
  | .slFr e lo _ => wfEB cs n e && wfEB cs n lo
  | .nil _ _ => true
  | .one e _ => wfEB cs n e
  | .mkbox a b c _ => wfEB cs n a && (wfEB cs n b && wfEB cs n c)
  | .attr e f _ => wfEB cs n e && decide (f < 4)
  | .comp e _ => wfEB cs n e
noncomputable def wfEsB (cs : Scope) (n : Nat) : MEs → Bool
  | .nil => true
  | .cons e r => wfEB cs n e && wfEsB cs n r
end
theorem and2 {a b : Bool} {p q : Prop} (f : a = true → p) (g : b = true → q) (h : (a && b) = true) : p ∧ q :=
  let ⟨x, y⟩ := Bool.and_eq_true_iff.mp h; ⟨f x, g y⟩
theorem glo_ok {cs : Scope} {y : Str} (h : gloB cs y = true) : glo cs y := eq_of_beq h
theorem loc_ok {cs : Scope} {y : Str} (h : locB cs y = true) : cs.names.lookup y = some .local := eq_of_beq h
mutual
theorem wfE_ok {cs : Scope} {n : Nat} : ∀ e, wfEB cs n e = true → wfE cs n e
  | .loc i _, h => of_decide_eq_true (p := i < n) h
  | .glob g _, h => and2 of_decide_eq_true glo_ok h
  | .int _ _, _ => True.intro
  | .bool _ _, _ => True.intro
  | .bin _ a b _, h => and2 (wfE_ok a) (wfE_ok b) h
  | .cat _ a b _, h => and2 (wfE_ok a) (wfE_ok b) h
  | .rep _ a b _, h => and2 (wfE_ok a) (wfE_ok b) h
  | .neg a _, h => wfE_ok a h
  | .not a _, h => wfE_ok a h
  | .cmp _ a b _, h => and2 (wfE_ok a) (wfE_ok b) h
  | .cmp2 _ _ a b c _, h => and2 (wfE_ok a) (and2 (wfE_ok b) (wfE_ok c)) h
  | .logic _ e es _, h => and2 (wfE_ok e) (wfEs_ok es) h
  | .ife t a b _, h => and2 (wfE_ok t) (and2 (wfE_ok a) (wfE_ok b)) h
  | .len e _, h => and2 (wfE_ok e) glo_ok h
  | .abs e _, h => and2 (wfE_ok e) glo_ok h
  | .call g e es _, h => and2 (and2 of_decide_eq_true glo_ok) (and2 (wfE_ok e) (wfEs_ok es)) h
  | .callv i e es _, h => and2 of_decide_eq_true (and2 (wfE_ok e) (wfEs_ok es)) h
  | .mont a b c d _, h => and2 (wfE_ok a) (and2 (wfE_ok b) (and2 (wfE_ok c) (and2 (wfE_ok d) glo_ok))) h
  | .item e ix _, h => and2 (wfE_ok e) (wfE_ok ix) h
  | .slTo e hi _, h => and2 (wfE_ok e) (wfE_ok hi) h
  | .slFr e lo _, h => and2 (wfE_ok e) (wfE_ok lo) h
  | .nil _ _, _ => True.intro
  | .one e _, h => wfE_ok e h
  | .mkbox a b c _, h => and2 (wfE_ok a) (and2 (wfE_ok b) (wfE_ok c)) h
  | .attr e f _, h => and2 (wfE_ok e) of_decide_eq_true h
  | .comp e _, h => wfE_ok e h
theorem wfEs_ok {cs : Scope} {n : Nat} : ∀ es, wfEsB cs n es = true → wfEs cs n es
  | .nil, _ => True.intro
  | .cons e r, h => and2 (wfE_ok e) (wfEs_ok r) h
end
noncomputable def sw2 (cs : Scope) (D : DC) (i j : Nat) (a b : ME) (q : Nat) : Bool := match swP cs [.Name (D.nm i) (D.pf q), .Name (D.nm j) (D.pf (q + 1))] [dE D a, dE D b] with
  | some (some l) => l == [D.nm i, D.nm j]
  | some none => true
  | none => false
noncomputable def sw3 (cs : Scope) (D : DC) (i j k : Nat) (a b c : ME) (q : Nat) : Bool := match swP cs [.Name (D.nm i) (D.pf q), .Name (D.nm j) (D.pf (q + 1)), .Name (D.nm k) (D.pf (q + 2))] [dE D a, dE D b, dE D c] with
  | some (some l) => l == [D.nm i, D.nm j, D.nm k]
  | _ => false
theorem sw2_ok {cs : Scope} {D : DC} {i j : Nat} {a b : ME} {q : Nat} (h : sw2 cs D i j a b q = true) : Swap2 cs D i j a b q := by
  unfold sw2 at h
  split at h
  · rename_i l e; rw [eq_of_beq h] at e; exact .inl fun env he => swP_ok e _ _ _ _ env he
  · rename_i e; exact .inr fun env he => swP_ok e _ _ _ _ env he
  · cases h
theorem sw3_ok {cs : Scope} {D : DC} {i j k : Nat} {a b c : ME} {q : Nat} (h : sw3 cs D i j k a b c q = true) : Swap3 cs D i j k a b c q := by
  unfold sw3 at h
  split at h
  · rename_i l e; rw [eq_of_beq h] at e; exact fun env he => swP_ok e _ _ _ _ env he
  · cases h
noncomputable def notCellFree (cs : Scope) : Bool := cs.names.all fun y => y.2 != .cell && y.2 != .free
theorem notCellFree_ok {cs : Scope} (h : notCellFree cs = true) : ∀ y ∈ cs.names, y.2 ≠ .cell ∧ y.2 ≠ .free := fun y hy => and2 (fun e => bne_iff_ne.mp e) (fun e => bne_iff_ne.mp e) (List.all_eq_true.mp h y hy)
mutual
noncomputable def wfSB (cs : Scope) (D : DC) : MS → Bool
  | .asg i e _ => decide (i < D.names.length) && (wfEB cs D.names.length e && isComp e == false)
  | .asg2 i j a b q => decide (i < D.names.length) && (decide (j < D.names.length) && (decide (i ≠ j) && (wfEB cs D.names.length a && (wfEB cs D.names.length b && sw2 cs D i j a b q))))
  | .asg3 i j k a b c q => decide (i < D.names.length) && (decide (j < D.names.length) && (decide (k < D.names.length) && (wfEB cs D.names.length a && (wfEB cs D.names.length b && (wfEB cs D.names.length c && sw3 cs D i j k a b c q)))))
  | .asgI b ix e _ => decide (b < D.names.length) && (wfEB cs D.names.length ix && (wfEB cs D.names.length e && isComp e == false))
  | .aug i _ e _ => decide (i < D.names.length) && (locB cs (D.nm i) && wfEB cs D.names.length e)
  | .ifs t b o _ => wfEB cs D.names.length t && (wfSsB cs D b && wfSsB cs D o)
  | .forR i e es b _ => decide (i < D.names.length) && (locB cs (D.nm i) && (gloB cs "range" && (wfEB cs D.names.length e && (wfEsB cs D.names.length es && wfSsB cs D b))))
  | .forL i e b _ => decide (i < D.names.length) && (locB cs (D.nm i) && (wfEB cs D.names.length e && wfSsB cs D b))
  | .forV i e b _ => decide (i < D.names.length) && (locB cs (D.nm i) && (gloB cs "reversed" && (wfEB cs D.names.length e && wfSsB cs D b)))
  | .whl t b _ => wfEB cs D.names.length t && wfSsB cs D b
  | .ret e _ => wfEB cs D.names.length e
  | .raise c _ _ => gloB cs (cname c) && notCellFree cs
  | .app i e q => decide (i < D.names.length) && (wfEB cs D.names.length e && (D.pf (q + 1)).endLine == (D.pf (q + 2)).line)
  | .exp e _ => wfEB cs D.names.length e && isComp e == false
noncomputable def wfSsB (cs : Scope) (D : DC) : MSs → Bool
  | .nil => true
  | .cons s r => wfSB cs D s && wfSsB cs D r
end
mutual
theorem wfS_ok {cs : Scope} {D : DC} : ∀ s, wfSB cs D s = true → wfS cs D s
  | .asg i e _, h => and2 of_decide_eq_true (and2 (wfE_ok e) eq_of_beq) h
  | .asg2 i j a b q, h => and2 of_decide_eq_true (and2 of_decide_eq_true (and2 of_decide_eq_true (and2 (wfE_ok a) (and2 (wfE_ok b) sw2_ok)))) h
  | .asg3 i j k a b c q, h => and2 of_decide_eq_true (and2 of_decide_eq_true (and2 of_decide_eq_true (and2 (wfE_ok a) (and2 (wfE_ok b) (and2 (wfE_ok c) sw3_ok))))) h
  | .asgI b ix e _, h => and2 of_decide_eq_true (and2 (wfE_ok ix) (and2 (wfE_ok e) eq_of_beq)) h
  | .aug i _ e _, h => and2 of_decide_eq_true (and2 loc_ok (wfE_ok e)) h
  | .ifs t b o _, h => and2 (wfE_ok t) (and2 (wfSs_ok b) (wfSs_ok o)) h
  | .forR i e es b _, h => and2 of_decide_eq_true (and2 loc_ok (and2 glo_ok (and2 (wfE_ok e) (and2 (wfEs_ok es) (wfSs_ok b))))) h
  | .forL i e b _, h => and2 of_decide_eq_true (and2 loc_ok (and2 (wfE_ok e) (wfSs_ok b))) h
  | .forV i e b _, h => and2 of_decide_eq_true (and2 loc_ok (and2 glo_ok (and2 (wfE_ok e) (wfSs_ok b)))) h
  | .whl t b _, h => and2 (wfE_ok t) (wfSs_ok b) h
  | .ret e _, h => wfE_ok e h
  | .raise c _ _, h => and2 glo_ok notCellFree_ok h
  | .app i e q, h => and2 of_decide_eq_true (and2 (wfE_ok e) id) h
  | .exp e _, h => and2 (wfE_ok e) eq_of_beq h
theorem wfSs_ok {cs : Scope} {D : DC} : ∀ b, wfSsB cs D b = true → wfSs cs D b
  | .nil, _ => True.intro
  | .cons s r, h => and2 (wfS_ok s) (wfSs_ok r) h
end

noncomputable def AllN : Nat → (List Value → Prop) → Prop
  | 0, P => P []
  | n + 1, P => ∀ a, AllN n fun l => P (a :: l)
theorem all_len : ∀ (n : Nat) {P : List Value → Prop}, AllN n P → ∀ vs : List Value, vs.length = n → P vs
  | 0, P, h, vs, e => by rw [List.eq_nil_of_length_eq_zero e]; exact h
  | n + 1, P, h, vs, e => by
    cases vs with
    | nil => cases e
    | cons a l => exact all_len n (h a) l (Nat.succ.inj e)

/-- a def as it stands in the heap: its cells, but for the body -/
structure FnC where
  name : Str
  params : Arguments
  scope : Scope
  dV : Value
  kV : Value
  doc : Value
  pm : Value
  an : Option Addr
  cdv : Value
  ct : Value
noncomputable def FnC.data (F : FDef) (c : FnC) : FuncData := fnOf c.name c.name c.params (dSs F.D F.body) c.scope c.dV c.kV c.doc c.pm c.an c.cdv c.ct
noncomputable def FnC.of (K : Frag) (f : Addr) : FnC := match K.lookup f with
  | some ⟨_, _, .func d, _⟩ => ⟨d.name, d.params, d.scope, d.defaults, d.kwdefaults, d.doc, d.pyModule, d.annotations, d.code, d.closureTuple⟩
  | _ => ⟨Str.ofString "", ⟨[], [], none, [], [], none, []⟩, ⟨.function, [], false, false, []⟩, .none, .none, .none, .none, none, .none, .none⟩
noncomputable def fnB (K : Frag) (F : FDef) (c : FnC) : Bool :=
  codeIn K c.cdv c.name && (c.scope.isCoroutine == false && (c.scope.isGenerator == false && (c.scope.kind == .function && (c.scope.names.all (fun y => y.2 != .cell) && (F.D.names.all (fun y => c.scope.names.lookup y == some .local) &&
    (decide (F.np ≤ F.D.names.length) && ((decide F.D.names.Nodup && (F.D.names.all (fun x => (x == ("__debug__" : Str)) == false) && F.D.names.all (fun x => (x == ("__classdict__" : Str)) == false))) && wfSsB c.scope F.D F.body)))))))
noncomputable def EqB (K : Frag) (f : Addr) (F : FDef) (vs : List Value) : Prop := bindArgs ((FnC.of K f).data F) ⟨vs, []⟩ = pure ((F.D.names.take F.np).zip vs)
theorem fnIn_of {S : Glo} {f : Addr} {F : FDef} (h1 : S.K.lookup f = some ⟨.type "function", none, .func ((FnC.of S.K f).data F), #[]⟩)
    (h2 : ∀ vs, vs.length = F.np → EqB S.K f F vs) (h3 : fnB S.K F (FnC.of S.K f) = true) : FnIn S f F := by
  obtain ⟨a, b, c, d, e, g, i, j, k⟩ := and2 (p := codeIn S.K _ _ = true) id (and2 eq_of_beq (and2 eq_of_beq (and2 eq_of_beq (and2 List.all_eq_true.mp (and2 List.all_eq_true.mp (and2 of_decide_eq_true (and2 (and2 (q := _ ∧ _) of_decide_eq_true (and2 List.all_eq_true.mp List.all_eq_true.mp)) (wfSs_ok _)))))))) h3
  exact ⟨_, _, _, _, _, _, _, _, _, _, _, _, _, _, h1, a, fun s vs hl => BindsTo.of_eq (h2 vs hl), b, c, d, fun y hy => bne_iff_ne.mp (e y hy), fun y hy => eq_of_beq (g y hy), i, ⟨j.1, fun x hx => eq_of_beq (j.2.1 x hx), fun x hx => eq_of_beq (j.2.2 x hx)⟩, k⟩

section
variable (prog : Program) (w : World) (P : Params) (p : Program) (loose : List Str) (mean : ExcName → Option Value) (mg mb : Str → Option Value)
noncomputable abbrev SK : Glo := ⟨prog, w, KK P, p, loose, mean, mg, mb⟩
theorem fn_normal : FnIn (SK prog w P p loose mean mg mb) 58 F_normal := by
  refine fnIn_of (by kernel_rfl) (fun vs hl => all_len 1 (P := EqB (KK P) 58 F_normal) ?_ vs hl) (by kernel_rfl)
  intro a
  show bindArgs ((FnC.of (KK P) 58).data F_normal) ⟨[a], []⟩ = pure ((F_normal.D.names.take F_normal.np).zip [a])
  kernel_rfl
theorem fn_is_even : FnIn (SK prog w P p loose mean mg mb) 65 F_is_even := by
  refine fnIn_of (by kernel_rfl) (fun vs hl => all_len 1 (P := EqB (KK P) 65 F_is_even) ?_ vs hl) (by kernel_rfl)
  intro a
  show bindArgs ((FnC.of (KK P) 65).data F_is_even) ⟨[a], []⟩ = pure ((F_is_even.D.names.take F_is_even.np).zip [a])
  kernel_rfl
theorem fn_compare : FnIn (SK prog w P p loose mean mg mb) 72 F_compare := by
  refine fnIn_of (by kernel_rfl) (fun vs hl => all_len 2 (P := EqB (KK P) 72 F_compare) ?_ vs hl) (by kernel_rfl)
  intro a b
  show bindArgs ((FnC.of (KK P) 72).data F_compare) ⟨[a, b], []⟩ = pure ((F_compare.D.names.take F_compare.np).zip [a, b])
  kernel_rfl
theorem fn_add : FnIn (SK prog w P p loose mean mg mb) 79 F_add := by
  refine fnIn_of (by kernel_rfl) (fun vs hl => all_len 3 (P := EqB (KK P) 79 F_add) ?_ vs hl) (by kernel_rfl)
  intro a b c
  show bindArgs ((FnC.of (KK P) 79).data F_add) ⟨[a, b, c], []⟩ = pure ((F_add.D.names.take F_add.np).zip [a, b, c])
  kernel_rfl
theorem fn_sub : FnIn (SK prog w P p loose mean mg mb) 86 F_sub := by
  refine fnIn_of (by kernel_rfl) (fun vs hl => all_len 3 (P := EqB (KK P) 86 F_sub) ?_ vs hl) (by kernel_rfl)
  intro a b c
  show bindArgs ((FnC.of (KK P) 86).data F_sub) ⟨[a, b, c], []⟩ = pure ((F_sub.D.names.take F_sub.np).zip [a, b, c])
  kernel_rfl
theorem fn_lifted : FnIn (SK prog w P p loose mean mg mb) 93 F_lifted := by
  refine fnIn_of (by kernel_rfl) (fun vs hl => all_len 2 (P := EqB (KK P) 93 F_lifted) ?_ vs hl) (by kernel_rfl)
  intro a b
  show bindArgs ((FnC.of (KK P) 93).data F_lifted) ⟨[a, b], []⟩ = pure ((F_lifted.D.names.take F_lifted.np).zip [a, b])
  kernel_rfl
theorem fn_mul_limb : FnIn (SK prog w P p loose mean mg mb) 100 F_mul_limb := by
  refine fnIn_of (by kernel_rfl) (fun vs hl => all_len 3 (P := EqB (KK P) 100 F_mul_limb) ?_ vs hl) (by kernel_rfl)
  intro a b c
  show bindArgs ((FnC.of (KK P) 100).data F_mul_limb) ⟨[a, b, c], []⟩ = pure ((F_mul_limb.D.names.take F_mul_limb.np).zip [a, b, c])
  kernel_rfl
theorem fn_shift_left : FnIn (SK prog w P p loose mean mg mb) 107 F_shift_left := by
  refine fnIn_of (by kernel_rfl) (fun vs hl => all_len 3 (P := EqB (KK P) 107 F_shift_left) ?_ vs hl) (by kernel_rfl)
  intro a b c
  show bindArgs ((FnC.of (KK P) 107).data F_shift_left) ⟨[a, b, c], []⟩ = pure ((F_shift_left.D.names.take F_shift_left.np).zip [a, b, c])
  kernel_rfl
theorem fn_inverse_limb : FnIn (SK prog w P p loose mean mg mb) 114 F_inverse_limb := by
  refine fnIn_of (by kernel_rfl) (fun vs hl => all_len 2 (P := EqB (KK P) 114 F_inverse_limb) ?_ vs hl) (by kernel_rfl)
  intro a b
  show bindArgs ((FnC.of (KK P) 114).data F_inverse_limb) ⟨[a, b], []⟩ = pure ((F_inverse_limb.D.names.take F_inverse_limb.np).zip [a, b])
  kernel_rfl
theorem fn_doubled_rest : FnIn (SK prog w P p loose mean mg mb) 142 F_doubled_rest := by
  refine fnIn_of (by kernel_rfl) (fun vs hl => all_len 3 (P := EqB (KK P) 142 F_doubled_rest) ?_ vs hl) (by kernel_rfl)
  intro a b c
  show bindArgs ((FnC.of (KK P) 142).data F_doubled_rest) ⟨[a, b, c], []⟩ = pure ((F_doubled_rest.D.names.take F_doubled_rest.np).zip [a, b, c])
  kernel_rfl
theorem fn_mont_make : FnIn (SK prog w P p loose mean mg mb) 149 F_mont_make := by
  refine fnIn_of (by kernel_rfl) (fun vs hl => all_len 2 (P := EqB (KK P) 149 F_mont_make) ?_ vs hl) (by kernel_rfl)
  intro a b
  show bindArgs ((FnC.of (KK P) 149).data F_mont_make) ⟨[a, b], []⟩ = pure ((F_mont_make.D.names.take F_mont_make.np).zip [a, b])
  kernel_rfl
theorem fn_add_row : FnIn (SK prog w P p loose mean mg mb) 156 F_add_row := by
  refine fnIn_of (by kernel_rfl) (fun vs hl => all_len 5 (P := EqB (KK P) 156 F_add_row) ?_ vs hl) (by kernel_rfl)
  intro a b c d e
  show bindArgs ((FnC.of (KK P) 156).data F_add_row) ⟨[a, b, c, d, e], []⟩ = pure ((F_add_row.D.names.take F_add_row.np).zip [a, b, c, d, e])
  kernel_rfl
theorem fn_taken_once : FnIn (SK prog w P p loose mean mg mb) 163 F_taken_once := by
  refine fnIn_of (by kernel_rfl) (fun vs hl => all_len 3 (P := EqB (KK P) 163 F_taken_once) ?_ vs hl) (by kernel_rfl)
  intro a b c
  show bindArgs ((FnC.of (KK P) 163).data F_taken_once) ⟨[a, b, c], []⟩ = pure ((F_taken_once.D.names.take F_taken_once.np).zip [a, b, c])
  kernel_rfl
theorem fn_redc : FnIn (SK prog w P p loose mean mg mb) 170 F_redc := by
  refine fnIn_of (by kernel_rfl) (fun vs hl => all_len 3 (P := EqB (KK P) 170 F_redc) ?_ vs hl) (by kernel_rfl)
  intro a b c
  show bindArgs ((FnC.of (KK P) 170).data F_redc) ⟨[a, b, c], []⟩ = pure ((F_redc.D.names.take F_redc.np).zip [a, b, c])
  kernel_rfl
theorem fn_to_mont : FnIn (SK prog w P p loose mean mg mb) 177 F_to_mont := by
  refine fnIn_of (by kernel_rfl) (fun vs hl => all_len 4 (P := EqB (KK P) 177 F_to_mont) ?_ vs hl) (by kernel_rfl)
  intro a b c d
  show bindArgs ((FnC.of (KK P) 177).data F_to_mont) ⟨[a, b, c, d], []⟩ = pure ((F_to_mont.D.names.take F_to_mont.np).zip [a, b, c, d])
  kernel_rfl
theorem fn_from_mont : FnIn (SK prog w P p loose mean mg mb) 184 F_from_mont := by
  refine fnIn_of (by kernel_rfl) (fun vs hl => all_len 3 (P := EqB (KK P) 184 F_from_mont) ?_ vs hl) (by kernel_rfl)
  intro a b c
  show bindArgs ((FnC.of (KK P) 184).data F_from_mont) ⟨[a, b, c], []⟩ = pure ((F_from_mont.D.names.take F_from_mont.np).zip [a, b, c])
  kernel_rfl
theorem fn_mont_mul : FnIn (SK prog w P p loose mean mg mb) 191 F_mont_mul := by
  refine fnIn_of (by kernel_rfl) (fun vs hl => all_len 5 (P := EqB (KK P) 191 F_mont_mul) ?_ vs hl) (by kernel_rfl)
  intro a b c d e
  show bindArgs ((FnC.of (KK P) 191).data F_mont_mul) ⟨[a, b, c, d, e], []⟩ = pure ((F_mont_mul.D.names.take F_mont_mul.np).zip [a, b, c, d, e])
  kernel_rfl
theorem fn_mont_rows : FnIn (SK prog w P p loose mean mg mb) 198 F_mont_rows := by
  refine fnIn_of (by kernel_rfl) (fun vs hl => all_len 4 (P := EqB (KK P) 198 F_mont_rows) ?_ vs hl) (by kernel_rfl)
  intro a b c d
  show bindArgs ((FnC.of (KK P) 198).data F_mont_rows) ⟨[a, b, c, d], []⟩ = pure ((F_mont_rows.D.names.take F_mont_rows.np).zip [a, b, c, d])
  kernel_rfl
theorem fn_scaled_rest : FnIn (SK prog w P p loose mean mg mb) 205 F_scaled_rest := by
  refine fnIn_of (by kernel_rfl) (fun vs hl => all_len 4 (P := EqB (KK P) 205 F_scaled_rest) ?_ vs hl) (by kernel_rfl)
  intro a b c d
  show bindArgs ((FnC.of (KK P) 205).data F_scaled_rest) ⟨[a, b, c, d], []⟩ = pure ((F_scaled_rest.D.names.take F_scaled_rest.np).zip [a, b, c, d])
  kernel_rfl
theorem fn_check_mont : FnIn (SK prog w P p loose mean mg mb) 212 F_check_mont := by
  refine fnIn_of (by kernel_rfl) (fun vs hl => all_len 2 (P := EqB (KK P) 212 F_check_mont) ?_ vs hl) (by kernel_rfl)
  intro a b
  show bindArgs ((FnC.of (KK P) 212).data F_check_mont) ⟨[a, b], []⟩ = pure ((F_check_mont.D.names.take F_check_mont.np).zip [a, b])
  kernel_rfl
theorem fn_law_row : FnIn (SK prog w P p loose mean mg mb) 219 F_law_row := by
  refine fnIn_of (by kernel_rfl) (fun vs hl => all_len 2 (P := EqB (KK P) 219 F_law_row) ?_ vs hl) (by kernel_rfl)
  intro a b
  show bindArgs ((FnC.of (KK P) 219).data F_law_row) ⟨[a, b], []⟩ = pure ((F_law_row.D.names.take F_law_row.np).zip [a, b])
  kernel_rfl
theorem fn_law_number : FnIn (SK prog w P p loose mean mg mb) 226 F_law_number := by
  refine fnIn_of (by kernel_rfl) (fun vs hl => all_len 2 (P := EqB (KK P) 226 F_law_number) ?_ vs hl) (by kernel_rfl)
  intro a b
  show bindArgs ((FnC.of (KK P) 226).data F_law_number) ⟨[a, b], []⟩ = pure ((F_law_number.D.names.take F_law_number.np).zip [a, b])
  kernel_rfl
theorem fn_law_mul : FnIn (SK prog w P p loose mean mg mb) 233 F_law_mul := by
  refine fnIn_of (by kernel_rfl) (fun vs hl => all_len 3 (P := EqB (KK P) 233 F_law_mul) ?_ vs hl) (by kernel_rfl)
  intro a b c
  show bindArgs ((FnC.of (KK P) 233).data F_law_mul) ⟨[a, b, c], []⟩ = pure ((F_law_mul.D.names.take F_law_mul.np).zip [a, b, c])
  kernel_rfl
theorem fn_law_draw : FnIn (SK prog w P p loose mean mg mb) 240 F_law_draw := by
  refine fnIn_of (by kernel_rfl) (fun vs hl => all_len 2 (P := EqB (KK P) 240 F_law_draw) ?_ vs hl) (by kernel_rfl)
  intro a b
  show bindArgs ((FnC.of (KK P) 240).data F_law_draw) ⟨[a, b], []⟩ = pure ((F_law_draw.D.names.take F_law_draw.np).zip [a, b])
  kernel_rfl
theorem fn_law_size : FnIn (SK prog w P p loose mean mg mb) 247 F_law_size := by
  refine fnIn_of (by kernel_rfl) (fun vs hl => all_len 3 (P := EqB (KK P) 247 F_law_size) ?_ vs hl) (by kernel_rfl)
  intro a b c
  show bindArgs ((FnC.of (KK P) 247).data F_law_size) ⟨[a, b, c], []⟩ = pure ((F_law_size.D.names.take F_law_size.np).zip [a, b, c])
  kernel_rfl
theorem fn_law_box : FnIn (SK prog w P p loose mean mg mb) 252 F_law_box := by
  refine fnIn_of (by kernel_rfl) (fun vs hl => all_len 2 (P := EqB (KK P) 252 F_law_box) ?_ vs hl) (by kernel_rfl)
  intro a b
  show bindArgs ((FnC.of (KK P) 252).data F_law_box) ⟨[a, b], []⟩ = pure ((F_law_box.D.names.take F_law_box.np).zip [a, b])
  kernel_rfl
theorem fn_law_told_right : FnIn (SK prog w P p loose mean mg mb) 266 F_law_told_right := by
  refine fnIn_of (by kernel_rfl) (fun vs hl => all_len 4 (P := EqB (KK P) 266 F_law_told_right) ?_ vs hl) (by kernel_rfl)
  intro a b c d
  show bindArgs ((FnC.of (KK P) 266).data F_law_told_right) ⟨[a, b, c, d], []⟩ = pure ((F_law_told_right.D.names.take F_law_told_right.np).zip [a, b, c, d])
  kernel_rfl
theorem fn_law_reduced_right : FnIn (SK prog w P p loose mean mg mb) 273 F_law_reduced_right := by
  refine fnIn_of (by kernel_rfl) (fun vs hl => all_len 5 (P := EqB (KK P) 273 F_law_reduced_right) ?_ vs hl) (by kernel_rfl)
  intro a b c d e
  show bindArgs ((FnC.of (KK P) 273).data F_law_reduced_right) ⟨[a, b, c, d, e], []⟩ = pure ((F_law_reduced_right.D.names.take F_law_reduced_right.np).zip [a, b, c, d, e])
  kernel_rfl
end
end Mine

set_option maxHeartbeats 8000000
namespace Mine
noncomputable def gaddr : List Addr := [58, 65, 72, 79, 86, 93, 100, 107, 114, 142, 149, 156, 163, 170, 177, 184, 191, 198, 205, 212, 219, 226, 233, 240, 247, 252, 266, 273]
noncomputable def GG (H0 : Heap) : Fix := ⟨131, 49, fun g => gaddr.getD g 0, H0⟩
section
variable (prog : Program) (w : World) (P : Params) (p : Program) (loose : List Str) (mean : ExcName → Option Value) (mg mb : Str → Option Value) (H0 : Heap)
theorem facts : Facts ⟨prog, w, KK P, p, loose, mean, mg, mb⟩ (GG H0) := by
  refine ⟨fun g hg => ?_, fun y hy => ?_, ⟨rfl, rfl⟩, rfl, by kernel_rfl⟩
  · match g, hg with
    | 0, _ => exact ⟨rfl, rfl⟩
    | 1, _ => exact ⟨rfl, rfl⟩
    | 2, _ => exact ⟨rfl, rfl⟩
    | 3, _ => exact ⟨rfl, rfl⟩
    | 4, _ => exact ⟨rfl, rfl⟩
    | 5, _ => exact ⟨rfl, rfl⟩
    | 6, _ => exact ⟨rfl, rfl⟩
    | 7, _ => exact ⟨rfl, rfl⟩
    | 8, _ => exact ⟨rfl, rfl⟩
    | 9, _ => exact ⟨rfl, rfl⟩
    | 10, _ => exact ⟨rfl, rfl⟩
    | 11, _ => exact ⟨rfl, rfl⟩
    | 12, _ => exact ⟨rfl, rfl⟩
    | 13, _ => exact ⟨rfl, rfl⟩
    | 14, _ => exact ⟨rfl, rfl⟩
    | 15, _ => exact ⟨rfl, rfl⟩
    | 16, _ => exact ⟨rfl, rfl⟩
    | 17, _ => exact ⟨rfl, rfl⟩
    | 18, _ => exact ⟨rfl, rfl⟩
    | 19, _ => exact ⟨rfl, rfl⟩
    | 20, _ => exact ⟨rfl, rfl⟩
    | 21, _ => exact ⟨rfl, rfl⟩
    | 22, _ => exact ⟨rfl, rfl⟩
    | 23, _ => exact ⟨rfl, rfl⟩
    | 24, _ => exact ⟨rfl, rfl⟩
    | 25, _ => exact ⟨rfl, rfl⟩
    | 26, _ => exact ⟨rfl, rfl⟩
    | 27, _ => exact ⟨rfl, rfl⟩
    | k + 28, h => exact absurd h (by show ¬ k + 28 < 28; omega)
  · simp only [List.mem_cons, List.not_mem_nil, or_false] at hy
    rcases hy with rfl | rfl | rfl | rfl | rfl | rfl <;> rfl
theorem montFacts : MontFacts ⟨prog, w, KK P, p, loose, mean, mg, mb⟩ (GG H0) := by
  refine ⟨fun f hf => ?_⟩
  match f, hf with
  | 0, _ => exact ⟨rfl, rfl, rfl⟩
  | 1, _ => exact ⟨rfl, rfl, rfl⟩
  | 2, _ => exact ⟨rfl, rfl, rfl⟩
  | 3, _ => exact ⟨rfl, rfl, rfl⟩
theorem initFacts : InitFacts ⟨prog, w, KK P, p, loose, mean, mg, mb⟩ (GG H0) := by
  refine ⟨rfl, rfl, rfl, rfl, fun f hf => ?_, rfl, ⟨128, _, _, _, _, _, _, _, _, _, _, _, _, _, _, initPos, rfl, rfl, rfl, rfl, fun s a b c d e => BindsTo.of_eq rfl, rfl, rfl, rfl, by decide, by decide⟩⟩
  match f, hf with
  | 0, _ => rfl
  | 1, _ => rfl
  | 2, _ => rfl
  | 3, _ => rfl
theorem refFacts : RefFacts ⟨prog, w, KK P, p, loose, mean, mg, mb⟩ 259 :=
  ⟨_, _, _, _, _, _, _, _, _, _, _, _, _, _, refPos, rfl, rfl, fun s v => BindsTo.of_eq rfl, rfl, rfl, rfl, by decide, rfl, rfl, rfl, rfl⟩
theorem allFns : ∀ g F, PT g = some F → g < gnames.length ∧ FnIn ⟨prog, w, KK P, p, loose, mean, mg, mb⟩ ((GG H0).ga g) F := by
  intro g F h
  match g, h with
  | 0, h => cases h; exact ⟨by decide, fn_normal prog w P p loose mean mg mb⟩
  | 1, h => cases h; exact ⟨by decide, fn_is_even prog w P p loose mean mg mb⟩
  | 2, h => cases h; exact ⟨by decide, fn_compare prog w P p loose mean mg mb⟩
  | 3, h => cases h; exact ⟨by decide, fn_add prog w P p loose mean mg mb⟩
  | 4, h => cases h; exact ⟨by decide, fn_sub prog w P p loose mean mg mb⟩
  | 5, h => cases h; exact ⟨by decide, fn_lifted prog w P p loose mean mg mb⟩
  | 6, h => cases h; exact ⟨by decide, fn_mul_limb prog w P p loose mean mg mb⟩
  | 7, h => cases h; exact ⟨by decide, fn_shift_left prog w P p loose mean mg mb⟩
  | 8, h => cases h; exact ⟨by decide, fn_inverse_limb prog w P p loose mean mg mb⟩
  | 9, h => cases h; exact ⟨by decide, fn_doubled_rest prog w P p loose mean mg mb⟩
  | 10, h => cases h; exact ⟨by decide, fn_mont_make prog w P p loose mean mg mb⟩
  | 11, h => cases h; exact ⟨by decide, fn_add_row prog w P p loose mean mg mb⟩
  | 12, h => cases h; exact ⟨by decide, fn_taken_once prog w P p loose mean mg mb⟩
  | 13, h => cases h; exact ⟨by decide, fn_redc prog w P p loose mean mg mb⟩
  | 14, h => cases h; exact ⟨by decide, fn_to_mont prog w P p loose mean mg mb⟩
  | 15, h => cases h; exact ⟨by decide, fn_from_mont prog w P p loose mean mg mb⟩
  | 16, h => cases h; exact ⟨by decide, fn_mont_mul prog w P p loose mean mg mb⟩
  | 17, h => cases h; exact ⟨by decide, fn_mont_rows prog w P p loose mean mg mb⟩
  | 18, h => cases h; exact ⟨by decide, fn_scaled_rest prog w P p loose mean mg mb⟩
  | 19, h => cases h; exact ⟨by decide, fn_check_mont prog w P p loose mean mg mb⟩
  | 20, h => cases h; exact ⟨by decide, fn_law_row prog w P p loose mean mg mb⟩
  | 21, h => cases h; exact ⟨by decide, fn_law_number prog w P p loose mean mg mb⟩
  | 22, h => cases h; exact ⟨by decide, fn_law_mul prog w P p loose mean mg mb⟩
  | 23, h => cases h; exact ⟨by decide, fn_law_draw prog w P p loose mean mg mb⟩
  | 24, h => cases h; exact ⟨by decide, fn_law_size prog w P p loose mean mg mb⟩
  | 25, h => cases h; exact ⟨by decide, fn_law_box prog w P p loose mean mg mb⟩
  | 26, h => cases h; exact ⟨by decide, fn_law_told_right prog w P p loose mean mg mb⟩
  | 27, h => cases h; exact ⟨by decide, fn_law_reduced_right prog w P p loose mean mg mb⟩
  | k + 28, h => cases h
end
end Mine

set_option maxHeartbeats 8000000
namespace Mine

theorem law_wf : wfSs scLaw D_law b_law := wfSs_ok _ (by kernel_rfl)

section
variable {S : Glo} {G : Fix}

theorem VR_flat {W : Wd} {v : V} {vr : Value} (h1 : ∀ k, v ≠ .hnd k) (h2 : v ≠ .box) (h : VR G W v vr) : VR G ⟨W.all, [], []⟩ v vr := by
  have hs : ∀ p ∈ W.fz, p ∈ W.all := fun p hp => by simp [Wd.all, hp]
  cases v with
  | hnd k => exact absurd rfl (h1 k)
  | box => exact absurd rfl h2
  | lst xs => obtain ⟨l, e, hl⟩ := h; exact ⟨l, e, hl.mono hs⟩
  | mont m q o sq =>
    obtain ⟨x, dx, es, n, l1, l2, l3, t, e, a1, a2, a3, a4, a5, a6, a7, a8, a9⟩ := h
    exact ⟨x, dx, es, n, l1, l2, l3, t, e, hs _ a1, hs _ a2, a3, a4.mono hs, a5, a6, a7.mono hs, a8, a9.mono hs⟩
  | unset => exact h
  | int i => exact h
  | bool b => exact h
  | none => exact h
  | fn g => exact h

theorem law_whole (hf : Facts S G) (hm : MontFacts S G) (hI : InitFacts S G) (hP' : ∀ g F, PT g = some F → g < gnames.length ∧ FnIn S (G.ga g) F) {fR : Addr} (hRF : RefFacts S fR)
    {H0 : Heap} {L fa c P : Addr} (hx : (lawFX H0 L fa c).OK S G 9) (hbase : H0 = G.base) (hcode : CodeHd H0 c P) (xs : List Int)
    {s : Shared} {m : Str → Option Value} {o1 o2 o3 o4 o5 : Obj} (F : Fr H0 L s.heap m) (N : News H0 L s.heap [(L + 5, o5), (L + 4, o4), (L + 3, o3), (L + 2, o2), (L + 1, o1), (P, tabObj #[])])
    {v1 v2 v3 v4 v5 : Option Value} (d1 : o1.data = .cell v1) (d2 : o2.data = .cell v2) (d3 : o3.data = .cell v3) (d4 : o4.data = .cell v4) (d5 : o5.data = .cell v5) (hPL : P < L)
    {a : Addr} {vs : List Value} (hs : m ("script" : Str) = some (.ref a)) (hl : H0.IsList a vs.toArray) (hi : IntsAre vs xs) (hlen : xs.length ≤ 63)
    {E : Value → Shared → Prop} {Q : Flow → Shared → Prop} (post' : ∀ h' tk' m', Fr H0 L h' m' → GrownAt P h' → Q (.ret (.bool true)) { s with heap := h', toks := tk' }) :
    wpAny (model S.prog S.w) (lawFX H0 L fa c).A (execs (dSs D_law b_law ++ lawTail) (lawFX H0 L fa c).env) Q E s := by
  have hgl : ∀ g vs H r, callM PT 6 g vs H = some r → g < gnames.length := callM_gl (fun g F h => (hP' g F h).1) 6
  have hc : CallOK S G 7 (callM PT 6) := callM_ok hf hm hI hP' 6
  have hx1 : (lawFX H0 L fa c).OK S G 7 := ⟨hx.B, hx.X, hx.T, hx.kf, hx.hA, hx.hh, by have := hx.dep; omega, by have := hx.uni; omega, hx.cells0, hx.inj⟩
  have hD : D_law.good := ⟨by decide, by decide, by decide⟩
  obtain ⟨fl, l, h', he, rfl, st, hok, rfl, b, rfl⟩ := law_body 0 xs
  have R0 : SR G (lawFX H0 L fa c).h₀ (lawFX H0 L fa c).L s.heap [(L + 5, o5), (L + 4, o4), (L + 3, o3), (L + 2, o2), (L + 1, o1), (P, tabObj #[])] ⟨[], [], []⟩ ⟨[], none⟩ := by
    refine ⟨N, ?_, ⟨rfl, fun k ys e => by simp at e⟩, rfl, fun p hp => ?_⟩
    · have h5 : P ≠ L + 5 := Nat.ne_of_lt (Nat.lt_of_lt_of_le hPL (Nat.le_add_right _ _))
      have h4 : P ≠ L + 4 := Nat.ne_of_lt (Nat.lt_of_lt_of_le hPL (Nat.le_add_right _ _))
      have h3 : P ≠ L + 3 := Nat.ne_of_lt (Nat.lt_of_lt_of_le hPL (Nat.le_add_right _ _))
      have h2 : P ≠ L + 2 := Nat.ne_of_lt (Nat.lt_of_lt_of_le hPL (Nat.le_add_right _ _))
      have h1 : P ≠ L + 1 := Nat.ne_of_lt (Nat.lt_of_lt_of_le hPL (Nat.le_add_right _ _))
      simp [Wd.all, Ne.symm h5, Ne.symm h4, Ne.symm h3, Ne.symm h2, Ne.symm h1]
    · simp only [List.mem_cons, List.not_mem_nil, or_false] at hp
      rcases hp with rfl | rfl | rfl | rfl | rfl | rfl
      · exact noDat_cell d5
      · exact noDat_cell d4
      · exact noDat_cell d3
      · exact noDat_cell d2
      · exact noDat_cell d1
      · exact tab_noDat _
  have V0 : VarsR G (lawFX H0 L fa c) D_law m [(L + 5, o5), (L + 4, o4), (L + 3, o3), (L + 2, o2), (L + 1, o1), (P, tabObj #[])] ⟨[], [], []⟩ [.lst xs, .unset, .unset, .unset, .unset, .unset, .unset, .unset, .unset, .unset, .unset, .unset, .unset, .unset, .unset] := by
    refine ⟨rfl, fun i hi => ?_, fun i v hv hne => ?_⟩
    · match i, hi with
      | 0, _ => exact .inl rfl
      | 1, _ => exact .inl rfl
      | 2, _ => exact .inl rfl
      | 3, _ => exact .inl rfl
      | 4, _ => exact .inl rfl
      | 5, _ => exact .inl rfl
      | 6, _ => exact .inl rfl
      | 7, _ => exact .inl rfl
      | 8, _ => exact .inl rfl
      | 9, _ => exact .inl rfl
      | 10, _ => exact .inr ⟨.inl rfl, L + 1, o1, v1, rfl, by simp, d1⟩
      | 11, _ => exact .inr ⟨.inl rfl, L + 2, o2, v2, rfl, by simp, d2⟩
      | 12, _ => exact .inr ⟨.inl rfl, L + 3, o3, v3, rfl, by simp, d3⟩
      | 13, _ => exact .inr ⟨.inl rfl, L + 4, o4, v4, rfl, by simp, d4⟩
      | 14, _ => exact .inr ⟨.inl rfl, L + 5, o5, v5, rfl, by simp, d5⟩
    · cases i with
      | zero =>
        have hv' : V.lst xs = v := Option.some.inj hv
        subst hv'
        exact ⟨.ref a, .inl ⟨rfl, hs⟩, a, rfl, by omega, vs, hi, .inr (hbase ▸ hl)⟩
      | succ i =>
        have : v ∈ List.replicate 14 V.unset := List.mem_of_getElem? (i := i) hv
        exact absurd (List.mem_replicate.mp this).2 hne
  refine execs_tail (D := D_law) (cl := callM PT 6) (ex_all hD hf hm hI hc hgl) hx1 b_law law_wf s m _ ⟨[], [], []⟩ _ ⟨[], none⟩ _ _ he F R0 V0 ?_
  intro m' cs' h' tk' W' F' R' L' C' V'
  have hmu : W'.mu = [] := List.eq_nil_of_length_eq_zero R'.ms.1
  have nobad : ∀ v ∈ st.loc2 xs, (∀ k, v ≠ .hnd k) ∧ v ≠ .box := by
    intro v hv
    simp only [LawSt.loc2, List.mem_cons, List.not_mem_nil, or_false] at hv
    rcases hv with rfl | rfl | rfl | rfl | rfl | rfl | rfl | rfl | rfl | rfl | rfl | rfl | rfl | rfl | rfl <;> exact ⟨fun k e => (by cases e), fun e => (by cases e)⟩
  have V2 : VarsR G (lawFX H0 L fa c) D_law m' cs' ⟨W'.all, [], []⟩ (st.loc2 xs) := by
    refine ⟨rfl, V'.kinds, fun i v hv hne => ?_⟩
    have hb := nobad v (List.mem_of_getElem? hv)
    have hl2 : (st.loc xs)[i]? = some v := by
      match i, hv with
      | 0, hv => exact hv
      | 1, hv => exact absurd (Option.some.inj hv).symm hne
      | k + 2, hv => exact hv
    obtain ⟨vr, ha, hr⟩ := V'.vars i v hl2 hne
    exact ⟨vr, ha, VR_flat hb.1 hb.2 hr⟩
  have R2 : SR G H0 L h' cs' ⟨W'.all, [], []⟩ ⟨[], none⟩ := ⟨R'.N, R'.nd, ⟨rfl, fun k ys e => by simp at e⟩, rfl, R'.cells⟩
  have hP2 : (P, tabObj #[]) ∈ cs' := C'.keep _ (by simp) (fun v₀ e => by cases e)
  refine law_tail (n := 0) (s := { s with heap := h', toks := tk' }) hf hm hI hc hgl hRF hx hbase hcode st hok xs F' R2 V2 hP2 ?_
  intro h5 t5 F5 G5
  exact post' h5 t5 m' F5 G5
end
end Mine

set_option maxHeartbeats 8000000
namespace Mine
theorem lawOK {S : Glo} {G : Fix} {H0 : Heap} {L fa c : Addr} (B : Below callerA G.base [] H0) (X : S.K.In H0) (T : Top S.p S.loose S.mean S.mg S.mb H0) : (lawFX H0 L fa c).OK S G 9 := by
  refine ⟨B, X, T, rfl, rfl, rfl, ?_, ?_, fun h => ?_, inj_of (by simp [lawFX, lawCells])⟩
  · show (callerA.deeper _).depth + 9 < recursionLimit
    rw [depth_deeper, depth_caller]; decide
  · show (callerA.deeper _).units + 4 * 9 + 200 < cLine
    rw [units_deeper, units_caller]; decide
  · exact absurd rfl (h (Str.ofString "m", .cell) (show (Str.ofString "m", NameKind.cell) ∈ scLaw.names by decide)).1
end Mine
theorem PySem.Challenge.cw_nn0018_01_holds : PySem.Challenge.rw_nn0018_01.Holds := by
  refine Mine.hd rfl rfl rfl ?_
  k_go0
  all_goals (
    rename Frag.In (Mine.KK _) _ => X
    rename Top topProg _ _ _ _ _ => T
    rename Below _ _ _ _ => B
    rename Fr _ _ _ _ => F
    rename News _ _ _ _ => N
    rename CodeHd _ _ _ => C
    rename IntsAre _ _ => I
    rename Heap.IsList (ghostOf _ _) _ _ => IL
    rename (¬ (((63 : Nat) : Int) < _)) => hlen
    rename (Shared.gens _ = _) => hgens
    have hlen' := hlen
    refine Mine.law_whole (v1 := ?v1) (v2 := ?v2) (v3 := ?v3) (v4 := ?v4) (v5 := ?v5) (S := ⟨_, _, Mine.KK _, _, _, _, _, _⟩) (G := Mine.GG _) (fR := 259) (Mine.facts ..) (Mine.montFacts ..) (Mine.initFacts ..) (Mine.allFns _ _ _ _ _ _ _ _ _) (Mine.refFacts ..) (Mine.lawOK B X T) rfl C _ F N ?d1 ?d2 ?d3 ?d4 ?d5 ?hPL ?hs IL I ?hl ?post
    (case d1 => assumption)
    (case d2 => assumption)
    (case d3 => assumption)
    (case d4 => assumption)
    (case d5 => assumption)
    (case hPL => assumption)
    (case hs => rfl)
    (case hl => omega)
    (case post =>
      intro h' tk' m' F' G'
      refine ⟨goodW_bool F' hgens (raisesW_false ?_) ?_, G', True.intro⟩
      · wrow_none_raised
      · wrow_post))
