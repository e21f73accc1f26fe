import PyProof.Rows.All
import Wide.All
import OpenK.AllK
import Wide.FinOn
import Lean
import PySem.Challenge.RW_nz0495_01
set_option Elab.async false
set_option linter.unusedVariables false
set_option maxRecDepth 100000
set_option maxHeartbeats 8000000

namespace Mine
open PySem

/-! An abstract machine of our own for the part of the text that the law reaches. Its answers are decision trees: `split b f` asks all ways below b. -/
inductive Dt where
  | ok
  | bad
  | split (b : Nat) (f : Nat → Dt)
noncomputable def Dt.Tr : Dt → Prop
  | .ok => True
  | .bad => False
  | .split b f => ∀ c, c < b → (f c).Tr

/-- the built-ins that are called -/
inductive BI where
  | len | range | abs | isinstance | max | str | list | append | pop
noncomputable def BI.val : BI → Value
  | .len => .builtin "len"
  | .range => .type "range"
  | .abs => .builtin "abs"
  | .isinstance => .builtin "isinstance"
  | .max => .builtin "max"
  | .str => .type "str"
  | .list => .type "list"
  | .append => .builtin "list.append"
  | .pop => .builtin "list.pop"

/-- values: `ref h` an object of the call's own by its number; `old a` an object of the top; `sym j` a text that is not written; `rng b` an int in 0 .. b-1; `len k j` an int k + (a length that is not written) -/
inductive AV where
  | none
  | bool (b : Bool)
  | int (i : Int)
  | str (s : Str)
  | sym (j : Nat)
  | rng (b : Nat)
  | len (k j : Nat)
  | ref (h : Nat)
  | old (a : Nat)
  | bi (b : BI)

/-- objects -/
inductive AO where
  | list (xs : List AV)
  | listT (xs : List AV) (j : Nat)
  | nones (k j : Nat)
  | tuple (xs : List AV)
  | inst (C d : Nat)
  | dict (fs : List (Str × AV))
  | idict (ks : List Int)
  | range (a b c : Int)
  | riter (x left step : Int)
  | liter (l i : Nat)
  | cell (v : Option AV)
  | ns (fs : List (Str × AV))
  | pool (g : Nat)
  | figs
  | any

/-- texts compared sign by sign -/
noncomputable def natsEq : List Nat → List Nat → Bool
  | [], [] => true
  | a :: r, b :: t => match Nat.beq a b with
    | true => natsEq r t
    | false => false
  | _, _ => false
noncomputable def strEq (a b : Str) : Bool := natsEq a.cps.toList b.cps.toList
noncomputable def look {α : Type} (x : Str) : List (Str × α) → Option α
  | [] => Option.none
  | p :: r => match strEq x p.1 with
    | true => some p.2
    | false => look x r

/-- a tree of objects by their numbers -/
inductive Tr (α : Type) where
  | nil
  | node (v : Option α) (l r : Tr α)
noncomputable def Tr.get {α : Type} : Tr α → Nat → Option α
  | .nil, _ => Option.none
  | .node v l r, i => match Nat.beq i 0 with
    | true => v
    | false => match Nat.beq (i % 2) 1 with
      | true => l.get (i / 2)
      | false => r.get (i / 2 - 1)
noncomputable def Tr.set {α : Type} (o : α) : Nat → Tr α → Nat → Tr α
  | 0, _, _ => .nil
  | d + 1, .nil, i => match Nat.beq i 0 with
    | true => .node (some o) .nil .nil
    | false => match Nat.beq (i % 2) 1 with
      | true => .node Option.none (Tr.set o d .nil (i / 2)) .nil
      | false => .node Option.none .nil (Tr.set o d .nil (i / 2 - 1))
  | d + 1, .node v l r, i => match Nat.beq i 0 with
    | true => .node (some o) l r
    | false => match Nat.beq (i % 2) 1 with
      | true => .node v (Tr.set o d l (i / 2)) r
      | false => .node v l (Tr.set o d r (i / 2 - 1))
/-- the same, its result handed on ready-made -/
noncomputable def Tr.setK {α : Type} (o : α) : Nat → Tr α → Nat → (Tr α → Dt) → Dt
  | 0, _, _, k => k .nil
  | d + 1, .nil, i, k => match Nat.beq i 0 with
    | true => k (.node (some o) .nil .nil)
    | false => match Nat.beq (i % 2) 1 with
      | true => Tr.setK o d .nil (i / 2) fun t => k (.node Option.none t .nil)
      | false => Tr.setK o d .nil (i / 2 - 1) fun t => k (.node Option.none .nil t)
  | d + 1, .node v l r, i, k => match Nat.beq i 0 with
    | true => k (.node (some o) l r)
    | false => match Nat.beq (i % 2) 1 with
      | true => Tr.setK o d l (i / 2) fun t => k (.node v t r)
      | false => Tr.setK o d r (i / 2 - 1) fun t => k (.node v l t)

noncomputable def natK (n : Nat) (k : Nat → Dt) : Dt := match n with
  | 0 => k 0
  | m + 1 => k (m + 1)
noncomputable def intK (i : Int) (k : Int → Dt) : Dt := match i with
  | .ofNat n => natK n fun n => k (.ofNat n)
  | .negSucc n => natK n fun n => k (.negSucc n)
noncomputable def boolK (b : Bool) (k : Bool → Dt) : Dt := match b with
  | true => k true
  | false => k false

/-- a state: how many objects, the objects, how many texts and lengths are not written, the frame's names, its cells, the comprehension's own names -/
structure St where
  n : Nat
  hp : Tr AO
  nS : Nat
  nT : Nat
  fr : List (Str × AV)
  cl : List (Str × Nat)
  cf : Option Nat

noncomputable abbrev K1 := AV → St → Dt
noncomputable abbrev Names := List (Str × NameKind)
inductive AF where
  | next | brk | cont
  | ret (v : AV)

noncomputable def deep : Nat := 12
noncomputable def allocK (o : AO) (st : St) (k : Nat → St → Dt) : Dt := match st with
  | ⟨n, hp, nS, nT, fr, cl, cf⟩ => Tr.setK o deep hp n fun hp => natK (n + 1) fun n1 => k n ⟨n1, hp, nS, nT, fr, cl, cf⟩
noncomputable def putK (h : Nat) (o : AO) (st : St) (k : St → Dt) : Dt := match st with
  | ⟨n, hp, nS, nT, fr, cl, cf⟩ => Tr.setK o deep hp h fun hp => k ⟨n, hp, nS, nT, fr, cl, cf⟩
noncomputable def objAt (h : Nat) (st : St) : Option AO := match st with
  | ⟨_, hp, _, _, _, _, _⟩ => hp.get h

noncomputable def frSet (x : Str) (v : AV) : List (Str × AV) → List (Str × AV)
  | [] => [(x, v)]
  | p :: r => match strEq x p.1 with
    | true => (p.1, v) :: r
    | false => p :: frSet x v r
noncomputable def frSetK (x : Str) (v : AV) : List (Str × AV) → (List (Str × AV) → Dt) → Dt
  | [], k => k [(x, v)]
  | p :: r, k => match strEq x p.1 with
    | true => k ((p.1, v) :: r)
    | false => frSetK x v r fun r' => k (p :: r')
noncomputable def listSetK (v : AV) : List AV → Nat → (List AV → Dt) → Dt
  | [], _, _ => .bad
  | x :: r, i, k => match i with
    | 0 => k (v :: r)
    | j + 1 => listSetK v r j fun r' => k (x :: r')
noncomputable def appK : List AV → List AV → (List AV → Dt) → Dt
  | [], ys, k => k ys
  | x :: r, ys, k => appK r ys fun zs => k (x :: zs)
noncomputable def takeK : Nat → List AV → (List AV → Dt) → Dt
  | 0, _, k => k []
  | _ + 1, [], k => k []
  | n + 1, x :: r, k => takeK n r fun zs => k (x :: zs)
noncomputable def dropL : Nat → List AV → List AV
  | 0, l => l
  | _ + 1, [] => []
  | n + 1, _ :: r => dropL n r
noncomputable def lenL {α : Type} : List α → Nat
  | [] => 0
  | _ :: r => lenL r + 1
noncomputable def getL {α : Type} : List α → Nat → Option α
  | [], _ => Option.none
  | x :: r, i => match i with
    | 0 => some x
    | j + 1 => getL r j
end Mine

namespace Mine
open PySem

/-! the text's own functions and classes, by their places in the text and their numbers in the heap of the top -/
structure Fn where
  addr : Nat
  params : List Str
  scope : Scope
  body : List Stmt
  argc : Nat
  extra : List AV
inductive GF where
  | fn (f : Fn)
  | cls (init : Fn)
  | pick

noncomputable def noStmt : Stmt := .Pass ⟨0, 0, 0, 0⟩
noncomputable def bodyL : List Stmt := PySem.Challenge.pw_nz0495_01.main.body
noncomputable def top (i : Nat) : Stmt := (getL bodyL i).getD noStmt
noncomputable def inCls (i j : Nat) : Stmt := match top i with
  | .ClassDef _ _ _ b _ _ _ _ _ _ _ => (getL b j).getD noStmt
  | _ => noStmt
noncomputable def argNames : List Arg → List Str
  | [] => []
  | a :: r => a.arg :: argNames r
noncomputable def mkFn (addr : Nat) (s : Stmt) (argc : Nat) (extra : List AV) : Fn := match s with
  | .FunctionDef _ a b _ _ _ sc _ _ _ => ⟨addr, argNames a.args, sc, b, argc, extra⟩
  | _ => ⟨addr, [], ⟨.module, [], false, false, []⟩, [], argc, extra⟩

noncomputable def gfs : List (Nat × GF) := [
  (482, .pick),
  (322, .fn (mkFn 322 (inCls 31 2) 2 [])),
  (336, .fn (mkFn 336 (inCls 31 4) 2 [])),
  (82, .fn (mkFn 82 (top 9) 1 [])),
  (223, .fn (mkFn 223 (top 21) 1 [])),
  (168, .cls (mkFn 165 (inCls 16 0) 2 [])),
  (28, .fn (mkFn 28 (top 2) 1 [])),
  (230, .fn (mkFn 230 (top 22) 2 [])),
  (216, .fn (mkFn 216 (top 20) 1 [.int 1])),
  (147, .cls (mkFn 137 (inCls 15 0) 3 [.none])),
  (190, .cls (mkFn 187 (inCls 17 0) 3 [.none])),
  (33, .fn (mkFn 33 (top 3) 5 [])),
  (61, .fn (mkFn 61 (top 6) 1 [])),
  (68, .fn (mkFn 68 (top 7) 2 [])),
  (75, .fn (mkFn 75 (top 8) 1 [])),
  (89, .fn (mkFn 89 (top 10) 1 [])),
  (94, .fn (mkFn 94 (top 11) 3 [])),
  (101, .fn (mkFn 101 (top 12) 1 [])),
  (50, .cls (mkFn 47 (inCls 5 0) 2 [])),
  (208, .fn (mkFn 208 (top 19) 1 [])),
  (237, .fn (mkFn 237 (top 23) 1 [])),
  (244, .fn (mkFn 244 (top 25) 0 [])),
  (272, .fn (mkFn 272 (top 29) 1 [])),
  (456, .cls (mkFn 308 (inCls 31 0) 2 [])),
  (468, .fn (mkFn 468 (top 32) 1 [.none])),
  (315, .fn (mkFn 315 (inCls 31 1) 2 [])),
  (329, .fn (mkFn 329 (inCls 31 3) 2 [])),
  (343, .fn (mkFn 343 (inCls 31 5) 2 [])),
  (350, .fn (mkFn 350 (inCls 31 6) 2 [])),
  (357, .fn (mkFn 357 (inCls 31 7) 3 [])),
  (362, .fn (mkFn 362 (inCls 31 8) 5 [])),
  (369, .fn (mkFn 369 (inCls 31 9) 4 [])),
  (446, .fn (mkFn 446 (inCls 31 20) 3 [])),
  (453, .fn (mkFn 453 (inCls 31 21) 3 [])),
  (489, .fn (mkFn 489 (top 36) 1 []))]
noncomputable def findA {α : Type} (a : Nat) : List (Nat × α) → Option α
  | [] => Option.none
  | p :: r => match Nat.beq a p.1 with
    | true => some p.2
    | false => findA a r
noncomputable def lookF (a : Nat) : Option GF := findA a gfs

noncomputable def globs : List (Str × AV) := [
  ("len", .bi .len), ("_law_pick", .old 482), ("height_change", .old 82), ("symbol", .old 223), ("number", .old 216), ("call_of", .old 230),
  ("Symbol", .old 168), ("Vector", .old 147), ("Call", .old 190), ("assign_chain", .old 28), ("emit_assign", .old 33),
  ("row_targets", .old 61), ("with_targets", .old 68), ("goes_on", .old 75), ("loop_change", .old 89), ("target_states", .old 94),
  ("greatest_height", .old 101), ("Code", .old 50), ("character", .old 208), ("share", .old 237), ("operator_names", .old 244),
  ("plain_target", .old 272), ("Compiler", .old 456), ("compile_expr", .old 468), ("_law_run", .old 489),
  ("range", .bi .range), ("str", .bi .str), ("list", .bi .list), ("max", .bi .max), ("abs", .bi .abs), ("isinstance", .bi .isinstance)]

noncomputable def meths : List (Nat × List (Str × Nat)) := [
  (456, [("emit", 322), ("add_const", 336), ("aim", 329), ("compile_expr", 315), ("push_const", 343), ("expr", 350), ("call", 357), ("guarded", 362), ("plain_way", 369), ("assignment", 446), ("assigned", 453)])]
noncomputable def methAt (C : Nat) (m : Str) : Option Nat := match findA C meths with
  | some l => look m l
  | Option.none => Option.none
noncomputable def fields : List (Nat × List (Str × Unit)) := [
  (456, [("rows", ()), ("height", ()), ("consts", ()), ("folder", ()), ("loops", ())]),
  (168, [("kind", ()), ("name", ()), ("attrs", ())]),
  (190, [("kind", ()), ("items", ()), ("tags", ()), ("attrs", ()), ("code", ())]),
  (147, [("kind", ()), ("items", ()), ("attrs", ()), ("shared", ()), ("loose", ())]),
  (50, [("expr", ()), ("rows", ()), ("consts", ()), ("depth", ())])]
noncomputable def fieldOk (C : Nat) (a : Str) : Bool := match findA C fields with
  | some l => (look a l).isSome
  | Option.none => false

/-! operations on values -/
noncomputable def intEq (i j : Int) : Bool := PySem.W.Z.eqB i j
noncomputable def intLt (i j : Int) : Bool := PySem.W.Z.ltB i j

noncomputable def cpsOk : List Nat → Bool
  | [] => true
  | a :: r => match Nat.ble (a + 1) 1114112 with
    | true => cpsOk r
    | false => false
noncomputable def goodStr (s : Str) : Bool := cpsOk s.cps.toList
/-- the same data on both sides, for sure -/
noncomputable def sameV : Nat → St → AV → AV → Bool
  | 0, _, _, _ => false
  | d + 1, st, a, b => match a, b with
    | .none, .none => true
    | .bool x, .bool y => match x, y with
      | true, true => true
      | false, false => true
      | _, _ => false
    | .int i, .int j => intEq i j
    | .str s, .str t => match goodStr s with
      | true => strEq s t
      | false => false
    | .sym i, .sym j => Nat.beq i j
    | .ref h, .ref g => match objAt h st, objAt g st with
      | some (.list xs), some (.list ys) => all2 (sameV d st) xs ys
      | some (.tuple xs), some (.tuple ys) => all2 (sameV d st) xs ys
      | some (.nones k i), some (.nones m j) => match Nat.beq k m with
        | true => Nat.beq i j
        | false => false
      | _, _ => false
    | _, _ => false
where all2 (f : AV → AV → Bool) : List AV → List AV → Bool
  | [], [] => true
  | x :: r, y :: t => match f x y with
    | true => all2 f r t
    | false => false
  | _, _ => false

noncomputable def cmpEq (a b : AV) (st : St) (k : Bool → St → Dt) : Dt := match a with
  | .int i => match b with
    | .int j => boolK (intEq i j) fun c => k c st
    | _ => .bad
  | .str s => match b with
    | .str t => boolK (strEq s t) fun c => k c st
    | _ => .bad
  | .sym i => match b with
    | .sym j => match Nat.beq i j with
      | true => k true st
      | false => .bad
    | _ => .bad
  | .len n i => match b with
    | .len m j => match Nat.beq i j with
      | true => match Nat.beq n m with
        | true => k true st
        | false => .bad
      | false => .bad
    | _ => .bad
  | .rng b' => match b with
    | .int j => .split b' fun c => boolK (intEq (.ofNat c) j) fun e => k e st
    | _ => .bad
  | .ref h => match b with
    | .ref g => match sameV 8 st (.ref h) (.ref g) with
      | true => k true st
      | false => .bad
    | _ => .bad
  | _ => .bad
noncomputable def cmpLt (a b : AV) (st : St) (k : Bool → St → Dt) : Dt := match a with
  | .int i => match b with
    | .int j => boolK (intLt i j) fun c => k c st
    | _ => .bad
  | .len n _ => match b with
    | .int j => match intLt (.ofNat n) j with
      | true => .bad
      | false => k false st
    | _ => .bad
  | _ => .bad
noncomputable def cmpIs (a b : AV) (k : Bool → Dt) : Dt := match b with
  | .none => match a with
    | .none => k true
    | .ref _ => k false
    | .str _ => k false
    | .sym _ => k false
    | _ => .bad
  | .bool y => match a with
    | .bool x => match x, y with
      | true, true => k true
      | false, false => k true
      | _, _ => k false
    | _ => .bad
  | _ => .bad
noncomputable def strsOf : List AV → Option (List Str)
  | [] => some []
  | .str s :: r => match strsOf r with
    | some l => some (s :: l)
    | Option.none => Option.none
  | _ :: _ => Option.none
noncomputable def allGood : List Str → Bool
  | [] => true
  | s :: r => match goodStr s with
    | true => allGood r
    | false => false
noncomputable def anyStr (s : Str) : List Str → Bool
  | [] => false
  | t :: r => match strEq t s with
    | true => true
    | false => anyStr s r
noncomputable def anyInt (i : Int) : List Int → Bool
  | [] => false
  | j :: r => match intEq j i with
    | true => true
    | false => anyInt i r
noncomputable def cmpIn (a b : AV) (st : St) (k : Bool → Dt) : Dt := match b with
  | .ref h => match objAt h st with
    | some (.tuple xs) => match a with
      | .str s => match strsOf xs with
        | some l => boolK (anyStr s l) k
        | Option.none => .bad
      | _ => .bad
    | some (.list xs) => match a with
      | .str s => match strsOf xs with
        | some l => boolK (anyStr s l) k
        | Option.none => .bad
      | _ => .bad
    | some (.idict ks) => match a with
      | .int i => boolK (anyInt i ks) k
      | _ => .bad
    | _ => .bad
  | _ => .bad
noncomputable def cmpNotIn (a b : AV) (st : St) (k : Bool → Dt) : Dt := match b with
  | .ref h => match objAt h st with
    | some (.tuple xs) => match a with
      | .str s => match strsOf xs with
        | some l => match anyStr s l with
          | true => k false
          | false => k true
        | Option.none => .bad
      | _ => .bad
    | _ => .bad
  | _ => .bad
noncomputable def opCmp (op : CmpOp) (a b : AV) (st : St) (k : K1) : Dt := match op with
  | .Eq => cmpEq a b st fun c st => k (.bool c) st
  | .NotEq => cmpEq a b st fun c st => match c with
    | true => k (.bool false) st
    | false => k (.bool true) st
  | .Lt => cmpLt a b st fun c st => k (.bool c) st
  | .Gt => cmpLt b a st fun c st => k (.bool c) st
  | .Is => cmpIs a b fun c => k (.bool c) st
  | .IsNot => cmpIs a b fun c => match c with
    | true => k (.bool false) st
    | false => k (.bool true) st
  | .In => cmpIn a b st fun c => k (.bool c) st
  | .NotIn => cmpNotIn a b st fun c => k (.bool c) st
  | _ => .bad

noncomputable def allocV (o : AO) (st : St) (k : K1) : Dt := allocK o st fun h st => k (.ref h) st
/-- short lists alone: the sizes that the machine asks are then no question -/
noncomputable def short {α : Type} (l : List α) : Bool := Nat.ble (lenL l) 1000
noncomputable def okL (xs : List AV) (k : Dt) : Dt := match short xs with
  | true => k
  | false => .bad

noncomputable def addRef (h g : Nat) (st : St) (k : K1) : Dt := match objAt h st with
  | some (.list xs) => match objAt g st with
    | some (.list ys) => okL xs <| okL ys <| appK xs ys fun zs => allocV (.list zs) st k
    | some (.listT ys j) => okL xs <| okL ys <| appK xs ys fun zs => allocV (.listT zs j) st k
    | _ => .bad
  | some (.tuple xs) => match objAt g st with
    | some (.tuple ys) => match xs, ys with
      | [], _ => .bad
      | _, [] => okL xs <| k (.ref h) st
      | _, _ => okL xs <| okL ys <| appK xs ys fun zs => allocV (.tuple zs) st k
    | _ => .bad
  | _ => .bad
noncomputable def nonesL : Nat → List AV
  | 0 => []
  | n + 1 => .none :: nonesL n
noncomputable def mulList (h : Nat) (b : AV) (st : St) (k : K1) : Dt := match objAt h st with
  | some (.list [.none]) => match b with
    | .int (.ofNat n) => match Nat.ble n 100 with
      | true => takeK n (nonesL n) fun zs => allocV (.list zs) st k
      | false => .bad
    | .len n j => match Nat.ble n 100 with
      | true => allocV (.nones n j) st k
      | false => .bad
    | _ => .bad
  | _ => .bad
noncomputable def smallStr (s : Str) : Bool := Nat.ble (lenL s.cps.toList) 1000
noncomputable def opBin (op : Operator) (a b : AV) (st : St) (k : K1) : Dt := match op with
  | .Add => match a with
    | .int i => match b with
      | .int j => intK (i + j) fun c => k (.int c) st
      | .rng m => .split m fun c => intK (i + .ofNat c) fun c => k (.int c) st
      | _ => .bad
    | .str s => match b with
      | .str t => match smallStr s with
        | true => match smallStr t with
          | true => k (.str (s ++ t)) st
          | false => .bad
        | false => .bad
      | _ => .bad
    | .ref h => match b with
      | .ref g => addRef h g st k
      | _ => .bad
    | _ => .bad
  | .Sub => match a with
    | .int i => match b with
      | .int j => intK (i - j) fun c => k (.int c) st
      | _ => .bad
    | _ => .bad
  | .Mod => match a with
    | .int i => match b with
      | .int j => match intEq j 0 with
        | true => .bad
        | false => intK (Int.fmod i j) fun c => k (.int c) st
      | _ => .bad
    | .rng _ => match b with
      | .int (.ofNat n) => match n with
        | 0 => .bad
        | q + 1 => k (.rng (q + 1)) st
      | _ => .bad
    | _ => .bad
  | .FloorDiv => match a with
    | .int i => match b with
      | .int j => match intEq j 1 with
        | true => intK i fun c => k (.int c) st
        | false => .bad
      | _ => .bad
    | _ => .bad
  | .Mult => match a with
    | .ref h => mulList h b st k
    | _ => .bad
  | _ => .bad
noncomputable def opAug (op : Operator) (a b : AV) (st : St) (k : K1) : Dt := match op with
  | .Add => match a with
    | .int i => match b with
      | .int j => intK (i + j) fun c => k (.int c) st
      | _ => .bad
    | _ => .bad
  | _ => .bad
noncomputable def opUn (op : UnaryOp) (a : AV) (st : St) (k : K1) : Dt := match op with
  | .USub => match a with
    | .int i => intK (-i) fun c => k (.int c) st
    | _ => .bad
  | _ => .bad

noncomputable def opAttr (a : Str) (v : AV) (st : St) (k : K1) : Dt := match v with
  | .ref h => match objAt h st with
    | some (.inst C d) => match fieldOk C a with
      | true => match objAt d st with
        | some (.dict fs) => match look a fs with
          | some v => match v with
            | .bi _ => .bad
            | v => k v st
          | Option.none => .bad
        | _ => .bad
      | false => .bad
    | _ => .bad
  | _ => .bad
noncomputable def opSetAttr (a : Str) (v x : AV) (st : St) (k : St → Dt) : Dt := match v with
  | .ref h => match objAt h st with
    | some (.inst C d) => match fieldOk C a with
      | true => match objAt d st with
        | some (.dict fs) => match Nat.ble (lenL fs) 100 with
          | true => frSetK a x fs fun fs => putK d (.dict fs) st k
          | false => .bad
        | _ => .bad
      | false => .bad
    | _ => .bad
  | _ => .bad
noncomputable def appendS : Str := "append"
noncomputable def popS : Str := "pop"
noncomputable def opMeth (v : AV) (m : Str) (st : St) (k : AV → List AV → St → Dt) : Dt := match v with
  | .ref h => match objAt h st with
    | some (.inst C d) => match methAt C m with
      | some f => match objAt d st with
        | some (.dict fs) => match look m fs with
          | Option.none => k (.old f) [.ref h] st
          | some _ => .bad
        | _ => .bad
      | Option.none => .bad
    | some (.list _) => match strEq m appendS with
      | true => k (.bi .append) [.ref h] st
      | false => match strEq m popS with
        | true => k (.bi .pop) [.ref h] st
        | false => .bad
    | _ => .bad
  | _ => .bad

/-- the place of an index in a row of n items -/
noncomputable def placeOf (i : Int) (n : Nat) : Option Nat := match i with
  | .ofNat j => match Nat.ble (j + 1) n with
    | true => some j
    | false => Option.none
  | .negSucc j => match Nat.ble (j + 1) n with
    | true => some (n - (j + 1))
    | false => Option.none
noncomputable def atPlace (xs : List AV) (i : Int) (st : St) (k : K1) : Dt := match short xs with
  | true => match placeOf i (lenL xs) with
    | some j => match getL xs j with
      | some v => k v st
      | Option.none => .bad
    | Option.none => .bad
  | false => .bad
noncomputable def newSym (st : St) (k : K1) : Dt := match st with
  | ⟨n, hp, nS, nT, fr, cl, cf⟩ => natK (nS + 1) fun s1 => k (.sym nS) ⟨n, hp, s1, nT, fr, cl, cf⟩
noncomputable def newLen (st : St) (k : Nat → St → Dt) : Dt := match st with
  | ⟨n, hp, nS, nT, fr, cl, cf⟩ => natK (nT + 1) fun t1 => k nT ⟨n, hp, nS, t1, fr, cl, cf⟩
noncomputable def opItem (v i : AV) (st : St) (k : K1) : Dt := match v with
  | .ref h => match objAt h st with
    | some (.list xs) => match i with
      | .int i => atPlace xs i st k
      | .rng b => match Nat.ble b (lenL xs) with
        | true => match short xs with
          | true => match strsOf xs with
            | some l => match allGood l with
              | true => newSym st k
              | false => .bad
            | Option.none => .split b fun c => atPlace xs (.ofNat c) st k
          | false => .bad
        | false => .bad
      | _ => .bad
    | some (.tuple xs) => match i with
      | .int i => atPlace xs i st k
      | _ => .bad
    | some (.listT xs _) => match i with
      | .int (.ofNat i) => atPlace xs (.ofNat i) st k
      | _ => .bad
    | _ => .bad
  | _ => .bad
noncomputable def opSlice (v a b : AV) (st : St) (k : K1) : Dt := match v with
  | .ref h => match objAt h st with
    | some (.list xs) => okL xs <| match a with
      | .none => match b with
        | .rng _ => newLen st fun j st => allocV (.listT [] j) st k
        | _ => .bad
      | .int (.ofNat m) => match b with
        | .none => match Nat.ble m (lenL xs) with
          | true => allocV (.list (dropL m xs)) st k
          | false => .bad
        | _ => .bad
      | _ => .bad
    | some (.tuple xs) => okL xs <| match a with
      | .none => match b with
        | .int (.ofNat m) => match Nat.ble 1 m with
          | true => match Nat.ble (m + 1) (lenL xs) with
            | true => takeK m xs fun zs => allocV (.tuple zs) st k
            | false => .bad
          | false => .bad
        | _ => .bad
      | .int (.ofNat m) => match b with
        | .none => match Nat.ble 1 m with
          | true => match Nat.ble m (lenL xs) with
            | true => allocV (.tuple (dropL m xs)) st k
            | false => .bad
          | false => .bad
        | _ => .bad
      | _ => .bad
    | _ => .bad
  | _ => .bad
noncomputable def opSetItem (v i x : AV) (st : St) (k : St → Dt) : Dt := match v with
  | .ref h => match objAt h st with
    | some (.list xs) => match i with
      | .int (.ofNat i) => match short xs with
        | true => match Nat.ble (i + 1) (lenL xs) with
          | true => listSetK x xs i fun zs => putK h (.list zs) st k
          | false => .bad
        | false => .bad
      | _ => .bad
    | some (.idict ks) => match i with
      | .int i => match x with
        | .bool true => match Nat.ble (lenL ks) 1000 with
          | true => match anyInt i ks with
            | true => k st
            | false => putK h (.idict (i :: ks)) st k
          | false => .bad
        | _ => .bad
      | _ => .bad
    | _ => .bad
  | _ => .bad
noncomputable def truthyK (v : AV) (st : St) (k : Bool → St → Dt) : Dt := match v with
  | .bool b => boolK b fun b => k b st
  | _ => .bad
noncomputable def lastK : List AV → (List AV → AV → Dt) → Dt
  | [], _ => .bad
  | x :: r, k => match r with
    | [] => k [] x
    | _ :: _ => lastK r fun r' v => k (x :: r') v
noncomputable def max3 (a b c : Int) : Int := match intLt a b with
  | true => match intLt b c with
    | true => c
    | false => b
  | false => match intLt a c with
    | true => c
    | false => a
noncomputable def intAbs (i : Int) : Int := match i with
  | .ofNat n => .ofNat n
  | .negSucc n => .ofNat (n + 1)
noncomputable def smallInt (i : Int) : Bool := match i with
  | .ofNat n => Nat.ble n 1000000
  | .negSucc n => Nat.ble n 1000000
noncomputable def opBi (b : BI) (args : List AV) (st : St) (k : K1) : Dt := match b with
  | .len => match args with
    | [.ref h] => match objAt h st with
      | some (.list xs) => okL xs <| natK (lenL xs) fun n => k (.int (.ofNat n)) st
      | some (.tuple xs) => okL xs <| natK (lenL xs) fun n => k (.int (.ofNat n)) st
      | some (.listT xs j) => okL xs <| natK (lenL xs) fun n => k (.len n j) st
      | _ => .bad
    | _ => .bad
  | .range => match args with
    | [.int n] => match smallInt n with
      | true => allocV (.range 0 n 1) st k
      | false => .bad
    | [.int a, .int b, .int c] => match smallInt a with
      | true => match smallInt b with
        | true => match smallInt c with
          | true => match intEq c 0 with
            | true => .bad
            | false => allocV (.range a b c) st k
          | false => .bad
        | false => .bad
      | false => .bad
    | _ => .bad
  | .abs => match args with
    | [.int i] => intK (intAbs i) fun c => k (.int c) st
    | _ => .bad
  | .isinstance => match args with
    | [.ref h, .old C] => match objAt h st with
      | some (.inst D d) => match Nat.beq D C with
        | true => match Nat.beq C 147 with
          | true => match objAt d st with
            | some (.dict _) => k (.bool true) st
            | _ => .bad
          | false => .bad
        | false => .bad
      | _ => .bad
    | _ => .bad
  | .max => match args with
    | [.int a, .int b, .int c] => intK (max3 a b c) fun c => k (.int c) st
    | _ => .bad
  | .str => match args with
    | [.int i] => match smallInt i with
      | true => k (.str (Str.ofString (toString i))) st
      | false => .bad
    | [.str s] => k (.str s) st
    | _ => .bad
  | .list => match args with
    | [.ref h] => match objAt h st with
      | some (.list xs) => okL xs <| allocV (.list xs) st k
      | some (.listT xs j) => okL xs <| allocV (.listT xs j) st k
      | _ => .bad
    | _ => .bad
  | .append => match args with
    | [.ref h, v] => match objAt h st with
      | some (.list xs) => okL xs <| appK xs [v] fun zs => putK h (.list zs) st fun st => k .none st
      | _ => .bad
    | _ => .bad
  | .pop => match args with
    | [.ref h] => match objAt h st with
      | some (.list xs) => okL xs <| lastK xs fun zs v => putK h (.list zs) st fun st => k v st
      | _ => .bad
    | _ => .bad
noncomputable def opIter (v : AV) (st : St) (k : Nat → St → Dt) : Dt := match v with
  | .ref h => match objAt h st with
    | some (.list _) => allocK (.liter h 0) st k
    | some (.range a b c) => match Builtin.Range.small a b c with
      | true => intK (Builtin.Range.rangeSize a b c) fun n => allocK (.riter a n c) st k
      | false => .bad
    | _ => .bad
  | _ => .bad
noncomputable def opNext (hI : Nat) (st : St) (kEnd : St → Dt) (kItem : AV → St → Dt) : Dt := match objAt hI st with
  | some (.liter l i) => match objAt l st with
    | some (.list xs) => match getL xs i with
      | some v => natK (i + 1) fun j => putK hI (.liter l j) st fun st => kItem v st
      | Option.none => putK hI .any st kEnd
    | _ => .bad
  | some (.riter x left step) => match intLt 0 left with
    | true => intK (x + step) fun x' => intK (left - 1) fun l' => putK hI (.riter x' l' step) st fun st => kItem (.int x) st
    | false => putK hI .any st kEnd
  | _ => .bad
noncomputable def opUnpack (n : Nat) (v : AV) (st : St) (k : List AV → St → Dt) : Dt := match v with
  | .ref h => match objAt h st with
    | some (.tuple xs) => match Nat.beq (lenL xs) n with
      | true => k xs st
      | false => .bad
    | _ => .bad
  | _ => .bad
noncomputable def opPick (args : List AV) (st : St) (k : K1) : Dt := match args with
  | [.ref h, .int (.ofNat b)] => match objAt h st with
    | some (.pool g) => match objAt g st with
      | some .figs => match b with
        | 0 => .bad
        | n + 1 => match Nat.ble n 100 with
          | true => k (.rng (n + 1)) st
          | false => .bad
      | _ => .bad
    | _ => .bad
  | _ => .bad
end Mine

namespace Mine
open PySem PySem.W PyProof.Rows
/-! the part of the top that the walk asks of, written out -/
noncomputable def oT (l : List Value) : Obj := { cls := .type "tuple", data := .seq l.toArray 0 }
noncomputable def oC (l : List Value) : Obj := { cls := .type "code", data := .fields l.toArray }
noncomputable def oD (P : Params) (c : Value) (l : List (Str × Nat × Value)) (n : Nat) : Obj := { cls := c, data := .dict (l.map fun e => { hash := PyData.keyHash P e.1, key := .str e.1 e.2.1, val := e.2.2 }).toArray n }
noncomputable def oF (s : Stmt) (qual : Str) (dV kV doc pm : Value) (an : Option Addr) (cdv ct : Value) (sl : Array (Option Value)) : Obj := match s with
  | .FunctionDef n a b _ _ _ sc _ _ _ => { cls := .type "function", data := .func { name := n, qualname := qual, params := a, body := .stmts b, scope := sc, globals := mainGlobals, closure := [], defaults := dV, kwdefaults := kV, doc, pyModule := pm, annotations := an, code := cdv, closureTuple := ct, builtins := builtinsNs }, slots := sl }
  | _ => { cls := .none }
noncomputable def oK (name : Str) (bases mro : List Value) (ns : Addr) (qual : Str) (sl : Array (Option Value)) : Obj := { cls := .type "type", data := .cls { name, bases, mro, ns, qualname := qual }, slots := sl }
noncomputable def dE (k : Str) (t : Nat) (v : Value) : Str × Nat × Value := (k, t, v)
noncomputable def oR (a : Nat) (o : Obj) : Nat × Obj := (a, o)
noncomputable def KF (P : Params) : Frag := [
  oR 3 (oD P (.type "dict") [dE "__name__" 165 ((.str "law_nz0495_01" 814)), dE "__doc__" 166 (.none), dE "__package__" 167 (.none), dE "__loader__" 168 ((.builtin "__main__.__loader__#opaque")), dE "__spec__" 169 (.none), dE "__annotations__" 170 ((.ref 6)), dE "__builtins__" 171 ((.ref 4)), dE "__file__" 173 ((.str "/claim/cut.py" 172)), dE "__cached__" 174 (.none), dE "_wall" 193 ((.ref 21)), dE "assign_chain" 203 ((.ref 28)), dE "emit_assign" 209 ((.ref 33)), dE "Code" 243 ((.ref 50)), dE "row_targets" 251 ((.ref 61)), dE "with_targets" 260 ((.ref 68)), dE "goes_on" 267 ((.ref 75)), dE "height_change" 275 ((.ref 82)), dE "loop_change" 282 ((.ref 89)), dE "target_states" 288 ((.ref 94)), dE "greatest_height" 304 ((.ref 101)), dE "Null" 335 ((.ref 118)), dE "Vector" 377 ((.ref 147)), dE "Symbol" 408 ((.ref 168)), dE "Call" 443 ((.ref 190)), dE "null" 449 ((.ref 201)), dE "character" 456 ((.ref 208)), dE "number" 467 ((.ref 216)), dE "symbol" 474 ((.ref 223)), dE "call_of" 483 ((.ref 230)), dE "share" 490 ((.ref 237)), dE "operator_names" 498 ((.ref 244)), dE "is_index" 505 ((.ref 251)), dE "plain_arguments" 516 ((.ref 258)), dE "right_count" 525 ((.ref 265)), dE "plain_target" 532 ((.ref 272)), dE "LoopMark" 564 ((.ref 289)), dE "Compiler" 805 ((.ref 456)), dE "compile_expr" 813 ((.ref 468)), dE "_law_pool" 828 ((.ref 475)), dE "_law_pick" 837 ((.ref 482)), dE "_law_run" 851 ((.ref 489)), dE "law" 857 ((.ref 494))] 42),
  oR 27 (oC [(.str "assign_chain" 196), (.str "assign_chain" 197), (.str "/claim/cut.py" 198), (.int 5 0), (.int 1 0), (.int 0 0), (.int 0 0), (.int 3 0), (.ref 22), (.bool true), (.int 181 0), (.ref 23), .none, (.ref 24), (.ref 25), (.ref 26), (.int 201 0), (.int 5 0), (.str "/claim/cut.py" 202)]),
  oR 28 (oF (top 2) "assign_chain" .none .none .none (.str "vectorcove.compassign" 194) none (.ref 27) .none #[]),
  oR 32 (oC [(.str "emit_assign" 204), (.str "emit_assign" 205), (.str "/claim/cut.py" 206), (.int 15 0), (.int 5 0), (.int 0 0), (.int 0 0), (.int 3 0), (.ref 29), (.bool true), (.int 181 0), (.ref 30), .none, .none, .none, (.ref 31), (.int 207 0), (.int 15 0), (.str "/claim/cut.py" 208)]),
  oR 33 (oF (top 3) "emit_assign" .none .none .none (.str "vectorcove.compassign" 194) none (.ref 32) .none #[]),
  oR 46 (oC [(.str "__init__" 224), (.str "Code.__init__" 225), (.str "/claim/cut.py" 226), (.int 29 0), (.int 2 0), (.int 0 0), (.int 0 0), (.int 3 0), (.ref 41), (.bool true), (.int 181 0), (.ref 42), .none, (.ref 43), (.ref 44), (.ref 45), (.int 229 0), (.int 29 0), (.str "/claim/cut.py" 230)]),
  oR 47 (oF (inCls 5 0) "Code.__init__" .none .none .none (.str "vectorcove.code" 210) none (.ref 46) .none #[]),
  oR 49 (oD P (.type "dict") [dE "__module__" 219 ((.str "vectorcove.code" 210)), dE "__firstlineno__" 223 ((.int 27 222)), dE "__init__" 231 ((.ref 47)), dE "__static_attributes__" 236 ((.ref 48)), dE "__dict__" 238 ((.ref 51)), dE "__weakref__" 240 ((.ref 52)), dE "__doc__" 241 (.none)] 4),
  oR 50 (oK "Code" [(.type "object")] [(.ref 50), (.type "object")] 49 "Code" #[none, none, (some (.str "Code" 212)), (some (.str "Code" 220)), (some (.builtin "object.__new__")), (some (.bool true))]),
  oR 60 (oC [(.str "row_targets" 244), (.str "row_targets" 245), (.str "/claim/cut.py" 246), (.int 34 0), (.int 1 0), (.int 0 0), (.int 0 0), (.int 3 0), (.ref 55), (.bool true), (.int 181 0), (.ref 56), .none, (.ref 57), (.ref 58), (.ref 59), (.int 249 0), (.int 34 0), (.str "/claim/cut.py" 250)]),
  oR 61 (oF (top 6) "row_targets" .none .none .none (.str "vectorcove.code" 210) none (.ref 60) .none #[]),
  oR 67 (oC [(.str "with_targets" 252), (.str "with_targets" 253), (.str "/claim/cut.py" 254), (.int 43 0), (.int 2 0), (.int 0 0), (.int 0 0), (.int 3 0), (.ref 62), (.bool true), (.int 181 0), (.ref 63), .none, (.ref 64), (.ref 65), (.ref 66), (.int 258 0), (.int 43 0), (.str "/claim/cut.py" 259)]),
  oR 68 (oF (top 7) "with_targets" .none .none .none (.str "vectorcove.code" 210) none (.ref 67) .none #[]),
  oR 74 (oC [(.str "goes_on" 261), (.str "goes_on" 262), (.str "/claim/cut.py" 263), (.int 52 0), (.int 1 0), (.int 0 0), (.int 0 0), (.int 3 0), (.ref 69), (.bool true), (.int 181 0), (.ref 70), .none, (.ref 71), (.ref 72), (.ref 73), (.int 265 0), (.int 52 0), (.str "/claim/cut.py" 266)]),
  oR 75 (oF (top 8) "goes_on" .none .none .none (.str "vectorcove.code" 210) none (.ref 74) .none #[]),
  oR 81 (oC [(.str "height_change" 268), (.str "height_change" 269), (.str "/claim/cut.py" 270), (.int 54 0), (.int 1 0), (.int 0 0), (.int 0 0), (.int 3 0), (.ref 76), (.bool true), (.int 181 0), (.ref 77), .none, (.ref 78), (.ref 79), (.ref 80), (.int 273 0), (.int 54 0), (.str "/claim/cut.py" 274)]),
  oR 82 (oF (top 9) "height_change" .none .none .none (.str "vectorcove.code" 210) none (.ref 81) .none #[]),
  oR 88 (oC [(.str "loop_change" 276), (.str "loop_change" 277), (.str "/claim/cut.py" 278), (.int 65 0), (.int 1 0), (.int 0 0), (.int 0 0), (.int 3 0), (.ref 83), (.bool true), (.int 181 0), (.ref 84), .none, (.ref 85), (.ref 86), (.ref 87), (.int 280 0), (.int 65 0), (.str "/claim/cut.py" 281)]),
  oR 89 (oF (top 10) "loop_change" .none .none .none (.str "vectorcove.code" 210) none (.ref 88) .none #[]),
  oR 93 (oC [(.str "target_states" 283), (.str "target_states" 284), (.str "/claim/cut.py" 285), (.int 71 0), (.int 3 0), (.int 0 0), (.int 0 0), (.int 3 0), (.ref 90), (.bool true), (.int 181 0), (.ref 91), .none, .none, .none, (.ref 92), (.int 286 0), (.int 71 0), (.str "/claim/cut.py" 287)]),
  oR 94 (oF (top 11) "target_states" .none .none .none (.str "vectorcove.code" 210) none (.ref 93) .none #[]),
  oR 100 (oC [(.str "greatest_height" 289), (.str "greatest_height" 290), (.str "/claim/cut.py" 291), (.int 77 0), (.int 1 0), (.int 0 0), (.int 0 0), (.int 3 0), (.ref 95), (.bool true), (.int 181 0), (.ref 96), .none, (.ref 97), (.ref 98), (.ref 99), (.int 302 0), (.int 77 0), (.str "/claim/cut.py" 303)]),
  oR 101 (oF (top 12) "greatest_height" .none .none .none (.str "vectorcove.code" 210) none (.ref 100) .none #[]),
  oR 130 (oT [.none]),
  oR 136 (oC [(.str "__init__" 348), (.str "Vector.__init__" 349), (.str "/claim/cut.py" 350), (.int 102 0), (.int 4 0), (.int 0 0), (.int 0 0), (.int 3 0), (.ref 131), (.bool true), (.int 181 0), (.ref 132), .none, (.ref 133), (.ref 134), (.ref 135), (.int 355 0), (.int 102 0), (.str "/claim/cut.py" 356)]),
  oR 137 (oF (inCls 15 0) "Vector.__init__" (.ref 130) .none .none (.str "vectorcove.values" 305) none (.ref 136) .none #[]),
  oR 146 (oD P (.type "dict") [dE "__module__" 343 ((.str "vectorcove.values" 305)), dE "__firstlineno__" 347 ((.int 100 346)), dE "__init__" 357 ((.ref 137)), dE "copy" 364 ((.ref 144)), dE "__static_attributes__" 370 ((.ref 145)), dE "__dict__" 372 ((.ref 148)), dE "__weakref__" 374 ((.ref 149)), dE "__doc__" 375 (.none)] 4),
  oR 147 (oK "Vector" [(.type "object")] [(.ref 147), (.type "object")] 146 "Vector" #[none, none, (some (.str "Vector" 336)), (some (.str "Vector" 344)), (some (.builtin "object.__new__")), (some (.bool true))]),
  oR 164 (oC [(.str "__init__" 390), (.str "Symbol.__init__" 391), (.str "/claim/cut.py" 392), (.int 113 0), (.int 2 0), (.int 0 0), (.int 0 0), (.int 3 0), (.ref 159), (.bool true), (.int 181 0), (.ref 160), .none, (.ref 161), (.ref 162), (.ref 163), (.int 395 0), (.int 113 0), (.str "/claim/cut.py" 396)]),
  oR 165 (oF (inCls 16 0) "Symbol.__init__" .none .none .none (.str "vectorcove.values" 305) none (.ref 164) .none #[]),
  oR 167 (oD P (.type "dict") [dE "__module__" 385 ((.str "vectorcove.values" 305)), dE "__firstlineno__" 389 ((.int 111 388)), dE "__init__" 397 ((.ref 165)), dE "__static_attributes__" 401 ((.ref 166)), dE "__dict__" 403 ((.ref 169)), dE "__weakref__" 405 ((.ref 170)), dE "__doc__" 406 (.none)] 4),
  oR 168 (oK "Symbol" [(.type "object")] [(.ref 168), (.type "object")] 167 "Symbol" #[none, none, (some (.str "Symbol" 378)), (some (.str "Symbol" 386)), (some (.builtin "object.__new__")), (some (.bool true))]),
  oR 180 (oT [.none]),
  oR 186 (oC [(.str "__init__" 421), (.str "Call.__init__" 422), (.str "/claim/cut.py" 423), (.int 119 0), (.int 4 0), (.int 0 0), (.int 0 0), (.int 3 0), (.ref 181), (.bool true), (.int 181 0), (.ref 182), .none, (.ref 183), (.ref 184), (.ref 185), (.int 428 0), (.int 119 0), (.str "/claim/cut.py" 429)]),
  oR 187 (oF (inCls 17 0) "Call.__init__" (.ref 180) .none .none (.str "vectorcove.values" 305) none (.ref 186) .none #[]),
  oR 189 (oD P (.type "dict") [dE "__module__" 416 ((.str "vectorcove.values" 305)), dE "__firstlineno__" 420 ((.int 117 419)), dE "__init__" 430 ((.ref 187)), dE "__static_attributes__" 436 ((.ref 188)), dE "__dict__" 438 ((.ref 191)), dE "__weakref__" 440 ((.ref 192)), dE "__doc__" 441 (.none)] 4),
  oR 190 (oK "Call" [(.type "object")] [(.ref 190), (.type "object")] 189 "Call" #[none, none, (some (.str "Call" 409)), (some (.str "Call" 417)), (some (.builtin "object.__new__")), (some (.bool true))]),
  oR 207 (oC [(.str "character" 450), (.str "character" 451), (.str "/claim/cut.py" 452), (.int 127 0), (.int 1 0), (.int 0 0), (.int 0 0), (.int 3 0), (.ref 202), (.bool true), (.int 181 0), (.ref 203), .none, (.ref 204), (.ref 205), (.ref 206), (.int 454 0), (.int 127 0), (.str "/claim/cut.py" 455)]),
  oR 208 (oF (top 19) "character" .none .none .none (.str "vectorcove.values" 305) none (.ref 207) .none #[]),
  oR 209 (oT [(.int 1 457)]),
  oR 215 (oC [(.str "number" 458), (.str "number" 459), (.str "/claim/cut.py" 460), (.int 129 0), (.int 2 0), (.int 0 0), (.int 0 0), (.int 3 0), (.ref 210), (.bool true), (.int 181 0), (.ref 211), .none, (.ref 212), (.ref 213), (.ref 214), (.int 465 0), (.int 129 0), (.str "/claim/cut.py" 466)]),
  oR 216 (oF (top 20) "number" (.ref 209) .none .none (.str "vectorcove.values" 305) none (.ref 215) .none #[]),
  oR 222 (oC [(.str "symbol" 468), (.str "symbol" 469), (.str "/claim/cut.py" 470), (.int 135 0), (.int 1 0), (.int 0 0), (.int 0 0), (.int 3 0), (.ref 217), (.bool true), (.int 181 0), (.ref 218), .none, (.ref 219), (.ref 220), (.ref 221), (.int 472 0), (.int 135 0), (.str "/claim/cut.py" 473)]),
  oR 223 (oF (top 21) "symbol" .none .none .none (.str "vectorcove.values" 305) none (.ref 222) .none #[]),
  oR 229 (oC [(.str "call_of" 475), (.str "call_of" 476), (.str "/claim/cut.py" 477), (.int 137 0), (.int 2 0), (.int 0 0), (.int 0 0), (.int 3 0), (.ref 224), (.bool true), (.int 181 0), (.ref 225), .none, (.ref 226), (.ref 227), (.ref 228), (.int 481 0), (.int 137 0), (.str "/claim/cut.py" 482)]),
  oR 230 (oF (top 22) "call_of" .none .none .none (.str "vectorcove.values" 305) none (.ref 229) .none #[]),
  oR 236 (oC [(.str "share" 484), (.str "share" 485), (.str "/claim/cut.py" 486), (.int 140 0), (.int 1 0), (.int 0 0), (.int 0 0), (.int 3 0), (.ref 231), (.bool true), (.int 181 0), (.ref 232), .none, (.ref 233), (.ref 234), (.ref 235), (.int 488 0), (.int 140 0), (.str "/claim/cut.py" 489)]),
  oR 237 (oF (top 23) "share" .none .none .none (.str "vectorcove.values" 305) none (.ref 236) .none #[]),
  oR 243 (oC [(.str "operator_names" 493), (.str "operator_names" 494), (.str "/claim/cut.py" 495), (.int 145 0), (.int 0 0), (.int 0 0), (.int 0 0), (.int 3 0), (.ref 238), (.bool true), (.int 181 0), (.ref 239), .none, (.ref 240), (.ref 241), (.ref 242), (.int 496 0), (.int 145 0), (.str "/claim/cut.py" 497)]),
  oR 244 (oF (top 25) "operator_names" .none .none .none (.str "vectorcove.compiler" 491) none (.ref 243) .none #[]),
  oR 271 (oC [(.str "plain_target" 526), (.str "plain_target" 527), (.str "/claim/cut.py" 528), (.int 180 0), (.int 1 0), (.int 0 0), (.int 0 0), (.int 3 0), (.ref 266), (.bool true), (.int 181 0), (.ref 267), .none, (.ref 268), (.ref 269), (.ref 270), (.int 530 0), (.int 180 0), (.str "/claim/cut.py" 531)]),
  oR 272 (oF (top 29) "plain_target" .none .none .none (.str "vectorcove.compiler" 491) none (.ref 271) .none #[]),
  oR 301 (oT [.none]),
  oR 307 (oC [(.str "__init__" 577), (.str "Compiler.__init__" 578), (.str "/claim/cut.py" 579), (.int 194 0), (.int 2 0), (.int 0 0), (.int 0 0), (.int 3 0), (.ref 302), (.bool true), (.int 181 0), (.ref 303), .none, (.ref 304), (.ref 305), (.ref 306), (.int 582 0), (.int 194 0), (.str "/claim/cut.py" 583)]),
  oR 308 (oF (inCls 31 0) "Compiler.__init__" (.ref 301) .none .none (.str "vectorcove.compiler" 491) none (.ref 307) .none #[]),
  oR 314 (oC [(.str "compile_expr" 585), (.str "Compiler.compile_expr" 586), (.str "/claim/cut.py" 587), (.int 201 0), (.int 2 0), (.int 0 0), (.int 0 0), (.int 3 0), (.ref 309), (.bool true), (.int 181 0), (.ref 310), .none, (.ref 311), (.ref 312), (.ref 313), (.int 591 0), (.int 201 0), (.str "/claim/cut.py" 592)]),
  oR 315 (oF (inCls 31 1) "Compiler.compile_expr" .none .none .none (.str "vectorcove.compiler" 491) none (.ref 314) .none #[]),
  oR 321 (oC [(.str "emit" 594), (.str "Compiler.emit" 595), (.str "/claim/cut.py" 596), (.int 210 0), (.int 2 0), (.int 0 0), (.int 0 0), (.int 3 0), (.ref 316), (.bool true), (.int 181 0), (.ref 317), .none, (.ref 318), (.ref 319), (.ref 320), (.int 599 0), (.int 210 0), (.str "/claim/cut.py" 600)]),
  oR 322 (oF (inCls 31 2) "Compiler.emit" .none .none .none (.str "vectorcove.compiler" 491) none (.ref 321) .none #[]),
  oR 328 (oC [(.str "aim" 602), (.str "Compiler.aim" 603), (.str "/claim/cut.py" 604), (.int 215 0), (.int 2 0), (.int 0 0), (.int 0 0), (.int 3 0), (.ref 323), (.bool true), (.int 181 0), (.ref 324), .none, (.ref 325), (.ref 326), (.ref 327), (.int 609 0), (.int 215 0), (.str "/claim/cut.py" 610)]),
  oR 329 (oF (inCls 31 3) "Compiler.aim" .none .none .none (.str "vectorcove.compiler" 491) none (.ref 328) .none #[]),
  oR 335 (oC [(.str "add_const" 612), (.str "Compiler.add_const" 613), (.str "/claim/cut.py" 614), (.int 221 0), (.int 2 0), (.int 0 0), (.int 0 0), (.int 3 0), (.ref 330), (.bool true), (.int 181 0), (.ref 331), .none, (.ref 332), (.ref 333), (.ref 334), (.int 617 0), (.int 221 0), (.str "/claim/cut.py" 618)]),
  oR 336 (oF (inCls 31 4) "Compiler.add_const" .none .none .none (.str "vectorcove.compiler" 491) none (.ref 335) .none #[]),
  oR 342 (oC [(.str "push_const" 620), (.str "Compiler.push_const" 621), (.str "/claim/cut.py" 622), (.int 225 0), (.int 2 0), (.int 0 0), (.int 0 0), (.int 3 0), (.ref 337), (.bool true), (.int 181 0), (.ref 338), .none, (.ref 339), (.ref 340), (.ref 341), (.int 625 0), (.int 225 0), (.str "/claim/cut.py" 626)]),
  oR 343 (oF (inCls 31 5) "Compiler.push_const" .none .none .none (.str "vectorcove.compiler" 491) none (.ref 342) .none #[]),
  oR 349 (oC [(.str "expr" 628), (.str "Compiler.expr" 629), (.str "/claim/cut.py" 630), (.int 228 0), (.int 2 0), (.int 0 0), (.int 0 0), (.int 3 0), (.ref 344), (.bool true), (.int 181 0), (.ref 345), .none, (.ref 346), (.ref 347), (.ref 348), (.int 633 0), (.int 228 0), (.str "/claim/cut.py" 634)]),
  oR 350 (oF (inCls 31 6) "Compiler.expr" .none .none .none (.str "vectorcove.compiler" 491) none (.ref 349) .none #[]),
  oR 356 (oC [(.str "call" 636), (.str "Compiler.call" 637), (.str "/claim/cut.py" 638), (.int 240 0), (.int 3 0), (.int 0 0), (.int 0 0), (.int 3 0), (.ref 351), (.bool true), (.int 181 0), (.ref 352), .none, (.ref 353), (.ref 354), (.ref 355), (.int 643 0), (.int 240 0), (.str "/claim/cut.py" 644)]),
  oR 357 (oF (inCls 31 7) "Compiler.call" .none .none .none (.str "vectorcove.compiler" 491) none (.ref 356) .none #[]),
  oR 361 (oC [(.str "guarded" 646), (.str "Compiler.guarded" 647), (.str "/claim/cut.py" 648), (.int 260 0), (.int 5 0), (.int 0 0), (.int 0 0), (.int 3 0), (.ref 358), (.bool true), (.int 181 0), (.ref 359), .none, .none, .none, (.ref 360), (.int 649 0), (.int 260 0), (.str "/claim/cut.py" 650)]),
  oR 362 (oF (inCls 31 8) "Compiler.guarded" .none .none .none (.str "vectorcove.compiler" 491) none (.ref 361) .none #[]),
  oR 368 (oC [(.str "plain_way" 652), (.str "Compiler.plain_way" 653), (.str "/claim/cut.py" 654), (.int 273 0), (.int 4 0), (.int 0 0), (.int 0 0), (.int 3 0), (.ref 363), (.bool true), (.int 181 0), (.ref 364), .none, (.ref 365), (.ref 366), (.ref 367), (.int 661 0), (.int 273 0), (.str "/claim/cut.py" 662)]),
  oR 369 (oF (inCls 31 9) "Compiler.plain_way" .none .none .none (.str "vectorcove.compiler" 491) none (.ref 368) .none #[]),
  oR 445 (oC [(.str "assignment" 769), (.str "Compiler.assignment" 770), (.str "/claim/cut.py" 771), (.int 401 0), (.int 3 0), (.int 0 0), (.int 0 0), (.int 3 0), (.ref 440), (.bool true), (.int 181 0), (.ref 441), .none, (.ref 442), (.ref 443), (.ref 444), (.int 776 0), (.int 401 0), (.str "/claim/cut.py" 777)]),
  oR 446 (oF (inCls 31 20) "Compiler.assignment" .none .none .none (.str "vectorcove.compiler" 491) none (.ref 445) .none #[]),
  oR 452 (oC [(.str "assigned" 779), (.str "Compiler.assigned" 780), (.str "/claim/cut.py" 781), (.int 411 0), (.int 3 0), (.int 0 0), (.int 0 0), (.int 3 0), (.ref 447), (.bool true), (.int 181 0), (.ref 448), .none, (.ref 449), (.ref 450), (.ref 451), (.int 790 0), (.int 411 0), (.str "/claim/cut.py" 791)]),
  oR 453 (oF (inCls 31 21) "Compiler.assigned" .none .none .none (.str "vectorcove.compiler" 491) none (.ref 452) .none #[]),
  oR 455 (oD P (.type "dict") [dE "__module__" 572 ((.str "vectorcove.compiler" 491)), dE "__firstlineno__" 576 ((.int 192 575)), dE "__init__" 584 ((.ref 308)), dE "compile_expr" 593 ((.ref 315)), dE "emit" 601 ((.ref 322)), dE "aim" 611 ((.ref 329)), dE "add_const" 619 ((.ref 336)), dE "push_const" 627 ((.ref 343)), dE "expr" 635 ((.ref 350)), dE "call" 645 ((.ref 357)), dE "guarded" 651 ((.ref 362)), dE "plain_way" 663 ((.ref 369)), dE "operator" 673 ((.ref 376)), dE "logic" 685 ((.ref 383)), dE "control" 694 ((.ref 390)), dE "block" 703 ((.ref 397)), dE "branch" 714 ((.ref 404)), dE "for_loop" 726 ((.ref 411)), dE "while_loop" 738 ((.ref 418)), dE "turn" 748 ((.ref 425)), dE "leave_loop" 760 ((.ref 432)), dE "give_back" 768 ((.ref 439)), dE "assignment" 778 ((.ref 446)), dE "assigned" 792 ((.ref 453)), dE "__static_attributes__" 798 ((.ref 454)), dE "__dict__" 800 ((.ref 457)), dE "__weakref__" 802 ((.ref 458)), dE "__doc__" 803 (.none)] 4),
  oR 456 (oK "Compiler" [(.type "object")] [(.ref 456), (.type "object")] 455 "Compiler" #[none, none, (some (.str "Compiler" 565)), (some (.str "Compiler" 573)), (some (.builtin "object.__new__")), (some (.bool true))]),
  oR 461 (oT [.none]),
  oR 467 (oC [(.str "compile_expr" 806), (.str "compile_expr" 807), (.str "/claim/cut.py" 808), (.int 422 0), (.int 2 0), (.int 0 0), (.int 0 0), (.int 3 0), (.ref 462), (.bool true), (.int 181 0), (.ref 463), .none, (.ref 464), (.ref 465), (.ref 466), (.int 811 0), (.int 422 0), (.str "/claim/cut.py" 812)]),
  oR 468 (oF (top 32) "compile_expr" (.ref 461) .none .none (.str "vectorcove.compiler" 491) none (.ref 467) .none #[]),
  oR 474 (oC [(.str "_law_pool" 816), (.str "_law_pool" 817), (.str "/claim/cut.py" 818), (.int 425 0), (.int 1 0), (.int 0 0), (.int 0 0), (.int 3 0), (.ref 469), (.bool true), (.int 181 0), (.ref 470), .none, (.ref 471), (.ref 472), (.ref 473), (.int 826 0), (.int 425 0), (.str "/claim/cut.py" 827)]),
  oR 475 (oF (top 34) "_law_pool" .none .none .none (.str "law_nz0495_01" 814) none (.ref 474) .none #[]),
  oR 481 (oC [(.str "_law_pick" 829), (.str "_law_pick" 830), (.str "/claim/cut.py" 831), (.int 440 0), (.int 2 0), (.int 0 0), (.int 0 0), (.int 3 0), (.ref 476), (.bool true), (.int 181 0), (.ref 477), .none, (.ref 478), (.ref 479), (.ref 480), (.int 835 0), (.int 440 0), (.str "/claim/cut.py" 836)]),
  oR 482 (oF (top 35) "_law_pick" .none .none .none (.str "law_nz0495_01" 814) none (.ref 481) .none #[]),
  oR 488 (oC [(.str "_law_run" 838), (.str "_law_run" 839), (.str "/claim/cut.py" 840), (.int 450 0), (.int 1 0), (.int 0 0), (.int 0 0), (.int 3 0), (.ref 483), (.bool true), (.int 181 0), (.ref 484), .none, (.ref 485), (.ref 486), (.ref 487), (.int 849 0), (.int 450 0), (.str "/claim/cut.py" 850)]),
  oR 489 (oF (top 36) "_law_run" .none .none .none (.str "law_nz0495_01" 814) none (.ref 488) .none #[])
]
noncomputable def kas : List Nat := [3, 27, 28, 32, 33, 46, 47, 49, 50, 60, 61, 67, 68, 74, 75, 81, 82, 88, 89, 93, 94, 100, 101, 130, 136, 137, 146, 147, 164, 165, 167, 168, 180, 186, 187, 189, 190, 207, 208, 209, 215, 216, 222, 223, 229, 230, 236, 237, 243, 244, 271, 272, 301, 307, 308, 314, 315, 321, 322, 328, 329, 335, 336, 342, 343, 349, 350, 356, 357, 361, 362, 368, 369, 445, 446, 452, 453, 455, 456, 461, 467, 468, 474, 475, 481, 482, 488, 489]
theorem kasOk : ∀ P, kas = (KF P).map (·.1) := fun P => by kernel_rfl
end Mine

namespace Mine
open PySem PySem.W PySem.Calls PyProof.Rows
/-! the head: the top is run over a tree of objects, in one check -/
noncomputable abbrev pw : Program := PySem.Challenge.pw_nz0495_01
theorem bOpen : opening pw = plainProg pw.main.scope.names := by kernel_rfl
theorem bFence : ∀ s, fenceModules? pw s = some s := by intro s; kernel_rfl
theorem bSize : ∀ w : World, ((boot_heap w.params).isNs mainGlobals, (boot_heap w.params).objs.size, (boot_heap w.params).nsMap mainGlobals "__annotations__") = (true, 11, some (.ref 6)) := by intro w; kernel_rfl
theorem of_boot {p q : Program} {loose : List Str} {Xt : Shared → Bool} {α : Type} {Yf : Shared → α} {Ya : World → α} {N : Nat} {g0 : Bool} (e : opening p = plainProg p.main.scope.names) (hN : Nat.ble 600 N = true) (f : ∀ s, fenceModules? p s = some s)
    (h : ∀ w : World, (fun os => (topFrom treeTable p w N ⟨boot_heap w.params, Array.mk [], boot_drawn, boot_toks, os⟩).map (fun s => (openSeen q loose (importedModules p.main.body) Xt g0 s, Yf s))) = fun _ => some (openGood q loose, Ya w)) : LeftO p q loose Xt Yf Ya N g0 := fun w => by
  obtain ⟨⟨h', gs, d, k, os⟩, e1, e2⟩ := Option.map_eq_some_iff.mp (boot_open e hN f w)
  obtain ⟨rfl, rfl, rfl, rfl⟩ : h' = boot_heap w.params ∧ gs = Array.mk [] ∧ d = boot_drawn ∧ k = boot_toks := by simpa using e2
  unfold openEnds
  rw [e1]
  exact congrFun (h w) os
/-- the run of the top over a tree of objects, by the library's quick words -/
noncomputable def topT (p : Program) (w : World) (m0 : Nat) (ann : Option Value) : Nat → SharedT → Thread → Option SharedT
  | 0, _, _ => none
  | n + 1, s, t => match through t with
    | true => some s
    | false => match PySem.W.Fast.tw6613529449190102663 m0 ann t with
      | false => none
      | true => match PySem.W.Fast.tw10156331382660048174 (PySem.W.Fast.tw11892475500146522536 PySem.W.Fast.tw14364793385576792824) p w s t with
        | some (s', t') => topT p w m0 ann n s' t'
        | none => none
theorem topT_spec {p : Program} {w : World} {m0 : Nat} {ann : Option Value} : ∀ {n : Nat} {s s' : SharedT} {t : Thread}, topT p w m0 ann n s t = some s' → topRun treeTable p w m0 ann n s.abs t = some s'.abs
  | 0, _, _, _, h => nomatch h
  | n + 1, s, s', t, h => by
    unfold topT at h
    unfold topRun
    cases e1 : through t with
    | true => rw [e1] at h; cases h; rfl
    | false =>
      rw [e1] at h
      dsimp only at h
      rw [← PySem.W.Fast.te6613529449190102663, ← PySem.W.Fast.te10156331382660048174, ← PySem.W.Fast.te11892475500146522536, ← PySem.W.Fast.te14364793385576792824] at h
      cases e2 : stepOk m0 ann t with
      | false => rw [e2] at h; cases h
      | true =>
        rw [e2] at h
        dsimp only at h
        cases e3 : stepT (denote treeTable) p w s t with
        | none => rw [e3] at h; cases h
        | some r =>
          obtain ⟨s1, t1⟩ := r
          rw [e3] at h
          rw [stepT_spec e3]
          exact topT_spec h
noncomputable def bootT (P : Params) : BT := (boot_heap P).objs.toList.foldr (fun o (r : Nat → BT → BT) i t => r (i + 1) (t.ins i o)) (fun _ t => t) 0 .nil
noncomputable def bootS (P : Params) (os : OsState) : SharedT := ⟨bootT P, 11, (boot_heap P).life, Array.mk [], boot_drawn, boot_toks, os⟩
theorem bootS_abs (P : Params) (os : OsState) : (bootS P os).abs = ⟨boot_heap P, Array.mk [], boot_drawn, boot_toks, os⟩ := by kernel_rfl
/-- the looks behind the run, in three lots: each lot runs the top anew, and the kernel's memory stays the smaller -/
theorem of_boot4 {p q : Program} {loose : List Str} {Xt : Shared → Bool} {α : Type} {Yf : Shared → α} {Ya : World → α} {N : Nat} {g0 : Bool} (e : opening p = plainProg p.main.scope.names) (hN : Nat.ble 600 N = true) (f : ∀ s, fenceModules? p s = some s)
    (h1 : ∀ w : World, (fun os => (topT p w 11 (some (.ref 6)) N (bootS w.params os) (topStub p)).map fun s => ((staticsOk (importedModules p.main.body) (boot_heap w.params) s.abs.heap && namesBound p s.abs.heap && gensDone s.abs && laidKept (boot_heap w.params) s.abs.heap), (PySem.W.Fast.tw4187177175401517315 q loose (importedModules p.main.body) Xt g0 s.abs).1, (PySem.W.Fast.tw4187177175401517315 q loose (importedModules p.main.body) Xt g0 s.abs).2.1, (PySem.W.Fast.tw4187177175401517315 q loose (importedModules p.main.body) Xt g0 s.abs).2.2.2.2.1, Yf s.abs)) = fun _ => some (true, expectedOf q, bltViewBooted, pinGoodD (drecsOf q), Ya w))
    (h2 : ∀ w : World, (fun os => (topT p w 11 (some (.ref 6)) N (bootS w.params os) (topStub p)).map fun s => ((PySem.W.Fast.tw4187177175401517315 q loose (importedModules p.main.body) Xt g0 s.abs).2.2.1, (PySem.W.Fast.tw4187177175401517315 q loose (importedModules p.main.body) Xt g0 s.abs).2.2.2.1, (PySem.W.Fast.tw4187177175401517315 q loose (importedModules p.main.body) Xt g0 s.abs).2.2.2.2.2.2.2.1, (PySem.W.Fast.tw4187177175401517315 q loose (importedModules p.main.body) Xt g0 s.abs).2.2.2.2.2.2.2.2)) = fun _ => some (true, true, wideGood q, clsGoodW q loose))
    (h3 : ∀ w : World, (fun os => (topT p w 11 (some (.ref 6)) N (bootS w.params os) (topStub p)).map fun s => ((PySem.W.Fast.tw4187177175401517315 q loose (importedModules p.main.body) Xt g0 s.abs).2.2.2.2.2.1, (PySem.W.Fast.tw4187177175401517315 q loose (importedModules p.main.body) Xt g0 s.abs).2.2.2.2.2.2.1)) = fun _ => some (plainGoodE q (looseW q loose), plainGoodD q loose)) :
    LeftO p q loose Xt Yf Ya N g0 := of_boot e hN f fun w => by
  funext os
  obtain ⟨s, e1, d1⟩ := Option.map_eq_some_iff.mp (congrFun (h1 w) os)
  obtain ⟨s2, e2, d2⟩ := Option.map_eq_some_iff.mp (congrFun (h2 w) os)
  obtain ⟨s3, e3, d3⟩ := Option.map_eq_some_iff.mp (congrFun (h3 w) os)
  cases e1.symm.trans e2
  cases e1.symm.trans e3
  simp only [Prod.mk.injEq] at d1 d2 d3
  obtain ⟨l1, c0, c1, c4, l3⟩ := d1
  obtain ⟨c2, c3, c7, c8⟩ := d2
  obtain ⟨c5, c6⟩ := d3
  have l2 : PySem.W.Fast.tw4187177175401517315 q loose (importedModules p.main.body) Xt g0 s.abs = openGood q loose :=
    Prod.ext c0 (Prod.ext c1 (Prod.ext c2 (Prod.ext c3 (Prod.ext c4 (Prod.ext c5 (Prod.ext c6 (Prod.ext c7 c8)))))))
  rw [← PySem.W.Fast.te4187177175401517315] at l2
  have e1 := topT_spec e1
  rw [bootS_abs] at e1
  obtain ⟨z1, z2, z3⟩ : _ ∧ _ ∧ _ := by simpa only [Prod.mk.injEq] using bSize w
  have t : topFrom treeTable p w N ⟨boot_heap w.params, Array.mk [], boot_drawn, boot_toks, os⟩ = some s.abs := by
    unfold topFrom
    dsimp only
    rw [z1, z2, z3, e1]
    show (match staticsOk (importedModules p.main.body) (boot_heap w.params) s.abs.heap && namesBound p s.abs.heap && gensDone s.abs && laidKept (boot_heap w.params) s.abs.heap with | true => _ | false => _) = _
    rw [l1]
  rw [t]
  exact congrArg some (Prod.ext l2 l3)
noncomputable def qv : Program := view pw [0, 2, 3, 5, 6, 7, 8, 9, 10, 11, 12, 14, 15, 16, 17, 18, 19, 21, 22, 23, 25, 26, 27, 28, 29, 30, 31, 34, 35, 36, 37]
noncomputable def qloose : List Str := ["number", "compile_expr"]
noncomputable def qXt : Shared → Bool := fun s => xlAt qv [] s && recOk (RowW.records (PySem.Challenge.rw_nz0495_01.row.toRowW)) s
noncomputable def hookK : Hook := kHook KF kas kasOk
theorem look1 : ∀ w : World, (fun os => (topT pw w 11 (some (.ref 6)) 6434 (bootS w.params os) (topStub pw)).map fun s => ((staticsOk (importedModules pw.main.body) (boot_heap w.params) s.abs.heap && namesBound pw s.abs.heap && gensDone s.abs && laidKept (boot_heap w.params) s.abs.heap), (PySem.W.Fast.tw4187177175401517315 qv qloose (importedModules pw.main.body) qXt true s.abs).1, (PySem.W.Fast.tw4187177175401517315 qv qloose (importedModules pw.main.body) qXt true s.abs).2.1, (PySem.W.Fast.tw4187177175401517315 qv qloose (importedModules pw.main.body) qXt true s.abs).2.2.2.2.1, Hook.obs hookK s.abs)) = fun _ => some (true, expectedOf qv, bltViewBooted, pinGoodD (drecsOf qv), Hook.val hookK w) := by intro w; kernel_rfl
theorem look2 : ∀ w : World, (fun os => (topT pw w 11 (some (.ref 6)) 6434 (bootS w.params os) (topStub pw)).map fun s => ((PySem.W.Fast.tw4187177175401517315 qv qloose (importedModules pw.main.body) qXt true s.abs).2.2.1, (PySem.W.Fast.tw4187177175401517315 qv qloose (importedModules pw.main.body) qXt true s.abs).2.2.2.1, (PySem.W.Fast.tw4187177175401517315 qv qloose (importedModules pw.main.body) qXt true s.abs).2.2.2.2.2.2.2.1, (PySem.W.Fast.tw4187177175401517315 qv qloose (importedModules pw.main.body) qXt true s.abs).2.2.2.2.2.2.2.2)) = fun _ => some (true, true, wideGood qv, clsGoodW qv qloose) := by intro w; kernel_rfl
theorem look3 : ∀ w : World, (fun os => (topT pw w 11 (some (.ref 6)) 6434 (bootS w.params os) (topStub pw)).map fun s => ((PySem.W.Fast.tw4187177175401517315 qv qloose (importedModules pw.main.body) qXt true s.abs).2.2.2.2.2.1, (PySem.W.Fast.tw4187177175401517315 qv qloose (importedModules pw.main.body) qXt true s.abs).2.2.2.2.2.2.1)) = fun _ => some (plainGoodE qv (looseW qv qloose), plainGoodD qv qloose) := by intro w; kernel_rfl
theorem leftK : LeftO pw qv qloose qXt (Hook.obs hookK) (Hook.val hookK) 6434 := of_boot4 bOpen rfl bFence look1 look2 look3
end Mine

namespace Mine
open PySem PySem.W PySem.Calls PyProof.Rows
/-! the law is well said, part by part -/
noncomputable abbrev lw : OpenLaw := PySem.Challenge.rw_nz0495_01
theorem and_both {a b : Bool} (x : a = true) (y : b = true) : (a && b) = true := by rw [x, y]; rfl
theorem sa_row : lw.row.wellSaid = true := (congrFun PySem.W.Fast.te17960256430627541270 _).trans (by kernel_rfl)
theorem sa_block : noClassBlock lw.prog lw.footing = true := by kernel_rfl
theorem sa_foot : noRoadLSs { strict := true, foot := some lw.bound', writes := lw.writes, may := lw.may } lw.footing = true := by kernel_rfl
theorem sa_stands : defStands lw.about lw.above = true := by kernel_rfl
theorem sa_it : lw.namesIt = true := by kernel_rfl
theorem sa_own : namesMeet lw.prog lw.above (fun _ n => !lw.own.contains n) = true := by kernel_rfl
theorem said : lw.wellSaid = true := by
  unfold OpenLaw.wellSaid
  repeat' (first
    | (with_reducible refine and_both ?_ ?_)
    | with_reducible exact sa_row | with_reducible exact sa_block | with_reducible exact sa_foot | with_reducible exact sa_stands | with_reducible exact sa_it | with_reducible exact sa_own
    | kernel_rfl)
end Mine

namespace Mine
open PySem PySem.W PySem.Calls PyProof.Rows
noncomputable def dOf (s : Stmt) : DefRec := match s with
  | .FunctionDef n a b _ _ _ sc _ _ p => ⟨n, a, b, sc, p⟩
  | _ => ⟨"", ⟨[], [], none, [], [], none, []⟩, [], ⟨.module, [], false, false, []⟩, ⟨0, 0, 0, 0⟩⟩
noncomputable def dLaw : DefRec := dOf (top 37)
theorem hDef : defOf qv lw.row.toRowW.name = some (dLaw, []) := by kernel_rfl
theorem hThe : lw.row.toRowW.prog.theDef lw.row.toRowW.name = some (dLaw.params, dLaw.body, dLaw.scope) := by kernel_rfl
theorem hKw : kwWritten? dLaw.params.kwonlyargs dLaw.params.kw_defaults = some [] := by kernel_rfl
theorem hOk : (chainsOk qv && opensWell lw.row.toRowW.prog && (frees lw.row.toRowW && lw.row.toRowW.within.isEmpty)) = true := by kernel_rfl
theorem hProm : PySem.Challenge.rw_nz0495_01.row.toRowW.promised := by w_witness2
theorem hd (walk : WalkO qv qloose (XL qv []) (Hook.says hookK) lw.row.toRowW dLaw [] (fun f vs => call f vs)) : PySem.Challenge.rw_nz0495_01.Holds := by
  refine holds_law said fun sd => ?_
  exact holds_open (r := lw.row) (q := qv) (loose := qloose) (Xt := qXt) (XP := XL qv []) (Yf := Hook.obs hookK) (Ya := Hook.val hookK) (YP := Hook.says hookK) (d := dLaw) (kwd := []) (N := 6434) leftK (Hook.of hookK) (Hook.keeps hookK)
    (fun s e => xl_of s (Bool.and_eq_true_iff.mp e).1) XL.keeps hDef hThe hKw (fun s e => recFacts_of (Bool.and_eq_true_iff.mp e).2) rfl sd hOk ⟨rfl, rfl, rfl, rfl, rfl, by decide +kernel⟩ hProm walk
end Mine

namespace Mine
open PySem

structure Ev where
  e : Names → Expr → St → K1 → Dt
  t : Names → Expr → St → (Bool → St → Dt) → Dt
  s : Names → Stmt → St → (AF → St → Dt) → Dt
  c : AV → List AV → St → K1 → Dt
  w : Names → Expr → List Stmt → St → (AF → St → Dt) → Dt
  f : Names → Str → Nat → List Stmt → St → (AF → St → Dt) → Dt
  l : Names → Expr → Str → List Expr → Nat → Nat → St → (St → Dt) → Dt

noncomputable def debugS : Str := "__debug__"
noncomputable def classdictS : Str := "__classdict__"
noncomputable def evCell (x : Str) (st : St) (k : K1) : Dt := match st with
  | ⟨n, hp, nS, nT, fr, cl, cf⟩ => match look x cl with
    | some h => match hp.get h with
      | some (.cell (some v)) => k v ⟨n, hp, nS, nT, fr, cl, cf⟩
      | _ => .bad
    | Option.none => .bad
noncomputable def evLocal (x : Str) (st : St) (k : K1) : Dt := match st with
  | ⟨n, hp, nS, nT, fr, cl, cf⟩ => match cf with
    | Option.none => match look x fr with
      | some v => k v ⟨n, hp, nS, nT, fr, cl, Option.none⟩
      | Option.none => .bad
    | some c => match hp.get c with
      | some (.ns fs) => match look x fs with
        | some v => k v ⟨n, hp, nS, nT, fr, cl, some c⟩
        | Option.none => .bad
      | _ => .bad
noncomputable def evGlob (x : Str) (st : St) (k : K1) : Dt := match look x globs with
  | some v => match v with
    | .bi b => match st.cf with
      | Option.none => k (.bi b) st
      | some _ => .bad
    | v => k v st
  | Option.none => .bad
noncomputable def evName (nm : Names) (x : Str) (st : St) (k : K1) : Dt := match strEq x debugS with
  | true => .bad
  | false => match look x nm with
    | some .local => evLocal x st k
    | some .cell => evCell x st k
    | some .free => match strEq x classdictS with
      | true => .bad
      | false => evCell x st k
    | some .globalImplicit => evGlob x st k
    | _ => .bad
noncomputable def evConst (c : Const) (st : St) (k : K1) : Dt := match c with
  | .none => k .none st
  | .bool b => k (.bool b) st
  | .int i => k (.int i) st
  | .str s => k (.str s) st
  | _ => .bad
noncomputable def isStar : Expr → Bool
  | .Starred _ _ => true
  | _ => false
noncomputable def isComp : Expr → Bool
  | .ListComp _ _ _ _ => true
  | .SetComp _ _ _ _ => true
  | .DictComp _ _ _ _ _ => true
  | _ => false
noncomputable def isSet : Expr → Bool
  | .Set _ _ _ => true
  | _ => false
noncomputable def evEs (r : Ev) (nm : Names) : List Expr → St → (List AV → St → Dt) → Dt
  | [], st, k => k [] st
  | e :: es, st, k => match isStar e with
    | true => .bad
    | false => r.e nm e st fun v st => evEs r nm es st fun vs st => k (v :: vs) st
noncomputable def evSs (r : Ev) (nm : Names) : List Stmt → St → (AF → St → Dt) → Dt
  | [], st, k => k .next st
  | s :: ss, st, k => r.s nm s st fun fl st => match fl with
    | .next => evSs r nm ss st k
    | .brk => k .brk st
    | .cont => k .cont st
    | .ret v => k (.ret v) st
/-- what an attribute may be read of: a name, an attribute, an item, a call with arguments -/
noncomputable def baseOk : Expr → Bool
  | .Name _ _ => true
  | .Attribute _ _ _ => true
  | .Subscript _ _ _ => true
  | .Call _ (_ :: _) _ _ => true
  | _ => false
/-- the arguments hold no starred one -/
noncomputable def noStars : List Expr → Bool
  | [] => true
  | e :: r => match isStar e with
    | true => false
    | false => noStars r
noncomputable def noArgs : List Expr → Bool
  | [] => true
  | _ :: _ => false
/-- what may be called by name -/
noncomputable def calleeOk (f : AV) (args : List Expr) (k : Dt) : Dt := match f with
  | .old a => match lookF a with
    | some _ => k
    | Option.none => .bad
  | .bi _ => match noArgs args with
    | true => .bad
    | false => k
  | _ => .bad
/-- what may be called as a method -/
noncomputable def methOk (f : AV) (k : Dt) : Dt := match f with
  | .old a => match lookF a with
    | some _ => k
    | Option.none => .bad
  | .bi b => match b with
    | .append => k
    | .pop => k
    | _ => .bad
  | _ => .bad
/-- a method's call in its common form: at most 29 arguments, the name on the call's own line -/
noncomputable def methForm (o : Expr) (args : List Expr) (l l' : Nat) : Bool := match baseOk o with
  | true => match Nat.beq l l' with
    | true => Nat.ble (lenL args) 29
    | false => false
  | false => false
noncomputable def evCall (r : Ev) (nm : Names) (f : Expr) (args : List Expr) (kws : List Keyword) (line : Nat) (st : St) (k : K1) : Dt := match kws with
  | [] => match noStars args with
    | false => .bad
    | true => match f with
      | .Attribute o m ap => match methForm o args ap.endLine line with
        | true => r.e nm o st fun ov st => opMeth ov m st fun fv first st => methOk fv <| evEs r nm args st fun vs st => appK first vs fun all => r.c fv all st k
        | false => .bad
      | .Name x p => r.e nm (.Name x p) st fun fv st => calleeOk fv args <| evEs r nm args st fun vs st => r.c fv vs st k
      | _ => .bad
  | _ :: _ => .bad
noncomputable def evPart (r : Ev) (nm : Names) (e : Option Expr) (st : St) (k : K1) : Dt := match e with
  | Option.none => k .none st
  | some e => r.e nm e st k
noncomputable def evSub (r : Ev) (nm : Names) (o i : Expr) (st : St) (k : K1) : Dt := match i with
  | .Slice lo up stp _ => match stp with
    | Option.none => r.e nm o st fun ov st => evPart r nm lo st fun a st => evPart r nm up st fun b st => opSlice ov a b st k
    | some _ => .bad
  | .ListComp _ _ _ _ => .bad
  | i => r.e nm o st fun ov st => r.e nm i st fun iv st => opItem ov iv st k
/-- the names of a comprehension: free names that are cells around it are cells -/
noncomputable def relab (nm : Names) : Names → Names
  | [] => []
  | p :: r => (match p.2 with
    | .free => match look p.1 nm with
      | some .cell => (p.1, .cell)
      | _ => p
    | _ => p) :: relab nm r
noncomputable def compCells (cl : List (Str × Nat)) : Names → List (Str × Nat) → Option (List (Str × Nat))
  | [], acc => some acc
  | p :: r, acc => match p.2 with
    | .free => match look p.1 cl with
      | some h => compCells cl r ((p.1, h) :: acc)
      | Option.none => Option.none
    | _ => compCells cl r acc
noncomputable def namesOk : Names → Bool
  | [] => true
  | p :: r => match p.2 with
    | .local => match look p.1 r with
      | Option.none => namesOk r
      | some _ => false
    | .cell => false
    | _ => match look p.1 r with
      | Option.none => namesOk r
      | some _ => false
noncomputable def isFn : ScopeKind → Bool
  | .function => true
  | _ => false
noncomputable def evComp1 (r : Ev) (nm : Names) (elt : Expr) (x : Str) (iter : Expr) (ifs : List Expr) (sc : Scope) (st : St) (k : Nat → Nat → St → Dt) : Dt := match isSet iter with
  | true => .bad
  | false => match isFn sc.kind with
    | false => .bad
    | true => match namesOk sc.names with
      | false => .bad
      | true => match look x sc.names with
        | some .local => match compCells st.cl sc.names [] with
          | Option.none => .bad
          | some _ => r.e nm iter st fun v st => opIter v st fun hI st => allocK (.list []) st fun hA st => allocK (.ns []) st fun hC st => match st with
          | ⟨n, hp, nS, nT, fr, cl, cf⟩ => match cf with
            | some _ => .bad
            | Option.none => match compCells cl sc.names [] with
              | some cl' => r.l (relab nm sc.names) elt x ifs hI hA ⟨n, hp, nS, nT, fr, cl', some hC⟩ fun st => match st with
                | ⟨n, hp, nS, nT, fr, _, _⟩ => k hA hC ⟨n, hp, nS, nT, fr, cl, Option.none⟩
              | Option.none => .bad
        | _ => .bad
noncomputable def evComp (r : Ev) (nm : Names) (elt : Expr) (gens : List Comprehension) (sc : Scope) (st : St) (k : Nat → Nat → St → Dt) : Dt := match gens with
  | [⟨.Name x _, iter, ifs, .ofNat 0⟩] => evComp1 r nm elt x iter ifs sc st k
  | _ => .bad
/-- the comprehension's own names are let go -/
noncomputable def dropK (h : Nat) (st : St) (k : St → Dt) : Dt := match objAt h st with
  | some (.ns _) => putK h .any st k
  | _ => .bad
noncomputable def evE (r : Ev) (nm : Names) (e : Expr) (st : St) (k : K1) : Dt := match e with
  | .Constant c _ _ => evConst c st k
  | .Name x _ => evName nm x st k
  | .Attribute o a _ => match baseOk o with
    | true => r.e nm o st fun v st => opAttr a v st k
    | false => .bad
  | .Call f args kws pos => evCall r nm f args kws pos.line st k
  | .List es _ => evEs r nm es st fun vs st => okL vs <| allocV (.list vs) st k
  | .Tuple es _ _ => evEs r nm es st fun vs st => okL vs <| allocV (.tuple vs) st k
  | .BinOp l op rt _ => r.e nm l st fun a st => r.e nm rt st fun b st => opBin op a b st k
  | .UnaryOp op x _ => r.e nm x st fun a st => opUn op a st k
  | .Compare l ops cs _ => match ops with
    | [op] => match cs with
      | [c] => match isSet c with
        | true => .bad
        | false => r.e nm l st fun a st => r.e nm c st fun b st => opCmp op a b st k
      | _ => .bad
    | _ => .bad
  | .IfExp t b o _ => r.t nm t st fun c st => match c with
    | true => r.e nm b st k
    | false => r.e nm o st k
  | .Subscript o i _ => evSub r nm o i st k
  | .ListComp elt gens sc _ => evComp r nm elt gens sc st fun h hC st => dropK hC st fun st => k (.ref h) st
  | .Dict ks vs _ => match ks with
    | [] => match vs with
      | [] => allocV (.idict []) st k
      | _ => .bad
    | _ => .bad
  | _ => .bad
noncomputable def evAnd (r : Ev) (nm : Names) : List Expr → St → (Bool → St → Dt) → Dt
  | [], st, k => k true st
  | e :: es, st, k => r.t nm e st fun c st => match c with
    | true => evAnd r nm es st k
    | false => k false st
noncomputable def evOr (r : Ev) (nm : Names) : List Expr → St → (Bool → St → Dt) → Dt
  | [], st, k => k false st
  | e :: es, st, k => r.t nm e st fun c st => match c with
    | true => k true st
    | false => evOr r nm es st k
noncomputable def evT (r : Ev) (nm : Names) (e : Expr) (st : St) (k : Bool → St → Dt) : Dt := match e with
  | .Compare l ops cs _ => match ops with
    | [op] => match cs with
      | [c] => match isSet c with
        | true => .bad
        | false => r.e nm l st fun a st => r.e nm c st fun b st => opCmp op a b st fun v st => truthyK v st k
      | _ => .bad
    | _ => .bad
  | .BoolOp op es _ => match op with
    | .And => evAnd r nm es st k
    | .Or => evOr r nm es st k
  | .Name x p => r.e nm (.Name x p) st fun v st => truthyK v st k
  | .Call f a ks p => r.e nm (.Call f a ks p) st fun v st => truthyK v st k
  | _ => .bad
noncomputable def stName (nm : Names) (x : Str) (v : AV) (st : St) (k : St → Dt) : Dt := match look x nm with
  | some .local => match st with
    | ⟨n, hp, nS, nT, fr, cl, cf⟩ => match cf with
      | Option.none => frSetK x v fr fun fr => k ⟨n, hp, nS, nT, fr, cl, Option.none⟩
      | some c => match hp.get c with
        | some (.ns fs) => frSetK x v fs fun fs => putK c (.ns fs) ⟨n, hp, nS, nT, fr, cl, some c⟩ k
        | _ => .bad
  | some .cell => match st with
    | ⟨n, hp, nS, nT, fr, cl, cf⟩ => match cf with
      | Option.none => match look x cl with
        | some h => match hp.get h with
          | some (.cell _) => putK h (.cell (some v)) ⟨n, hp, nS, nT, fr, cl, Option.none⟩ k
          | _ => .bad
        | Option.none => .bad
      | some _ => .bad
  | _ => .bad
noncomputable def stNames (nm : Names) : List Str → List AV → St → (St → Dt) → Dt
  | [], [], st, k => k st
  | x :: xs, v :: vs, st, k => stName nm x v st fun st => stNames nm xs vs st k
  | _, _, _, _ => .bad
noncomputable def nameList : List Expr → Option (List Str)
  | [] => some []
  | .Name x _ :: r => match nameList r with
    | some l => some (x :: l)
    | Option.none => Option.none
  | _ :: _ => Option.none
noncomputable def revK : List AV → List AV → (List AV → Dt) → Dt
  | [], acc, k => k acc
  | x :: r, acc, k => revK r (x :: acc) k
noncomputable def revS : List Str → List Str → List Str
  | [], acc => acc
  | x :: r, acc => revS r (x :: acc)
noncomputable def isTup : Expr → Bool
  | .Tuple _ _ _ => true
  | _ => false
/-- the one make of two names stored at once that the text has: «a, b = (x, y)», its items not both constants -/
noncomputable def swapOk (nm : Names) (ts vs : List Expr) : Bool := match ts with
  | [.Name a p, .Name b q] => match vs with
    | [v1, v2] => match isStar v1 || isStar v2 with
      | true => false
      | false => match look a nm, look b nm with
        | some .local, some .local => Nat.beq p.line q.line && !strEq a b && !(constantsAlone 8 v1 && constantsAlone 8 v2) && !(foldedForSure 8 v1 && foldedForSure 8 v2)
        | _, _ => false
    | _ => false
  | _ => false
noncomputable def hasName (x : Str) : Names → Bool
  | [] => false
  | p :: r => match strEq p.1 x with
    | true => match p.2 with
      | .local => true
      | .cell => true
      | _ => hasName x r
    | false => hasName x r
noncomputable def evAssign (r : Ev) (nm : Names) (tgt value : Expr) (pos : Pos) (st : St) (k : St → Dt) : Dt := match tgt with
  | .Name x p => match value with
    | .ListComp elt gens sc cp => match look x nm with
      | some .local => match Nat.beq cp.line pos.line && Nat.beq p.line cp.line && !hasName x sc.names with
        | true => evComp r nm elt gens sc st fun h hC st => stName nm x (.ref h) st fun st => dropK hC st k
        | false => .bad
      | _ => .bad
    | v => match isComp v with
      | true => .bad
      | false => r.e nm v st fun v st => stName nm x v st k
  | .Attribute o a _ => match isComp value with
    | true => .bad
    | false => r.e nm value st fun v st => r.e nm o st fun ov st => opSetAttr a ov v st k
  | .Subscript o i _ => match isComp value with
    | true => .bad
    | false => r.e nm value st fun v st => r.e nm o st fun ov st => r.e nm i st fun iv st => opSetItem ov iv v st k
  | .Tuple ts _ _ => match isComp value with
    | true => .bad
    | false => match nameList ts with
      | Option.none => .bad
      | some xs => match value with
        | .Tuple vs kk vp => match swapOk nm ts vs with
          | true => r.e nm (.Tuple vs kk vp) st fun v st => opUnpack (lenL xs) v st fun items st => revK items [] fun items => stNames nm (revS xs []) items st k
          | false => .bad
        | value => r.e nm value st fun v st => opUnpack (lenL xs) v st fun items st => stNames nm xs items st k
  | _ => .bad
noncomputable def plainV (v : AV) (k : Dt) : Dt := match v with
  | .ref _ => .bad
  | .old _ => .bad
  | _ => k
noncomputable def evStmt (r : Ev) (nm : Names) (s : Stmt) (st : St) (k : AF → St → Dt) : Dt := match s with
  | .Expr e _ => match isComp e with
    | true => .bad
    | false => r.e nm e st fun v st => plainV v (k .next st)
  | .Return v _ => match v with
    | some e => r.e nm e st fun v st => k (.ret v) st
    | Option.none => k (.ret .none) st
  | .If t b o _ => r.t nm t st fun c st => match c with
    | true => evSs r nm b st k
    | false => evSs r nm o st k
  | .While t b o _ => match o with
    | [] => r.w nm t b st k
    | _ => .bad
  | .For tgt it b o _ => match o with
    | [] => match tgt with
      | .Name x _ => match isSet it with
        | true => .bad
        | false => r.e nm it st fun v st => opIter v st fun hI st => r.f nm x hI b st k
      | _ => .bad
    | _ => .bad
  | .Continue _ => k .cont st
  | .Assign ts v p => match ts with
    | [t] => evAssign r nm t v p st fun st => k .next st
    | _ => .bad
  | .AugAssign t op v _ => match t with
    | .Attribute o a _ => r.e nm o st fun ov st => opAttr a ov st fun old st => r.e nm v st fun x st => opAug op old x st fun new st => opSetAttr a ov new st fun st => k .next st
    | _ => .bad
  | _ => .bad
noncomputable def zipRev : List Str → List AV → List (Str × AV) → Option (List (Str × AV))
  | [], [], acc => some acc
  | x :: xs, v :: vs, acc => zipRev xs vs ((x, v) :: acc)
  | _, _, _ => Option.none
/-- the bound names that are plain -/
noncomputable def plainOnes (nm : Names) : List (Str × AV) → List (Str × AV)
  | [] => []
  | p :: r => match look p.1 nm with
    | some .local => p :: plainOnes nm r
    | _ => plainOnes nm r
noncomputable def cellOnes : Names → List Str → List Str
  | [], acc => acc
  | p :: r, acc => match p.2 with
    | .cell => cellOnes r (p.1 :: acc)
    | _ => cellOnes r acc
noncomputable def mkCells (bs : List (Str × AV)) : List Str → St → (List (Str × Nat) → St → Dt) → Dt
  | [], st, k => k [] st
  | x :: xs, st, k => allocK (.cell (look x bs)) st fun h st => mkCells bs xs st fun cl st => k ((x, h) :: cl) st
noncomputable def callFn (r : Ev) (F : Fn) (args : List AV) (st : St) (k : K1) : Dt := match Nat.beq (lenL args) F.argc with
  | false => .bad
  | true => appK args F.extra fun all => match zipRev F.params all [] with
    | Option.none => .bad
    | some bs => match st with
      | ⟨n, hp, nS, nT, fr, cl, cf⟩ => mkCells bs (cellOnes F.scope.names []) ⟨n, hp, nS, nT, plainOnes F.scope.names bs, [], Option.none⟩ fun cl' st => match st with
        | ⟨n, hp, nS, nT, fr1, _, _⟩ => evSs r F.scope.names F.body ⟨n, hp, nS, nT, fr1, cl', Option.none⟩ fun fl st => match st with
          | ⟨n, hp, nS, nT, _, _, _⟩ => match fl with
            | .ret v => k v ⟨n, hp, nS, nT, fr, cl, cf⟩
            | .next => k .none ⟨n, hp, nS, nT, fr, cl, cf⟩
            | _ => .bad
noncomputable def evApply (r : Ev) (f : AV) (args : List AV) (st : St) (k : K1) : Dt := match f with
  | .old a => match lookF a with
    | some (.fn F) => callFn r F args st k
    | some (.cls init) => allocK (.dict []) st fun d st => allocK (.inst a d) st fun h st => callFn r init (.ref h :: args) st fun v st => match v with
      | .none => k (.ref h) st
      | _ => .bad
    | some .pick => opPick args st k
    | Option.none => .bad
  | .bi b => opBi b args st k
  | _ => .bad
noncomputable def evWhile (r : Ev) (nm : Names) (t : Expr) (b : List Stmt) (st : St) (k : AF → St → Dt) : Dt := r.t nm t st fun c st => match c with
  | true => evSs r nm b st fun fl st => match fl with
    | .next => r.w nm t b st k
    | .cont => r.w nm t b st k
    | .brk => k .next st
    | .ret v => k (.ret v) st
  | false => k .next st
noncomputable def evFor (r : Ev) (nm : Names) (x : Str) (hI : Nat) (b : List Stmt) (st : St) (k : AF → St → Dt) : Dt :=
  opNext hI st (fun st => k .next st) fun v st => stName nm x v st fun st => evSs r nm b st fun fl st => match fl with
    | .next => r.f nm x hI b st k
    | .cont => r.f nm x hI b st k
    | .brk => k .next st
    | .ret v => k (.ret v) st
noncomputable def evLoop (r : Ev) (nm : Names) (elt : Expr) (x : Str) (ifs : List Expr) (hI hA : Nat) (st : St) (k : St → Dt) : Dt :=
  opNext hI st k fun v st => stName nm x v st fun st => match ifs with
    | [] => r.e nm elt st fun y st => opBi .append [.ref hA, y] st fun _ st => r.l nm elt x [] hI hA st k
    | [c] => r.t nm c st fun ok st => match ok with
      | true => r.e nm elt st fun y st => opBi .append [.ref hA, y] st fun _ st => r.l nm elt x [c] hI hA st k
      | false => r.l nm elt x [c] hI hA st k
    | _ => .bad
noncomputable def evStep (r : Ev) : Ev where
  e := evE r
  t := evT r
  s := evStmt r
  c := evApply r
  w := evWhile r
  f := evFor r
  l := evLoop r
noncomputable def evZero : Ev where
  e := fun _ _ _ _ => .bad
  t := fun _ _ _ _ => .bad
  s := fun _ _ _ _ => .bad
  c := fun _ _ _ _ => .bad
  w := fun _ _ _ _ _ => .bad
  f := fun _ _ _ _ _ _ => .bad
  l := fun _ _ _ _ _ _ _ _ => .bad
noncomputable def run : Nat → Ev
  | 0 => evZero
  | n + 1 => evStep (run n)
end Mine

namespace Mine
open PySem PySem.W PyProof.Rows

inductive All2 {α β : Type} (R : α → β → Prop) : List α → List β → Prop
  | nil : All2 R [] []
  | cons {a b l r} : R a b → All2 R l r → All2 R (a :: l) (b :: r)
theorem All2.mono {α β : Type} {R R' : α → β → Prop} (h : ∀ a b, R a b → R' a b) : ∀ {l : List α} {r : List β}, All2 R l r → All2 R' l r
  | _, _, .nil => .nil
  | _, _, .cons x y => .cons (h _ _ x) (y.mono h)
theorem All2.length {α β : Type} {R : α → β → Prop} : ∀ {l : List α} {r : List β}, All2 R l r → l.length = r.length
  | _, _, .nil => rfl
  | _, _, .cons _ y => by simp [y.length]
theorem All2.append {α β : Type} {R : α → β → Prop} : ∀ {l l' : List α} {r r' : List β}, All2 R l r → All2 R l' r' → All2 R (l ++ l') (r ++ r')
  | _, _, _, _, .nil, h => h
  | _, _, _, _, .cons x y, h => .cons x (y.append h)
theorem All2.get {α β : Type} {R : α → β → Prop} : ∀ {l : List α} {r : List β}, All2 R l r → ∀ {i : Nat} {a : α}, l[i]? = some a → ∃ b, r[i]? = some b ∧ R a b
  | _, _, .nil, i, a, h => by simp at h
  | _, _, .cons x y, 0, a, h => by simp at h; subst h; exact ⟨_, rfl, x⟩
  | _, _, .cons x y, i + 1, a, h => by
    simp only [List.getElem?_cons_succ] at h ⊢
    exact y.get h
theorem All2.get_none {α β : Type} {R : α → β → Prop} {l : List α} {r : List β} (h : All2 R l r) {i : Nat} (e : l[i]? = none) : r[i]? = none := by
  have := h.length
  rw [List.getElem?_eq_none_iff] at e ⊢
  omega
theorem All2.set {α β : Type} {R : α → β → Prop} : ∀ {l : List α} {r : List β}, All2 R l r → ∀ (i : Nat) {a : α} {b : β}, R a b → All2 R (l.set i a) (r.set i b)
  | _, _, .nil, _, _, _, _ => .nil
  | _, _, .cons x y, 0, _, _, h => .cons h y
  | _, _, .cons x y, i + 1, _, _, h => .cons x (y.set i h)
theorem All2.drop {α β : Type} {R : α → β → Prop} : ∀ (n : Nat) {l : List α} {r : List β}, All2 R l r → All2 R (l.drop n) (r.drop n)
  | 0, _, _, h => h
  | _ + 1, _, _, .nil => .nil
  | n + 1, _, _, .cons _ y => y.drop n
theorem All2.take {α β : Type} {R : α → β → Prop} : ∀ (n : Nat) {l : List α} {r : List β}, All2 R l r → All2 R (l.take n) (r.take n)
  | 0, _, _, _ => .nil
  | _ + 1, _, _, .nil => .nil
  | n + 1, _, _, .cons x y => .cons x (y.take n)
theorem All2.reverse {α β : Type} {R : α → β → Prop} : ∀ {l : List α} {r : List β}, All2 R l r → All2 R l.reverse r.reverse
  | _, _, .nil => .nil
  | _, _, .cons x y => by
    rw [List.reverse_cons, List.reverse_cons]
    exact y.reverse.append (.cons x .nil)

/-! the small functions of the machine, as the library says them -/
theorem natsEq_iff : ∀ a b : List Nat, natsEq a b = true ↔ a = b
  | [], [] => by simp [natsEq]
  | [], _ :: _ => by simp [natsEq]
  | _ :: _, [] => by simp [natsEq]
  | a :: r, b :: t => by
    unfold natsEq
    cases h : Nat.beq a b with
    | true => simp [natsEq_iff r t, Nat.eq_of_beq_eq_true h]
    | false =>
      have := Nat.ne_of_beq_eq_false h
      simp [this]
theorem strEq_iff (a b : Str) : strEq a b = true ↔ a = b := by
  unfold strEq
  rw [natsEq_iff]
  cases a; cases b
  simp [Array.toList_inj]
theorem strEq_self (a : Str) : strEq a a = true := (strEq_iff a a).mpr rfl
theorem strEq_false {a b : Str} (h : strEq a b = false) : a ≠ b := fun e => by rw [e, strEq_self] at h; cases h
theorem strEq_beq (a b : Str) : strEq a b = (a == b) := by
  rw [Bool.eq_iff_iff, strEq_iff, beq_iff_eq]
theorem look_eq {α : Type} (x : Str) : ∀ l : List (Str × α), look x l = l.lookup x
  | [] => rfl
  | p :: r => by
    obtain ⟨y, v⟩ := p
    unfold look
    rw [List.lookup_cons, strEq_beq]
    cases x == y <;> simp [look_eq x r]
theorem lenL_eq {α : Type} : ∀ l : List α, lenL l = l.length
  | [] => rfl
  | _ :: r => by simp [lenL, lenL_eq r]
theorem getL_eq {α : Type} : ∀ (l : List α) (i : Nat), Mine.getL l i = l[i]?
  | [], _ => by simp [Mine.getL]
  | x :: r, 0 => by simp [Mine.getL]
  | x :: r, i + 1 => by simp [Mine.getL, getL_eq r i]
theorem dropL_eq : ∀ (n : Nat) (l : List AV), dropL n l = l.drop n
  | 0, _ => rfl
  | _ + 1, [] => rfl
  | n + 1, _ :: r => dropL_eq n r
theorem appK_eq : ∀ (xs ys : List AV) (k : List AV → Dt), appK xs ys k = k (xs ++ ys)
  | [], _, _ => rfl
  | x :: r, ys, k => by simp [appK, appK_eq r ys]
theorem takeK_eq : ∀ (n : Nat) (l : List AV) (k : List AV → Dt), takeK n l k = k (l.take n)
  | 0, _, _ => by simp [takeK]
  | _ + 1, [], _ => by simp [takeK]
  | n + 1, x :: r, k => by simp [takeK, takeK_eq n r]
theorem listSetK_tr (v : AV) : ∀ (l : List AV) (i : Nat) (k : List AV → Dt), (listSetK v l i k).Tr → (k (l.set i v)).Tr
  | [], _, _, h => h.elim
  | x :: r, 0, k, h => h
  | x :: r, i + 1, k, h => listSetK_tr v r i _ h
theorem natK_eq (n : Nat) (k : Nat → Dt) : natK n k = k n := by cases n <;> rfl
theorem intK_eq (i : Int) (k : Int → Dt) : intK i k = k i := by cases i <;> simp [intK, natK_eq]
theorem boolK_eq (b : Bool) (k : Bool → Dt) : boolK b k = k b := by cases b <;> rfl
theorem intEq_iff (i j : Int) : intEq i j = true ↔ i = j := PySem.W.Z.eqB_iff i j
theorem intLt_iff (i j : Int) : intLt i j = true ↔ i < j := PySem.W.Z.ltB_iff i j
theorem intEq_beq (i j : Int) : intEq i j = (i == j) := by rw [Bool.eq_iff_iff, intEq_iff, beq_iff_eq]
theorem intLt_dec (i j : Int) : intLt i j = decide (i < j) := by rw [Bool.eq_iff_iff, intLt_iff, decide_eq_true_iff]

theorem Tr.get_node {α : Type} (v : Option α) (l r : Tr α) (i : Nat) : (Tr.node v l r).get i = if i = 0 then v else if i % 2 = 1 then l.get (i / 2) else r.get (i / 2 - 1) := by
  show (match Nat.beq i 0 with | true => v | false => match Nat.beq (i % 2) 1 with | true => l.get (i / 2) | false => r.get (i / 2 - 1)) = _
  cases h : Nat.beq i 0 with
  | true => simp [Nat.eq_of_beq_eq_true h]
  | false =>
    have h' := Nat.ne_of_beq_eq_false h
    cases q : Nat.beq (i % 2) 1 with
    | true => simp [h', Nat.eq_of_beq_eq_true q]
    | false => simp [h', Nat.ne_of_beq_eq_false q]
theorem Tr.get_set {α : Type} (o : α) : ∀ (d : Nat) (t : Tr α) (i j : Nat) (x : α), (Tr.set o d t i).get j = some x → (j = i ∧ x = o) ∨ (j ≠ i ∧ t.get j = some x)
  | 0, t, i, j, x, h => by cases h
  | d + 1, .nil, i, j, x, h => by
    unfold Tr.set at h
    cases e : Nat.beq i 0 with
    | true =>
      rw [e] at h
      have e := Nat.eq_of_beq_eq_true e
      dsimp only at h
      rw [Tr.get_node] at h
      by_cases hj : j = 0
      · rw [if_pos hj] at h; exact .inl ⟨by omega, (Option.some.inj h).symm⟩
      · rw [if_neg hj] at h; split at h <;> cases h
    | false =>
      rw [e] at h
      have e := Nat.ne_of_beq_eq_false e
      dsimp only at h
      cases q : Nat.beq (i % 2) 1 with
      | true =>
        rw [q] at h
        have q := Nat.eq_of_beq_eq_true q
        dsimp only at h
        rw [Tr.get_node] at h
        by_cases hj : j = 0
        · rw [if_pos hj] at h; cases h
        · rw [if_neg hj] at h
          by_cases p : j % 2 = 1
          · rw [if_pos p] at h
            rcases Tr.get_set o d _ _ _ _ h with ⟨a, b⟩ | ⟨a, b⟩
            · exact .inl ⟨by omega, b⟩
            · cases b
          · rw [if_neg p] at h; cases h
      | false =>
        rw [q] at h
        have q := Nat.ne_of_beq_eq_false q
        dsimp only at h
        rw [Tr.get_node] at h
        by_cases hj : j = 0
        · rw [if_pos hj] at h; cases h
        · rw [if_neg hj] at h
          by_cases p : j % 2 = 1
          · rw [if_pos p] at h; cases h
          · rw [if_neg p] at h
            rcases Tr.get_set o d _ _ _ _ h with ⟨a, b⟩ | ⟨a, b⟩
            · exact .inl ⟨by omega, b⟩
            · cases b
  | d + 1, .node v l r, i, j, x, h => by
    unfold Tr.set at h
    cases e : Nat.beq i 0 with
    | true =>
      rw [e] at h
      have e := Nat.eq_of_beq_eq_true e
      dsimp only at h
      rw [Tr.get_node] at h ⊢
      by_cases hj : j = 0
      · rw [if_pos hj] at h; exact .inl ⟨by omega, (Option.some.inj h).symm⟩
      · rw [if_neg hj] at h ⊢; exact .inr ⟨by omega, h⟩
    | false =>
      rw [e] at h
      have e := Nat.ne_of_beq_eq_false e
      dsimp only at h
      cases q : Nat.beq (i % 2) 1 with
      | true =>
        rw [q] at h
        have q := Nat.eq_of_beq_eq_true q
        dsimp only at h
        rw [Tr.get_node] at h ⊢
        by_cases hj : j = 0
        · rw [if_pos hj] at h ⊢; exact .inr ⟨by omega, h⟩
        · rw [if_neg hj] at h ⊢
          by_cases p : j % 2 = 1
          · rw [if_pos p] at h ⊢
            rcases Tr.get_set o d _ _ _ _ h with ⟨a, b⟩ | ⟨a, b⟩
            · exact .inl ⟨by omega, b⟩
            · exact .inr ⟨by omega, b⟩
          · rw [if_neg p] at h ⊢; exact .inr ⟨by omega, h⟩
      | false =>
        rw [q] at h
        have q := Nat.ne_of_beq_eq_false q
        dsimp only at h
        rw [Tr.get_node] at h ⊢
        by_cases hj : j = 0
        · rw [if_pos hj] at h ⊢; exact .inr ⟨by omega, h⟩
        · rw [if_neg hj] at h ⊢
          by_cases p : j % 2 = 1
          · rw [if_pos p] at h ⊢; exact .inr ⟨by omega, h⟩
          · rw [if_neg p] at h ⊢
            rcases Tr.get_set o d _ _ _ _ h with ⟨a, b⟩ | ⟨a, b⟩
            · exact .inl ⟨by omega, b⟩
            · exact .inr ⟨by omega, b⟩
theorem Tr.setK_eq {α : Type} (o : α) : ∀ (d : Nat) (t : Tr α) (i : Nat) (k : Tr α → Dt), Tr.setK o d t i k = k (Tr.set o d t i)
  | 0, _, _, _ => rfl
  | d + 1, .nil, i, k => by
    unfold Tr.setK Tr.set
    cases Nat.beq i 0 with
    | true => rfl
    | false => cases Nat.beq (i % 2) 1 <;> simp [Tr.setK_eq o d]
  | d + 1, .node v l r, i, k => by
    unfold Tr.setK Tr.set
    cases Nat.beq i 0 with
    | true => rfl
    | false => cases Nat.beq (i % 2) 1 <;> simp [Tr.setK_eq o d]

noncomputable def stAlloc (o : AO) (st : St) : St := { st with n := st.n + 1, hp := Tr.set o deep st.hp st.n }
noncomputable def stPut (h : Nat) (o : AO) (st : St) : St := { st with hp := Tr.set o deep st.hp h }
theorem allocK_eq (o : AO) (st : St) (k : Nat → St → Dt) : allocK o st k = k st.n (stAlloc o st) := by
  obtain ⟨n, hp, nS, nT, fr, cl, cf⟩ := st
  simp [allocK, Tr.setK_eq, natK_eq, stAlloc]
theorem putK_eq (h : Nat) (o : AO) (st : St) (k : St → Dt) : putK h o st k = k (stPut h o st) := by
  obtain ⟨n, hp, nS, nT, fr, cl, cf⟩ := st
  simp [putK, Tr.setK_eq, stPut]
theorem objAt_eq (h : Nat) (st : St) : objAt h st = st.hp.get h := rfl
theorem frSetK_eq (x : Str) (v : AV) : ∀ (l : List (Str × AV)) (k : List (Str × AV) → Dt), frSetK x v l k = k (frSet x v l)
  | [], _ => rfl
  | p :: r, k => by
    unfold frSetK frSet
    cases strEq x p.1 with
    | true => rfl
    | false => simp [frSetK_eq x v r]
theorem look_frSet (x : Str) (v : AV) (y : Str) : ∀ l : List (Str × AV), look y (frSet x v l) = if y = x then some v else look y l
  | [] => by
    unfold frSet look
    cases h : strEq y x with
    | true => simp [(strEq_iff _ _).mp h]
    | false => simp [strEq_false h, look]
  | p :: r => by
    have ih := look_frSet x v y r
    unfold frSet
    cases h : strEq x p.1 with
    | true =>
      have h := (strEq_iff _ _).mp h
      dsimp only
      unfold look
      cases q : strEq y p.1 with
      | true => simp [(strEq_iff _ _).mp q, h]
      | false =>
        have q := strEq_false q
        rw [h]
        simp [q]
    | false =>
      have h := strEq_false h
      dsimp only
      unfold look
      cases q : strEq y p.1 with
      | true =>
        have q := (strEq_iff _ _).mp q
        have : y ≠ x := fun e => h (e ▸ q)
        simp [this]
      | false => simpa using ih
end Mine

namespace Mine
open PySem PySem.W PyProof.Rows

/-! what the machine's values and objects mean -/
structure Gh where
  ρ : List Addr
  S : List Str
  T : List Nat
structure Gh.Le (G G' : Gh) : Prop where
  r : G.ρ <+: G'.ρ
  s : G.S <+: G'.S
  t : G.T <+: G'.T
theorem Gh.Le.refl (G : Gh) : G.Le G := ⟨List.prefix_refl _, List.prefix_refl _, List.prefix_refl _⟩
theorem Gh.Le.trans {G G' G'' : Gh} (a : G.Le G') (b : G'.Le G'') : G.Le G'' := ⟨a.r.trans b.r, a.s.trans b.s, a.t.trans b.t⟩
theorem pre_get {α : Type} {l l' : List α} (h : l <+: l') {i : Nat} {a : α} (e : l[i]? = some a) : l'[i]? = some a := by
  obtain ⟨t, rfl⟩ := h
  have hi := (List.getElem?_eq_some_iff.mp e).1
  rw [List.getElem?_append_left hi]; exact e

noncomputable def VR (G : Gh) : AV → Value → Prop
  | .none, v => v = .none
  | .bool b, v => v = .bool b
  | .int i, v => ∃ t, v = .int i t
  | .str s, v => ∃ t, v = .str s t
  | .sym j, v => ∃ s t, G.S[j]? = some s ∧ v = .str s t ∧ PyData.strOk s = true
  | .rng b, v => ∃ (i : Nat) (t : Tok), v = .int (i : Int) t ∧ i < b
  | .len k j, v => ∃ n t, G.T[j]? = some n ∧ n ≤ 1000 ∧ v = .int ((k + n : Nat) : Int) t
  | .ref h, v => ∃ a, G.ρ[h]? = some a ∧ v = .ref a
  | .old a, v => v = .ref a
  | .bi b, v => v = b.val
theorem VR.mono {G G' : Gh} (h : G.Le G') : ∀ {a : AV} {v : Value}, VR G a v → VR G' a v
  | .none, _, e => e
  | .bool _, _, e => e
  | .int _, _, e => e
  | .str _, _, e => e
  | .sym _, _, ⟨s, t, e, q⟩ => ⟨s, t, pre_get h.s e, q⟩
  | .rng _, _, e => e
  | .len _ _, _, ⟨n, t, e, b, q⟩ => ⟨n, t, pre_get h.t e, b, q⟩
  | .ref _, _, ⟨a, e, q⟩ => ⟨a, pre_get h.r e, q⟩
  | .old _, _, e => e
  | .bi _, _, e => e
noncomputable abbrev VRs (G : Gh) := All2 (VR G)
theorem VRs.mono {G G' : Gh} (h : G.Le G') {l : List AV} {r : List Value} (x : VRs G l r) : VRs G' l r := All2.mono (fun _ _ e => e.mono h) x
noncomputable def FrR (G : Gh) (fr : List (Str × AV)) (m : Str → Option Value) : Prop := ∀ x a, look x fr = some a → ∃ v, m x = some v ∧ VR G a v
theorem FrR.mono {G G' : Gh} (h : G.Le G') {fr : List (Str × AV)} {m : Str → Option Value} (x : FrR G fr m) : FrR G' fr m := fun y a e => let ⟨v, q, z⟩ := x y a e; ⟨v, q, z.mono h⟩
theorem FrR.set {G : Gh} {fr : List (Str × AV)} {m : Str → Option Value} (F : FrR G fr m) (x : Str) {a : AV} {v : Value} (h : VR G a v) : FrR G (frSet x a fr) (fun y => if y = x then some v else m y) := fun y b e => by
  rw [look_frSet] at e
  by_cases q : y = x
  · rw [if_pos q] at e; cases e; exact ⟨v, by simp [q], h⟩
  · rw [if_neg q] at e
    obtain ⟨u, h1, h2⟩ := F y b e
    exact ⟨u, by simp [q, h1], h2⟩
noncomputable def ER (G : Gh) (f : Str × AV) (e : DictEntry) : Prop := (∃ t, e.key = .str f.1 t) ∧ VR G f.2 e.val
noncomputable def CR (G : Gh) : Option AV → Option Value → Prop
  | none, v => True
  | some a, v => ∃ u, v = some u ∧ VR G a u

section
variable (prog : Program) (w : World)
noncomputable def OR (G : Gh) : AO → Addr → Obj → Prop
  | .list xs, _, o => ∃ vs n, o = W.listOf vs.toArray n ∧ VRs G xs vs
  | .listT xs j, _, o => ∃ vs tl n, o = W.listOf (vs ++ tl).toArray n ∧ VRs G xs vs ∧ G.T[j]? = some tl.length ∧ tl.length ≤ 1000
  | .nones k j, _, o => ∃ m n, o = W.listOf (List.replicate (k + m) Value.none).toArray n ∧ G.T[j]? = some m ∧ m ≤ 1000
  | .tuple xs, _, o => ∃ vs n, o = { cls := .type "tuple", data := .seq vs.toArray n } ∧ VRs G xs vs
  | .inst C d, _, o => ∃ dx, G.ρ[d]? = some dx ∧ o = instObj C dx
  | .dict fs, _, o => ∃ es n, o = dictOf es n ∧ All2 (ER G) fs es
  | .idict ks, a, o => (a == sysModules) = false ∧ ∃ kvs D, Obj.IsDictOf (intKind prog w) o kvs ∧ PyProof.V.FlatPairs PyData.int kvs D ∧ (∀ i, (Spec.lookup (PyData.int i) D).isSome = anyInt i ks) ∧ D.length ≤ ks.length
  | .range a b c, _, o => ∃ t u v, o = { cls := .type "range", data := .fields #[.int a t, .int b u, .int c v] }
  | .riter x l s, _, o => o = { cls := .type "range_iterator", data := .fields #[rawInt x, rawInt l, rawInt s] }
  | .liter l i, _, o => ∃ al, G.ρ[l]? = some al ∧ o.cls = .type "list_iterator" ∧ o.data = .fields #[.ref al, .int (i : Int) 0]
  | .cell v, _, o => ∃ u, o.data = .cell u ∧ CR G v u
  | .ns fs, _, o => ∃ es ep, o.data = .dict es ep ∧ StrKeys es ∧ FrR G fs (nsFind es)
  | .pool g, _, o => ∃ fa k m t u n, G.ρ[g]? = some fa ∧ o = W.listOf #[.ref fa, .int k t, .int m u] n ∧ 0 ≤ k ∧ k ≤ 2000 ∧ 0 ≤ m ∧ m < 1009
  | .figs, _, o => ∃ vs ns n, o = W.listOf vs.toArray n ∧ IntsAre vs ns ∧ ns.length ≤ 1000 ∧ (∀ i ∈ ns, 0 ≤ i ∧ i < 840)
  | .any, _, _ => True
noncomputable def AO.isAny : AO → Bool
  | .any => true
  | _ => false
theorem CR.mono {G G' : Gh} (h : G.Le G') : ∀ {a : Option AV} {v : Option Value}, CR G a v → CR G' a v
  | none, _, _ => trivial
  | some _, _, ⟨u, e, q⟩ => ⟨u, e, q.mono h⟩
theorem OR.mono {G G' : Gh} (h : G.Le G') : ∀ {o : AO} {a : Addr} {c : Obj}, OR prog w G o a c → OR prog w G' o a c
  | .list _, _, _, ⟨vs, n, e, q⟩ => ⟨vs, n, e, q.mono h⟩
  | .listT _ _, _, _, ⟨vs, tl, n, e, q, r, b⟩ => ⟨vs, tl, n, e, q.mono h, pre_get h.t r, b⟩
  | .nones _ _, _, _, ⟨m, n, e, q, b⟩ => ⟨m, n, e, pre_get h.t q, b⟩
  | .tuple _, _, _, ⟨vs, n, e, q⟩ => ⟨vs, n, e, q.mono h⟩
  | .inst _ _, _, _, ⟨dx, e, q⟩ => ⟨dx, pre_get h.r e, q⟩
  | .dict _, _, _, ⟨es, n, e, q⟩ => ⟨es, n, e, All2.mono (fun _ _ x => ⟨x.1, x.2.mono h⟩) q⟩
  | .idict _, _, _, e => e
  | .range _ _ _, _, _, e => e
  | .riter _ _ _, _, _, e => e
  | .liter _ _, _, _, ⟨al, e, q⟩ => ⟨al, pre_get h.r e, q⟩
  | .cell _, _, _, ⟨u, e, q⟩ => ⟨u, e, q.mono h⟩
  | .ns _, _, _, ⟨es, ep, e, k, q⟩ => ⟨es, ep, e, k, q.mono h⟩
  | .pool _, _, _, ⟨fa, k, m, t, u, n, e, q⟩ => ⟨fa, k, m, t, u, n, pre_get h.r e, q⟩
  | .figs, _, _, e => e
  | .any, _, _, _ => trivial

/-- where the walk stands: the call's own frame, and the block at hand (the frame's, or a comprehension's) -/
structure Cx where
  A : Around
  A₀ : Around
  base : Heap
  h₀ : Heap
  outer : List Env
  fenv : Env
  L : Addr
  env : Env
  gens : Array GenState
  drawn : Drawn
  os : OsState
variable (K : Frag) (p : Program) (loose : List Str) (mean : ExcName → Option Value) (mg mb : Str → Option Value)
structure CxOk (c : Cx) (n : Nat) : Prop where
  B : Below c.A₀ c.base c.outer c.h₀
  X : K.In c.h₀
  T : Top p loose mean mg mb c.h₀
  hA : c.A.frames = some (c.fenv :: c.outer)
  hf : c.fenv.frame = some c.L
  hfl : c.fenv.locals = c.L
  hk : c.fenv.scope.kind = .function
  hh : c.A.handled = none
  dep : c.A.depth + 2 * n + 8 < recursionLimit
  uni : c.A.units + 8 * n + 80 < cLine
  ek : c.env.scope.kind = .function
  eg : c.env.globals = mainGlobals

/-- an object of the state that is still known, at its address -/
structure HAt (G : Gh) (st : St) (news : List (Addr × Obj)) (h : Nat) (a : Addr) (co : Obj) : Prop where
  rho : G.ρ[h]? = some a
  mem : (a, co) ∈ news
  live : ∃ o, st.hp.get h = some o ∧ o.isAny = false
structure RelAt (c : Cx) (G : Gh) (st : St) (s : Shared) (m : Str → Option Value) (news : List (Addr × Obj)) : Prop where
  F : Fr c.h₀ c.L s.heap m
  N : News c.h₀ c.L s.heap news
  nd : (news.map (·.1)).Nodup
  n : G.ρ.length = st.n
  nS : G.S.length = st.nS
  nT : G.T.length = st.nT
  fr : FrR G st.fr m
  hp : ∀ i o, st.hp.get i = some o → o.isAny = false → ∃ a co, G.ρ[i]? = some a ∧ (a, co) ∈ news ∧ OR prog w G o a co
  inj : ∀ i j oi oj a, st.hp.get i = some oi → oi.isAny = false → st.hp.get j = some oj → oj.isAny = false → G.ρ[i]? = some a → G.ρ[j]? = some a → i = j
  cl : ∀ x h, look x st.cl = some h → ∃ a, c.env.cells.lookup x = some a ∧ G.ρ[h]? = some a
  cf : match st.cf with
    | none => c.env = c.fenv ∧ ∃ cn cs a ccd cl, c.fenv = envX cn cs c.L a ccd cl
    | some hC => ∃ a, G.ρ[hC]? = some a ∧ c.env.locals = a
  gens : s.gens = c.gens
  drawn : s.drawn = c.drawn
  os : s.os = c.os
noncomputable def Rel (c : Cx) (G : Gh) (st : St) (s : Shared) : Prop := ∃ m news, RelAt prog w c G st s m news
end

noncomputable def setN (news : List (Addr × Obj)) (a : Addr) (o' : Obj) : List (Addr × Obj) := news.map fun q => if q.1 = a then (a, o') else q
theorem mem_setN {news : List (Addr × Obj)} {a : Addr} {o' : Obj} {q : Addr × Obj} : q ∈ setN news a o' → q = (a, o') ∨ (q ∈ news ∧ q.1 ≠ a) := fun h => by
  obtain ⟨r, hr, rfl⟩ := List.mem_map.mp h
  by_cases e : r.1 = a
  · rw [if_pos e]; exact .inl rfl
  · rw [if_neg e]; exact .inr ⟨hr, e⟩
theorem setN_mem {news : List (Addr × Obj)} {a b : Addr} {o' ob : Obj} (h : (b, ob) ∈ news) (e : b ≠ a) : (b, ob) ∈ setN news a o' :=
  List.mem_map.mpr ⟨(b, ob), h, if_neg e⟩
theorem setN_self {news : List (Addr × Obj)} {a : Addr} {o o' : Obj} (h : (a, o) ∈ news) : (a, o') ∈ setN news a o' :=
  List.mem_map.mpr ⟨(a, o), h, if_pos rfl⟩
theorem setN_keys (news : List (Addr × Obj)) (a : Addr) (o' : Obj) : (setN news a o').map (·.1) = news.map (·.1) := by
  unfold setN
  rw [List.map_map]
  apply List.map_congr_left
  intro q _
  show (if q.1 = a then (a, o') else q).1 = q.1
  split
  · rename_i e; exact e.symm
  · rfl
theorem split_key {news : List (Addr × Obj)} (nd : (news.map (·.1)).Nodup) {a : Addr} {o : Obj} (h : (a, o) ∈ news) :
    ∃ pre post, news = pre ++ (a, o) :: post ∧ (∀ q ∈ pre, q.1 ≠ a) ∧ (∀ q ∈ post, q.1 ≠ a) := by
  obtain ⟨pre, post, sp⟩ := List.append_of_mem h
  subst sp
  rw [List.map_append, List.map_cons] at nd
  have nd' := List.nodup_append.mp nd
  refine ⟨pre, post, rfl, fun q hq => nd'.2.2 _ (List.mem_map_of_mem hq) _ (.head _), fun q hq e => ?_⟩
  have hm : q.1 ∈ post.map (·.1) := List.mem_map_of_mem hq
  rw [e] at hm
  exact (List.nodup_cons.mp nd'.2.1).1 hm
theorem setN_other {l : List (Addr × Obj)} {a : Addr} (o' : Obj) (h : ∀ q ∈ l, q.1 ≠ a) : setN l a o' = l := by
  unfold setN
  have : ∀ q ∈ l, (if q.1 = a then (a, o') else q) = id q := fun q hq => if_neg (h q hq)
  rw [List.map_congr_left this, List.map_id]
theorem setN_split {pre post : List (Addr × Obj)} {a : Addr} {o : Obj} (o' : Obj) (h1 : ∀ q ∈ pre, q.1 ≠ a) (h2 : ∀ q ∈ post, q.1 ≠ a) : setN (pre ++ (a, o) :: post) a o' = pre ++ (a, o') :: post := by
  have e1 := setN_other o' h1
  have e2 := setN_other o' h2
  unfold setN at e1 e2 ⊢
  rw [List.map_append, List.map_cons, e1, e2, if_pos rfl]

section
variable {prog : Program} {w : World} {c : Cx} {G : Gh} {st : St} {s : Shared} {m : Str → Option Value} {news : List (Addr × Obj)}
/-- an object of the state, at its address -/
theorem RelAt.obj (R : RelAt prog w c G st s m news) {h : Nat} {a : Addr} {o : AO} (ha : G.ρ[h]? = some a) (ho : objAt h st = some o) (hn : o.isAny = false := by rfl) :
    ∃ co, HAt G st news h a co ∧ (a, co) ∈ news ∧ OR prog w G o a co := by
  obtain ⟨a', co, e, hq, r⟩ := R.hp h o ho hn
  rw [ha] at e
  cases e
  exact ⟨co, ⟨ha, hq, o, ho, hn⟩, hq, r⟩
theorem RelAt.toks (R : RelAt prog w c G st s m news) (tk : Nat) : RelAt prog w c G st { s with toks := tk } m news := ⟨R.F, R.N, R.nd, R.n, R.nS, R.nT, R.fr, R.hp, R.inj, R.cl, R.cf, R.gens, R.drawn, R.os⟩
theorem RelAt.heap (R : RelAt prog w c G st s m news) {h' : Heap} (tk : Nat) (F : Fr c.h₀ c.L h' m) (N : News c.h₀ c.L h' news) : RelAt prog w c G st { s with heap := h', toks := tk } m news :=
  ⟨F, N, R.nd, R.n, R.nS, R.nT, R.fr, R.hp, R.inj, R.cl, R.cf, R.gens, R.drawn, R.os⟩
theorem RelAt.frame (R : RelAt prog w c G st s m news) {h' : Heap} {m' : Str → Option Value} {fr' : List (Str × AV)} (tk : Nat) (F : Fr c.h₀ c.L h' m') (N : News c.h₀ c.L h' news) (fr : FrR G fr' m') :
    RelAt prog w c G { st with fr := fr' } { s with heap := h', toks := tk } m' news :=
  ⟨F, N, R.nd, R.n, R.nS, R.nT, fr, R.hp, R.inj, R.cl, R.cf, R.gens, R.drawn, R.os⟩
noncomputable def Gh.push (G : Gh) (a : Addr) : Gh := { G with ρ := G.ρ ++ [a] }
theorem Gh.le_push (G : Gh) (a : Addr) : G.Le (G.push a) := ⟨List.prefix_append _ _, List.prefix_refl _, List.prefix_refl _⟩
theorem Gh.push_at (G : Gh) (a : Addr) : (G.push a).ρ[G.ρ.length]? = some a := by simp [Gh.push]
theorem push_inv {G : Gh} {D a : Addr} {i : Nat} (h : (G.push D).ρ[i]? = some a) : (i = G.ρ.length ∧ a = D) ∨ (i < G.ρ.length ∧ G.ρ[i]? = some a) := by
  unfold Gh.push at h
  dsimp only at h
  by_cases hi : i < G.ρ.length
  · rw [List.getElem?_append_left hi] at h; exact .inr ⟨hi, h⟩
  · have hb := (List.getElem?_eq_some_iff.mp h).1
    simp at hb
    have : i = G.ρ.length := by omega
    subst this
    simp at h
    exact .inl ⟨rfl, h.symm⟩
theorem RelAt.alloc (R : RelAt prog w c G st s m news) {h' : Heap} {D : Addr} {co : Obj} {o : AO} (tk : Nat) (F : Fr c.h₀ c.L h' m) (N : News c.h₀ c.L h' ((D, co) :: news)) (hlt : ∀ q ∈ news, q.1 ≠ D) (ho : OR prog w (G.push D) o D co) :
    RelAt prog w c (G.push D) (stAlloc o st) { s with heap := h', toks := tk } m ((D, co) :: news) ∧ G.Le (G.push D) ∧ (G.push D).ρ[st.n]? = some D := by
  have le := G.le_push D
  have hD : (G.push D).ρ[st.n]? = some D := R.n ▸ G.push_at D
  refine ⟨⟨F, N, ?_, ?_, R.nS, R.nT, R.fr.mono le, fun i x e hx => ?_, fun i j oi oj a hi hi' hj hj' ei ej => ?_, fun x h e => ?_, ?_, R.gens, R.drawn, R.os⟩, le, hD⟩
  · rw [List.map_cons]
    refine List.nodup_cons.mpr ⟨fun hm => ?_, R.nd⟩
    obtain ⟨q, hq, e⟩ := List.mem_map.mp hm
    exact hlt q hq e
  · show (G.ρ ++ [D]).length = st.n + 1
    simp [R.n]
  · rcases Tr.get_set _ _ _ _ _ _ e with ⟨h1, h2⟩ | ⟨h1, h2⟩
    · subst h1 h2
      exact ⟨D, co, hD, .head _, ho⟩
    · obtain ⟨a, cx, q1, q2, r⟩ := R.hp i x h2 hx
      exact ⟨a, cx, pre_get le.r q1, .tail _ q2, r.mono prog w le⟩
  · rcases Tr.get_set _ _ _ _ _ _ hi with ⟨h1, h2⟩ | ⟨h1, h2⟩
    · rcases Tr.get_set _ _ _ _ _ _ hj with ⟨k1, k2⟩ | ⟨k1, k2⟩
      · rw [h1, k1]
      · obtain ⟨b, cx, q1, q2, r⟩ := R.hp j oj k2 hj'
        have := pre_get le.r q1
        rw [ej] at this
        cases this
        rw [h1, hD] at ei
        cases ei
        exact absurd rfl (hlt _ q2)
    · rcases Tr.get_set _ _ _ _ _ _ hj with ⟨k1, k2⟩ | ⟨k1, k2⟩
      · obtain ⟨b, cx, q1, q2, r⟩ := R.hp i oi h2 hi'
        have := pre_get le.r q1
        rw [ei] at this
        cases this
        rw [k1, hD] at ej
        cases ej
        exact absurd rfl (hlt _ q2)
      · obtain ⟨b, cx, q1, q2, r⟩ := R.hp i oi h2 hi'
        obtain ⟨b', cx', q1', q2', r'⟩ := R.hp j oj k2 hj'
        have z := pre_get le.r q1
        rw [ei] at z
        cases z
        have z := pre_get le.r q1'
        rw [ej] at z
        cases z
        exact R.inj i j oi oj _ h2 hi' k2 hj' q1 q1'
  · obtain ⟨a, h1, h2⟩ := R.cl x h e
    exact ⟨a, h1, pre_get le.r h2⟩
  · have := R.cf
    show match st.cf with | none => _ | some hC => _
    cases hc : st.cf with
    | none => rw [hc] at this; exact this
    | some hC => rw [hc] at this; obtain ⟨a, h1, h2⟩ := this; exact ⟨a, pre_get le.r h1, h2⟩
theorem upd_append {d : Addr} {o o' : Obj} {post : List (Addr × Obj)} (h2 : ∀ q ∈ post, q.1 ≠ d) : ∀ {pre : List (Addr × Obj)}, (∀ q ∈ pre, q.1 ≠ d) → Upd d o o' (pre ++ (d, o) :: post) (pre ++ (d, o') :: post)
  | [], _ => .head h2
  | q :: r, h => .tail (h q (.head _)) (upd_append h2 fun x hx => h x (.tail _ hx))
theorem updF_append {d : Addr} {o : Obj} {post : List (Addr × Obj)} (h2 : ∀ q ∈ post, q.1 ≠ d) : ∀ {pre : List (Addr × Obj)}, (∀ q ∈ pre, q.1 ≠ d) → UpdF d o (pre ++ (d, o) :: post) (fun o' => pre ++ (d, o') :: post)
  | [], _ => .head h2
  | q :: r, h => .tail (h q (.head _)) (updF_append h2 fun x hx => h x (.tail _ hx))
theorem RelAt.upd (R : RelAt prog w c G st s m news) {i : Nat} {a : Addr} {o : Obj} (o' : Obj) (hi : HAt G st news i a o) : Upd a o o' news (setN news a o') := by
  obtain ⟨pre, post, sp, h1, h2⟩ := split_key R.nd hi.mem
  rw [sp, setN_split o' h1 h2]
  exact upd_append h2 h1
theorem RelAt.updF (R : RelAt prog w c G st s m news) {i : Nat} {a : Addr} {o : Obj} (hi : HAt G st news i a o) : UpdF a o news (fun o' => setN news a o') := by
  obtain ⟨pre, post, sp, h1, h2⟩ := split_key R.nd hi.mem
  have e : (fun o' : Obj => setN news a o') = fun o' => pre ++ (a, o') :: post := funext fun o' => by rw [sp]; exact setN_split o' h1 h2
  rw [e, sp]
  exact updF_append h2 h1
theorem RelAt.put (R : RelAt prog w c G st s m news) {h' : Heap} {i : Nat} {a : Addr} {co co' : Obj} {o : AO} (tk : Nat) (hi : HAt G st news i a co) (F : Fr c.h₀ c.L h' m) (N : News c.h₀ c.L h' (setN news a co')) (ho : OR prog w G o a co') :
    RelAt prog w c G (stPut i o st) { s with heap := h', toks := tk } m (setN news a co') := by
  obtain ⟨x0, hx0, hx0'⟩ := hi.live
  refine ⟨F, N, setN_keys news a co' ▸ R.nd, R.n, R.nS, R.nT, R.fr, fun j x e hx => ?_, fun j k oj ok b ej ej' ek ek' rj rk => ?_, R.cl, R.cf, R.gens, R.drawn, R.os⟩
  · rcases Tr.get_set _ _ _ _ _ _ e with ⟨h1, h2⟩ | ⟨h1, h2⟩
    · subst h1 h2
      exact ⟨a, co', hi.rho, setN_self hi.mem, ho⟩
    · obtain ⟨b, cb, q1, q2, r⟩ := R.hp j x h2 hx
      refine ⟨b, cb, q1, setN_mem q2 fun e => h1 ?_, r⟩
      subst e
      exact R.inj j i x x0 b h2 hx hx0 hx0' q1 hi.rho
  · rcases Tr.get_set _ _ _ _ _ _ ej with ⟨h1, h2⟩ | ⟨h1, h2⟩
    · rcases Tr.get_set _ _ _ _ _ _ ek with ⟨k1, k2⟩ | ⟨k1, k2⟩
      · rw [h1, k1]
      · subst h1; exact R.inj _ _ x0 ok b hx0 hx0' k2 ek' rj rk
    · rcases Tr.get_set _ _ _ _ _ _ ek with ⟨k1, k2⟩ | ⟨k1, k2⟩
      · subst k1; exact R.inj _ _ oj x0 b h2 ej' hx0 hx0' rj rk
      · exact R.inj _ _ oj ok b h2 ej' k2 ek' rj rk
theorem RelAt.putSame (R : RelAt prog w c G st s m news) {h' : Heap} {i : Nat} {a : Addr} {co co' : Obj} {o : AO} (tk : Nat) (hi : HAt G st news i a co) (eo : objAt i st = some o) (F : Fr c.h₀ c.L h' m) (N : News c.h₀ c.L h' (setN news a co')) (ho : OR prog w G o a co') :
    RelAt prog w c G st { s with heap := h', toks := tk } m (setN news a co') := by
  obtain ⟨x0, hx0, hx0'⟩ := hi.live
  refine ⟨F, N, setN_keys news a co' ▸ R.nd, R.n, R.nS, R.nT, R.fr, fun j x e hx => ?_, R.inj, R.cl, R.cf, R.gens, R.drawn, R.os⟩
  by_cases hj : j = i
  · subst hj
    have : some o = some x := eo.symm.trans e
    cases this
    exact ⟨a, co', hi.rho, setN_self hi.mem, ho⟩
  · obtain ⟨b, cb, q1, q2, r⟩ := R.hp j x e hx
    refine ⟨b, cb, q1, setN_mem q2 fun e' => hj ?_, r⟩
    subst e'
    exact R.inj j i x x0 b e hx hx0 hx0' q1 hi.rho
/-- an object is lost -/
theorem RelAt.drop (R : RelAt prog w c G st s m news) {h' : Heap} {i : Nat} {a : Addr} {co : Obj} (tk : Nat) (hi : HAt G st news i a co) (F : Fr c.h₀ c.L h' m) (hs : Heap.ExtBut a s.heap h') :
    RelAt prog w c G (stPut i .any st) { s with heap := h', toks := tk } m (news.filter fun q => q.1 != a) := by
  obtain ⟨x0, hx0, hx0'⟩ := hi.live
  have alive : ∀ j x, (stPut i .any st).hp.get j = some x → x.isAny = false → j ≠ i ∧ st.hp.get j = some x := fun j x e hx => by
    rcases Tr.get_set _ _ _ _ _ _ e with ⟨h1, h2⟩ | h
    · rw [h2] at hx; cases hx
    · exact h
  refine ⟨F, fun q hq => ?_, ?_, R.n, R.nS, R.nT, R.fr, fun j x e hx => ?_, fun j k oj ok b ej ej' ek ek' => ?_, R.cl, R.cf, R.gens, R.drawn, R.os⟩
  · obtain ⟨h1, h2⟩ := List.mem_filter.mp hq
    have ne : q.1 ≠ a := by simpa using h2
    exact ⟨hs _ _ ne (R.N q h1).1, (R.N q h1).2⟩
  · exact List.Nodup.sublist (List.Sublist.map _ List.filter_sublist) R.nd
  · obtain ⟨h1, h2⟩ := alive j x e hx
    obtain ⟨b, cb, q1, q2, r⟩ := R.hp j x h2 hx
    refine ⟨b, cb, q1, List.mem_filter.mpr ⟨q2, ?_⟩, r⟩
    simp only [bne_iff_ne, ne_eq]
    intro e'
    subst e'
    exact h1 (R.inj j i x x0 b h2 hx hx0 hx0' q1 hi.rho)
  · exact R.inj j k oj ok b (alive j oj ej ej').2 ej' (alive k ok ek ek').2 ek'
end
end Mine

namespace Mine
open PySem PySem.W PyProof.Rows

section
variable {prog : Program} {w : World} {c : Cx} {G : Gh} {st : St} {s : Shared} {m : Str → Option Value} {news : List (Addr × Obj)} {A : Around} {E : Value → Shared → Prop}

/-- what is asked behind a step that gives a value -/
noncomputable def Post (prog : Program) (w : World) (c : Cx) (G : Gh) (k : K1) (Q : Value → Shared → Prop) : Prop :=
  ∀ G' st' s' a v, G.Le G' → Rel prog w c G' st' s' → VR G' a v → (k a st').Tr → Q v s'
noncomputable def PostU (prog : Program) (w : World) (c : Cx) (G : Gh) (k : St → Dt) (Q : Unit → Shared → Prop) : Prop :=
  ∀ G' st' s', G.Le G' → Rel prog w c G' st' s' → (k st').Tr → Q () s'
noncomputable def PostB (prog : Program) (w : World) (c : Cx) (G : Gh) (k : Bool → St → Dt) (Q : Bool → Shared → Prop) : Prop :=
  ∀ G' st' s' b, G.Le G' → Rel prog w c G' st' s' → (k b st').Tr → Q b s'
noncomputable def PostVs (prog : Program) (w : World) (c : Cx) (G : Gh) (k : List AV → St → Dt) (Q : List Value → Shared → Prop) : Prop :=
  ∀ G' st' s' as vs, G.Le G' → Rel prog w c G' st' s' → VRs G' as vs → (k as st').Tr → Q vs s'

theorem VR.mk_ref {h : Nat} {a : Addr} (e : G.ρ[h]? = some a) : VR G (.ref h) (.ref a) := ⟨a, e, rfl⟩
theorem VR.mk_int (i : Int) (t : Tok) : VR G (.int i) (.int i t) := ⟨t, rfl⟩
theorem VR.mk_str (x : Str) (t : Tok) : VR G (.str x) (.str x t) := ⟨t, rfl⟩
theorem VR.mk_bool (b : Bool) : VR G (.bool b) (.bool b) := rfl
theorem VR.mk_old (a : Nat) : VR G (.old a) (.ref a) := rfl
theorem VR.mk_bi (b : BI) : VR G (.bi b) b.val := rfl
theorem VR.mk_none : VR G .none .none := rfl
theorem OR.mk_list {xs : List AV} {vs : List Value} {a : Addr} {n : Nat} (h : VRs G xs vs) : OR prog w G (.list xs) a (W.listOf vs.toArray n) := ⟨vs, n, rfl, h⟩
theorem OR.mk_listT {xs : List AV} {j : Nat} {vs tl : List Value} {a : Addr} {n : Nat} (h : VRs G xs vs) (e : G.T[j]? = some tl.length) (b : tl.length ≤ 1000) : OR prog w G (.listT xs j) a (W.listOf (vs ++ tl).toArray n) := ⟨vs, tl, n, rfl, h, e, b⟩
theorem OR.mk_tuple {xs : List AV} {vs : List Value} {a : Addr} {n : Nat} (h : VRs G xs vs) : OR prog w G (.tuple xs) a { cls := .type "tuple", data := .seq vs.toArray n } := ⟨vs, n, rfl, h⟩
theorem OR.cast {o : AO} {a : Addr} {x y : Obj} (h : OR prog w G o a x) (e : x = y) : OR prog w G o a y := e ▸ h
theorem RelAt.rel (R : RelAt prog w c G st s m news) : Rel prog w c G st s := ⟨m, news, R⟩
theorem Rel.toks (R : Rel prog w c G st s) (tk : Nat) : Rel prog w c G st { s with toks := tk } := let ⟨m, news, R⟩ := R; ⟨m, news, R.toks tk⟩
theorem Rel.grow (R : Rel prog w c G st s) {h' : Heap} (tk : Nat) (hk : ∀ b o, s.heap.get? b = some o → h'.get? b = some o) : Rel prog w c G st { s with heap := h', toks := tk } :=
  let ⟨m, news, R⟩ := R; ⟨m, news, R.heap tk (R.F.grownK hk) (R.N.grown hk)⟩
theorem RelAt.lt (R : RelAt prog w c G st s m news) : ∀ q ∈ news, q.1 < s.heap.objs.size := fun q hq => Heap.lt_size (R.N q hq).1
theorem RelAt.ne (R : RelAt prog w c G st s m news) : ∀ q ∈ news, q.1 ≠ s.heap.objs.size := fun q hq => Nat.ne_of_lt (R.lt q hq)
/-- a new object at the heap's end -/
theorem fresh_news {h₀ : Heap} {L : Addr} (F : Fr h₀ L s.heap m) {h' : Heap} {o : Obj} (N : News h₀ L h' news) (e : h'.get? s.heap.objs.size = some o) : News h₀ L h' ((s.heap.objs.size, o) :: news) := fun q hq => by
  rcases List.mem_cons.mp hq with rfl | hq
  · refine ⟨e, Nat.ne_of_gt F.ns.lt, ?_⟩
    cases q : h₀.get? s.heap.objs.size with
    | none => rfl
    | some x => exact absurd (Heap.lt_size (F.keep _ _ q)) (Nat.lt_irrefl _)
  · exact N q hq
/-- what holds of an object behind an allocation -/
theorem allocV_ok (R : RelAt prog w c G st s m news) {o : AO} {co : Obj} {k : K1} {Q : Value → Shared → Prop} {h' : Heap} {D : Addr} {tk : Nat} (F : Fr c.h₀ c.L h' m) (N : News c.h₀ c.L h' ((D, co) :: news)) (hne : ∀ q ∈ news, q.1 ≠ D)
    (ho : OR prog w (G.push D) o D co) (h : (allocV o st k).Tr) (post : Post prog w c G k Q) : Q (.ref D) { s with heap := h', toks := tk } := by
  obtain ⟨R', le, hn⟩ := R.alloc tk F N hne ho
  unfold allocV at h
  rw [allocK_eq] at h
  exact post _ _ _ _ _ le R'.rel (VR.mk_ref hn) h
theorem allocK_ok (R : RelAt prog w c G st s m news) {o : AO} {co : Obj} {k : Nat → St → Dt} {P : Prop} {h' : Heap} {D : Addr} (tk : Nat) (F : Fr c.h₀ c.L h' m) (N : News c.h₀ c.L h' ((D, co) :: news)) (hne : ∀ q ∈ news, q.1 ≠ D)
    (ho : OR prog w (G.push D) o D co) (h : (allocK o st k).Tr) (next : ∀ G' st' hn, G.Le G' → G'.ρ[hn]? = some D → objAt hn st' = some o ∨ True → RelAt prog w c G' st' { s with heap := h', toks := tk } m ((D, co) :: news) → (k hn st').Tr → P) : P := by
  obtain ⟨R', le, hn⟩ := R.alloc tk F N hne ho
  rw [allocK_eq] at h
  exact next _ _ _ le hn (.inr trivial) R' h

theorem short_le {α : Type} {l : List α} (h : short l = true) : l.length ≤ 1000 := by
  unfold short at h
  have := Nat.le_of_ble_eq_true h
  rwa [lenL_eq] at this
theorem okL_tr {xs : List AV} {d : Dt} (h : (okL xs d).Tr) : xs.length ≤ 1000 ∧ d.Tr := by
  unfold okL at h
  cases e : short xs with
  | true => rw [e] at h; exact ⟨short_le e, h⟩
  | false => rw [e] at h; exact h.elim
theorem sizeLine_ge {n : Nat} (h : n ≤ 100000) : n ≤ sizeLine := by
  have : sizeLine = 16777216 := by decide
  omega
theorem isList_at (R : RelAt prog w c G st s m news) {a : Addr} {its : Array Value} {n : Nat} (h : (a, W.listOf its n) ∈ news) : s.heap.IsList a its := News.isList R.N h
theorem isTup_at (R : RelAt prog w c G st s m news) {a : Addr} {its : Array Value} {n : Nat} (h : (a, ({ cls := .type "tuple", data := .seq its n } : Obj)) ∈ news) : IsTup s.heap a its := News.isTup R.N h

/-! ints -/
theorem smallInt_le {i : Int} (h : smallInt i = true) : -1000001 ≤ i ∧ i ≤ 1000000 := by
  cases i with
  | ofNat n => have := Nat.le_of_ble_eq_true h; simp only [Int.ofNat_eq_natCast]; omega
  | negSucc n => have := Nat.le_of_ble_eq_true h; omega

theorem addRef_ok {h g : Nat} {k : K1} {Q : Value → Shared → Prop} {va vb : Value} (R : Rel prog w c G st s) (ha : VR G (.ref h) va) (hb : VR G (.ref g) vb) (t : (addRef h g st k).Tr) (post : Post prog w c G k Q) :
    wpAny (model prog w) A (binaryOp .Add va vb) Q E s := by
  obtain ⟨m, news, R⟩ := R
  obtain ⟨a, ha, rfl⟩ := ha
  obtain ⟨b, hb, rfl⟩ := hb
  unfold addRef at t
  cases e : objAt h st with
  | none => rw [e] at t; exact t.elim
  | some o =>
    rw [e] at t
    cases o with
    | list xs =>
      obtain ⟨co, _, ma, vs, n, rfl, rv⟩ := R.obj ha e
      cases e' : objAt g st with
      | none => rw [e'] at t; exact t.elim
      | some o' =>
        rw [e'] at t
        cases o' with
        | list ys =>
          obtain ⟨co, _, mb, us, n', rfl, ru⟩ := R.obj hb e'
          obtain ⟨l1, t⟩ := okL_tr t
          obtain ⟨l2, t⟩ := okL_tr t
          rw [appK_eq] at t
          have e1 := rv.length
          have e2 := ru.length
          refine kmk_add_lit R.F R.N (isList_at R ma) (isList_at R mb) rfl (fun D h' F N hlt => ?_) (sizeLine_ge (by simp; omega))
          have hl := rv.append ru
          exact allocV_ok R (tk := s.toks) F N (fun q hq => Nat.ne_of_lt (hlt q hq)) (OR.cast (OR.mk_list (n := 0) (VRs.mono (G.le_push D) hl)) (by simp)) t post
        | listT ys j =>
          obtain ⟨co, _, mb, us, tl, n', rfl, ru, hT, hT'⟩ := R.obj hb e'
          obtain ⟨l1, t⟩ := okL_tr t
          obtain ⟨l2, t⟩ := okL_tr t
          rw [appK_eq] at t
          have e1 := rv.length
          have e2 := ru.length
          refine kmk_add_lit R.F R.N (isList_at R ma) (isList_at R mb) rfl (fun D h' F N hlt => ?_) (sizeLine_ge (by simp; omega))
          exact allocV_ok R (tk := s.toks) F N (fun q hq => Nat.ne_of_lt (hlt q hq)) (OR.cast (OR.mk_listT (n := 0) (VRs.mono (G.le_push D) (rv.append ru)) hT hT') (by simp)) t post
        | _ => exact t.elim
    | tuple xs =>
      obtain ⟨co, _, ma, vs, n, rfl, rv⟩ := R.obj ha e
      cases e' : objAt g st with
      | none => rw [e'] at t; exact t.elim
      | some o' =>
        rw [e'] at t
        cases o' with
        | tuple ys =>
          obtain ⟨co, _, mb, us, n', rfl, ru⟩ := R.obj hb e'
          have e1 := rv.length
          have e2 := ru.length
          cases xs with
          | nil => exact t.elim
          | cons x xs =>
            cases ys with
            | nil =>
              cases ru
              obtain ⟨l1, t⟩ := okL_tr t
              refine kde_addT1 R.F R.N (isTup_at R ma) (isTup_at R mb) ?_ rfl (by simp; omega) ?_
              · cases rv; simp
              · exact post _ _ _ _ _ (Gh.Le.refl G) R.rel (VR.mk_ref ha) t
            | cons y ys =>
              obtain ⟨l1, t⟩ := okL_tr t
              obtain ⟨l2, t⟩ := okL_tr t
              rw [appK_eq] at t
              refine kde_addT R.F R.N (isTup_at R ma) (isTup_at R mb) ?_ ?_ (by simp; omega) rfl (fun D h' F N hlt => ?_)
              · cases rv; simp
              · cases ru; simp
              · exact allocV_ok R (tk := s.toks) F N (fun q hq => Nat.ne_of_lt (hlt q hq)) (OR.cast (OR.mk_tuple (n := 0) (VRs.mono (G.le_push D) (rv.append ru))) (by simp)) t post
        | _ => exact t.elim
    | _ => exact t.elim
end
end Mine

namespace Mine
open PySem PySem.W PyProof.Rows

section
variable {prog : Program} {w : World} {c : Cx} {G : Gh} {st : St} {s : Shared} {m : Str → Option Value} {news : List (Addr × Obj)} {A : Around} {E : Value → Shared → Prop}

theorem smallStr_le {x : Str} (h : smallStr x = true) : x.length ≤ 1000 := by
  unfold smallStr at h
  have := Nat.le_of_ble_eq_true h
  rw [lenL_eq, Array.length_toList] at this
  exact this
theorem Post.now {k : K1} {Q : Value → Shared → Prop} (post : Post prog w c G k Q) {st' : St} {s' : Shared} {a : AV} {v : Value} (R : Rel prog w c G st' s') (hv : VR G a v) (t : (k a st').Tr) : Q v s' := post _ _ _ _ _ (.refl G) R hv t

theorem nonesL_eq : ∀ n : Nat, nonesL n = List.replicate n AV.none
  | 0 => rfl
  | n + 1 => by rw [nonesL, nonesL_eq n]; rfl
theorem vrs_nones (n : Nat) : VRs G (List.replicate n AV.none) (List.replicate n Value.none) := by
  induction n with
  | zero => exact .nil
  | succ n ih => exact .cons rfl ih
theorem flat_none (n : Nat) : List.foldl (fun x1 x2 => x1 ++ x2) #[] (List.replicate n #[Value.none]) = (List.replicate n Value.none).toArray := by
  have key : ∀ (n : Nat) (acc : Array Value), List.foldl (fun x1 x2 => x1 ++ x2) acc (List.replicate n #[Value.none]) = acc ++ (List.replicate n Value.none).toArray := by
    intro n
    induction n with
    | zero => intro acc; simp
    | succ n ih =>
      intro acc
      rw [List.replicate_succ, List.foldl_cons, ih, List.replicate_succ, Array.append_assoc]
      congr 1
      apply Array.ext'
      simp
  rw [key]; simp
theorem mulList_ok {h : Nat} {b : AV} {k : K1} {Q : Value → Shared → Prop} {va vb : Value} (R : Rel prog w c G st s) (ha : VR G (.ref h) va) (hb : VR G b vb) (t : (mulList h b st k).Tr) (post : Post prog w c G k Q) :
    wpAny (model prog w) A (binaryOp .Mult va vb) Q E s := by
  obtain ⟨m, news, R⟩ := R
  obtain ⟨a, ha, rfl⟩ := ha
  unfold mulList at t
  cases e : objAt h st with
  | none => rw [e] at t; exact t.elim
  | some o =>
    rw [e] at t
    cases o with
    | list xs =>
      obtain ⟨co, _, ma, vs, n, rfl, rv⟩ := R.obj ha e
      cases xs with
      | nil => exact t.elim
      | cons x xs =>
        cases xs with
        | cons y ys => cases x <;> exact t.elim
        | nil =>
          cases x <;> try exact t.elim
          cases rv with
          | cons h1 h2 =>
            cases h2
            cases h1
            cases b <;> try exact t.elim
            case int i =>
              cases i with
              | negSucc _ => exact t.elim
              | ofNat q =>
                obtain ⟨tb, rfl⟩ := hb
                dsimp only at t
                cases hq : Nat.ble q 100 with
                | false => rw [hq] at t; exact t.elim
                | true =>
                  rw [hq] at t
                  have hq := Nat.le_of_ble_eq_true hq
                  dsimp only at t
                  rw [takeK_eq, nonesL_eq, List.take_of_length_le (by simp)] at t
                  refine mul_list R.F R.N (R.N.get ma) (by simp only [Int.ofNat_eq_natCast]; omega) (by simp only [Int.ofNat_eq_natCast]; omega) (by simp; omega) (fun h' F N => ?_)
                  have e1 : (if (Array.isEmpty [Value.none].toArray) = true then 0 else Int.toNat (Int.ofNat q)) = q := by simp
                  rw [e1, flat_none] at N
                  exact allocV_ok R (tk := s.toks) F N R.ne (OR.mk_list (VRs.mono (G.le_push _) (vrs_nones q))) t post
            case len q j =>
              obtain ⟨y, tb, hT, hy, rfl⟩ := hb
              dsimp only at t
              cases hq : Nat.ble q 100 with
              | false => rw [hq] at t; exact t.elim
              | true =>
                rw [hq] at t
                have hq := Nat.le_of_ble_eq_true hq
                dsimp only at t
                refine mul_list R.F R.N (R.N.get ma) (by omega) (by omega) (by simp; omega) (fun h' F N => ?_)
                have e1 : (if (Array.isEmpty [Value.none].toArray) = true then 0 else Int.toNat ((q + y : Nat) : Int)) = q + y := Int.toNat_natCast (q + y)
                rw [e1, flat_none] at N
                exact allocV_ok R (tk := s.toks) F N R.ne (show OR prog w (G.push s.heap.objs.size) (.nones q j) _ _ from ⟨y, 0, rfl, hT, hy⟩) t post
    | _ => exact t.elim

theorem pylong_one (i : Int) : Builtin.divisionGoesByPylong i 1 = false := by
  unfold Builtin.divisionGoesByPylong
  have h : decide (((if ((1 : Int) == 0) = true then 0 else (1 : Int).natAbs.log2 / 30 + 1) : Nat) > 300) = false := by decide +kernel
  dsimp only
  rw [h, Bool.false_and]
theorem opBin_ok (hh : A.handled = none) {op : Operator} {a b : AV} {k : K1} {Q : Value → Shared → Prop} {va vb : Value} (R : Rel prog w c G st s) (ha : VR G a va) (hb : VR G b vb) (t : (opBin op a b st k).Tr) (post : Post prog w c G k Q) :
    wpAny (model prog w) A (binaryOp op va vb) Q E s := by
  cases op <;> try exact t.elim
  case Add =>
    cases a <;> try exact t.elim
    case int i =>
      obtain ⟨ta, rfl⟩ := ha
      cases b <;> try exact t.elim
      case int j =>
        obtain ⟨tb, rfl⟩ := hb
        simp only [opBin, intK_eq] at t
        exact add_int (post.now (R.toks _) (VR.mk_int _ _) t)
      case rng n =>
        obtain ⟨x, tb, rfl, hx⟩ := hb
        have t := t x hx
        simp only [intK_eq] at t
        exact add_int (post.now (R.toks _) (VR.mk_int _ _) t)
    case str x =>
      obtain ⟨ta, rfl⟩ := ha
      cases b <;> try exact t.elim
      case str y =>
        obtain ⟨tb, rfl⟩ := hb
        simp only [opBin] at t
        cases h1 : smallStr x with
        | false => rw [h1] at t; exact t.elim
        | true =>
          cases h2 : smallStr y with
          | false => rw [h1, h2] at t; exact t.elim
          | true =>
            rw [h1, h2] at t
            have h1 := smallStr_le h1
            have h2 := smallStr_le h2
            exact add_str (fun t' tk => post.now (R.toks tk) (VR.mk_str _ _) t) (sizeLine_ge (by omega))
    case ref h =>
      cases b <;> try exact t.elim
      case ref g => exact addRef_ok R ha hb t post
  case Sub =>
    cases a <;> try exact t.elim
    case int i =>
      obtain ⟨ta, rfl⟩ := ha
      cases b <;> try exact t.elim
      case int j =>
        obtain ⟨tb, rfl⟩ := hb
        simp only [opBin, intK_eq] at t
        exact sub_int (post.now (R.toks _) (VR.mk_int _ _) t)
  case Mult =>
    cases a <;> try exact t.elim
    case ref h => exact mulList_ok R ha hb t post
  case Mod =>
    cases a <;> try exact t.elim
    case int i =>
      obtain ⟨ta, rfl⟩ := ha
      cases b <;> try exact t.elim
      case int j =>
        obtain ⟨tb, rfl⟩ := hb
        simp only [opBin] at t
        cases h : intEq j 0 with
        | true => rw [h] at t; exact t.elim
        | false =>
          rw [h] at t
          simp only [intK_eq] at t
          refine mod_int' (fun e => ?_) (post.now (R.toks _) (VR.mk_int _ _) t)
          rw [(intEq_iff j 0).mpr e] at h
          cases h
    case rng b' =>
      obtain ⟨x, ta, rfl, hx⟩ := ha
      cases b <;> try exact t.elim
      case int j =>
        obtain ⟨tb, rfl⟩ := hb
        cases j <;> try exact t.elim
        case ofNat q =>
          cases q <;> try exact t.elim
          case succ q =>
            refine mod_int' (by simp only [Int.ofNat_eq_natCast]; omega) (post.now (R.toks _) (show VR G (.rng (q + 1)) _ from ⟨x % (q + 1), s.toks, ?_, Nat.mod_lt _ (Nat.succ_pos _)⟩) t)
            have : Int.fmod (x : Int) (Int.ofNat (q + 1)) = ((x % (q + 1) : Nat) : Int) := by
              rw [Int.ofNat_eq_natCast, Int.fmod_eq_emod_of_nonneg _ (by omega)]; rfl
            rw [this]
  case FloorDiv =>
    cases a <;> try exact t.elim
    case int i =>
      obtain ⟨ta, rfl⟩ := ha
      cases b <;> try exact t.elim
      case int j =>
        obtain ⟨tb, rfl⟩ := hb
        simp only [opBin] at t
        cases h : intEq j 1 with
        | false => rw [h] at t; exact t.elim
        | true =>
          rw [h] at t
          simp only [intK_eq] at t
          have hj := (intEq_iff j 1).mp h
          subst hj
          refine floordiv_int (by decide) (post.now (R.toks _) ?_ t) (.inl (pylong_one i))
          rw [Int.fdiv_one]
          exact VR.mk_int _ _
theorem opAug_ok {op : Operator} {a b : AV} {k : K1} {Q : Value → Shared → Prop} {va vb : Value} (R : Rel prog w c G st s) (ha : VR G a va) (hb : VR G b vb) (t : (opAug op a b st k).Tr) (post : Post prog w c G k Q) :
    wpAny (model prog w) A (inplaceOp op va vb) Q E s := by
  cases op <;> try exact t.elim
  case Add =>
    cases a <;> try exact t.elim
    case int i =>
      obtain ⟨ta, rfl⟩ := ha
      cases b <;> try exact t.elim
      case int j =>
        obtain ⟨tb, rfl⟩ := hb
        simp only [opAug, intK_eq] at t
        exact wpAny_iadd_int (post.now (R.toks _) (VR.mk_int _ _) t)
theorem opUn_ok {op : UnaryOp} {a : AV} {k : K1} {Q : Value → Shared → Prop} {va : Value} (R : Rel prog w c G st s) (ha : VR G a va) (t : (opUn op a st k).Tr) (post : Post prog w c G k Q) :
    wpAny (model prog w) A (unaryOp op va) Q E s := by
  cases op <;> try exact t.elim
  case USub =>
    cases a <;> try exact t.elim
    case int i =>
      obtain ⟨ta, rfl⟩ := ha
      simp only [opUn, intK_eq] at t
      exact neg_int (post.now (R.toks _) (VR.mk_int _ _) t)
end
end Mine

namespace Mine
open PySem PySem.W PyProof.Rows

theorem cpsOk_all : ∀ l : List Nat, cpsOk l = true → ∀ x ∈ l, x < 0x110000
  | [], _, _, h => nomatch h
  | a :: r, h, x, hx => by
    unfold cpsOk at h
    cases e : Nat.ble (a + 1) 1114112 with
    | false => rw [e] at h; cases h
    | true =>
      rw [e] at h
      have := Nat.le_of_ble_eq_true e
      rcases List.mem_cons.mp hx with rfl | hx
      · omega
      · exact cpsOk_all r h x hx
theorem goodStr_ok {x : Str} (h : goodStr x = true) : PyData.strOk x = true := by
  unfold PyData.strOk
  rw [← Array.all_toList, List.all_eq_true]
  intro a ha
  exact decide_eq_true (cpsOk_all _ h a ha)
theorem canLayAll_cons {x : PyData} {xs : List PyData} (h1 : x.canLay0 = true) (h2 : PyData.canLayAll0 xs = true) : PyData.canLayAll0 (x :: xs) = true := by
  show (x.canLay0 && PyData.canLayAll0 xs) = true
  rw [h1, h2]; rfl

section
variable {prog : Program} {w : World} {c : Cx} {G : Gh} {st : St} {s : Shared} {m : Str → Option Value} {news : List (Addr × Obj)} {A : Around} {E : Value → Shared → Prop}

noncomputable def Same2 (s : Shared) (va vb : Value) (d : Nat) : Prop := ∃ da as bs, Reads s.heap va da as ∧ Reads s.heap vb da bs ∧ da.canLay0 = true ∧ da.depth ≤ d
theorem all2_reads {d : Nat} {f : AV → AV → Bool} (IH : ∀ a b va vb, f a b = true → VR G a va → VR G b vb → Same2 s va vb d) :
    ∀ (xs ys : List AV) (vs us : List Value), sameV.all2 f xs ys = true → VRs G xs vs → VRs G ys us → ∃ ds as bs, ReadsAll s.heap vs ds as ∧ ReadsAll s.heap us ds bs ∧ PyData.canLayAll0 ds = true ∧ PyData.depthAll ds ≤ d
  | [], [], _, _, _, .nil, .nil => ⟨[], [], [], .nil, .nil, rfl, Nat.zero_le _⟩
  | [], _ :: _, _, _, h, _, _ => nomatch h
  | _ :: _, [], _, _, h, _, _ => nomatch h
  | x :: xs, y :: ys, _, _, h, .cons h1 r1, .cons h2 r2 => by
    unfold sameV.all2 at h
    cases e : f x y with
    | false => rw [e] at h; cases h
    | true =>
      rw [e] at h
      obtain ⟨da, as, bs, q1, q2, q3, q4⟩ := IH _ _ _ _ e h1 h2
      obtain ⟨ds, as', bs', p1, p2, p3, p4⟩ := all2_reads IH xs ys _ _ h r1 r2
      refine ⟨da :: ds, as ++ as', bs ++ bs', .cons q1 p1, .cons q2 p2, canLayAll_cons q3 p3, ?_⟩
      show max da.depth (PyData.depthAll ds) ≤ d
      omega
theorem reads_nones (h : Heap) : ∀ n : Nat, ReadsAll h (List.replicate n Value.none) (List.replicate n PyData.none) [] ∧ PyData.canLayAll0 (List.replicate n PyData.none) = true ∧ PyData.depthAll (List.replicate n PyData.none) = 0
  | 0 => ⟨.nil, rfl, rfl⟩
  | n + 1 => by
    obtain ⟨a, b, e⟩ := reads_nones h n
    refine ⟨.cons .none a, canLayAll_cons rfl b, ?_⟩
    show max 0 (PyData.depthAll (List.replicate n PyData.none)) = 0
    rw [e]; rfl
theorem same_reads (R : RelAt prog w c G st s m news) : ∀ (d : Nat) (a b : AV) (va vb : Value), sameV d st a b = true → VR G a va → VR G b vb → Same2 s va vb d
  | 0, _, _, _, _, h, _, _ => nomatch h
  | d + 1, a, b, va, vb, h, ha, hb => by
    have IH := same_reads R d
    cases a with
    | none =>
      cases b <;> try (cases h; done)
      cases ha; cases hb
      exact ⟨.none, [], [], .none, .none, rfl, Nat.zero_le _⟩
    | bool x =>
      cases b <;> try (cases h; done)
      case bool y =>
        cases ha; cases hb
        cases x <;> cases y <;> try (cases h; done)
        · exact ⟨.bool false, [], [], .bool _, .bool _, rfl, Nat.zero_le _⟩
        · exact ⟨.bool true, [], [], .bool _, .bool _, rfl, Nat.zero_le _⟩
    | int i =>
      cases b <;> try (cases h; done)
      case int j =>
        have e := (intEq_iff i j).mp h
        subst e
        obtain ⟨t, rfl⟩ := ha
        obtain ⟨u, rfl⟩ := hb
        exact ⟨.int i, [], [], .int _ _, .int _ _, rfl, Nat.zero_le _⟩
    | str x =>
      cases b <;> try (cases h; done)
      case str y =>
        unfold sameV at h
        dsimp only at h
        cases g : goodStr x with
        | false => rw [g] at h; cases h
        | true =>
          rw [g] at h
          have e := (strEq_iff x y).mp h
          subst e
          obtain ⟨t, rfl⟩ := ha
          obtain ⟨u, rfl⟩ := hb
          exact ⟨.str x, [], [], .str _ _, .str _ _, by simpa [PyData.canLay0] using goodStr_ok g, Nat.zero_le _⟩
    | sym i =>
      cases b <;> try (cases h; done)
      case sym j =>
        have e := Nat.eq_of_beq_eq_true h
        subst e
        obtain ⟨x, t, e1, rfl, g⟩ := ha
        obtain ⟨y, u, e2, rfl, g'⟩ := hb
        rw [e1] at e2
        cases e2
        exact ⟨.str x, [], [], .str _ _, .str _ _, by simpa [PyData.canLay0] using g, Nat.zero_le _⟩
    | ref x =>
      cases b <;> try (cases h; done)
      case ref y =>
        obtain ⟨a, ha, rfl⟩ := ha
        obtain ⟨b, hb, rfl⟩ := hb
        unfold sameV at h
        dsimp only at h
        cases e1 : objAt x st with
        | none => rw [e1] at h; cases h
        | some o =>
          rw [e1] at h
          cases e2 : objAt y st with
          | none => rw [e2] at h; cases o <;> cases h
          | some o' =>
            rw [e2] at h
            cases o <;> cases o' <;> try (cases h; done)
            case list.list xs ys =>
              obtain ⟨co, _, ma, vs, n, rfl, rv⟩ := R.obj ha e1
              obtain ⟨co, _, mb, us, n', rfl, ru⟩ := R.obj hb e2
              obtain ⟨ds, as, bs, p1, p2, p3, p4⟩ := all2_reads (fun a b va vb h => IH a b va vb h) xs ys _ _ h rv ru
              exact ⟨.list ds, _, _, .list (R.N.get ma) rfl rfl p1, .list (R.N.get mb) rfl rfl p2, by simpa [PyData.canLay0] using p3, Nat.succ_le_succ p4⟩
            case tuple.tuple xs ys =>
              obtain ⟨co, _, ma, vs, n, rfl, rv⟩ := R.obj ha e1
              obtain ⟨co, _, mb, us, n', rfl, ru⟩ := R.obj hb e2
              obtain ⟨ds, as, bs, p1, p2, p3, p4⟩ := all2_reads (fun a b va vb h => IH a b va vb h) xs ys _ _ h rv ru
              exact ⟨.tuple ds, _, _, .tuple (R.N.get ma) rfl rfl p1, .tuple (R.N.get mb) rfl rfl p2, by simpa [PyData.canLay0] using p3, Nat.succ_le_succ p4⟩
            case nones.nones k i k' j =>
              obtain ⟨co, _, ma, vs, n, rfl, rv, _⟩ := R.obj ha e1
              obtain ⟨co, _, mb, us, n', rfl, ru, _⟩ := R.obj hb e2
              dsimp only at h
              cases q : Nat.beq k k' with
              | false => rw [q] at h; cases h
              | true =>
                rw [q] at h
                have q := Nat.eq_of_beq_eq_true q
                have h := Nat.eq_of_beq_eq_true h
                subst q h
                rw [rv] at ru
                cases ru
                obtain ⟨p1, p2, p3⟩ := reads_nones s.heap (k + vs)
                exact ⟨.list (List.replicate (k + vs) .none), _, _, .list (R.N.get ma) rfl rfl p1, .list (R.N.get mb) rfl rfl p1, by simpa [PyData.canLay0] using p2, by show PyData.depthAll _ + 1 ≤ d + 1; omega⟩
    | _ => cases b <;> cases h

theorem boolK_tr {b : Bool} {k : Bool → Dt} (h : (boolK b k).Tr) : (k b).Tr := by rwa [boolK_eq] at h

theorem cmpEq_ok (hu : A.units + 64 < cLine) {a b : AV} {k : Bool → St → Dt} {Q Q' : Value → Shared → Prop} {va vb : Value} (R : Rel prog w c G st s) (ha : VR G a va) (hb : VR G b vb) (t : (cmpEq a b st k).Tr)
    (post : ∀ x, (k x st).Tr → Q (.bool x) s ∧ Q' (.bool !x) s) :
    wpAny (model prog w) A (compareOp .Eq va vb) Q E s ∧ wpAny (model prog w) A (compareOp .NotEq va vb) Q' E s := by
  obtain ⟨m, news, R⟩ := R
  cases a with
  | int i =>
    cases b <;> try exact t.elim
    case int j =>
      obtain ⟨ta, rfl⟩ := ha
      obtain ⟨tb, rfl⟩ := hb
      simp only [cmpEq] at t
      have p := post _ (boolK_tr t)
      rw [intEq_beq] at p
      exact ⟨eq_int p.1, ne_int p.2⟩
  | str x =>
    cases b <;> try exact t.elim
    case str y =>
      obtain ⟨ta, rfl⟩ := ha
      obtain ⟨tb, rfl⟩ := hb
      simp only [cmpEq] at t
      have p := post _ (boolK_tr t)
      rw [strEq_beq] at p
      exact ⟨eq_str p.1, ne_str p.2⟩
  | sym i =>
    cases b <;> try exact t.elim
    case sym j =>
      obtain ⟨x, u, e1, rfl, g⟩ := ha
      obtain ⟨y, u', e2, rfl, g'⟩ := hb
      unfold cmpEq at t
      dsimp only at t
      cases q : Nat.beq i j with
      | false => rw [q] at t; exact t.elim
      | true =>
        rw [q] at t
        have q := Nat.eq_of_beq_eq_true q
        subst q
        rw [e1] at e2
        cases e2
        have p := post _ t
        exact ⟨eq_str (by rw [beq_self_eq_true]; exact p.1), ne_str (by rw [bne_self_eq_false]; exact p.2)⟩
  | len n i =>
    cases b <;> try exact t.elim
    case len n' j =>
      obtain ⟨x, u, e1, _, rfl⟩ := ha
      obtain ⟨y, u', e2, _, rfl⟩ := hb
      unfold cmpEq at t
      dsimp only at t
      cases q : Nat.beq i j with
      | false => rw [q] at t; exact t.elim
      | true =>
        rw [q] at t
        cases q' : Nat.beq n n' with
        | false => rw [q'] at t; exact t.elim
        | true =>
          rw [q'] at t
          have q := Nat.eq_of_beq_eq_true q
          have q' := Nat.eq_of_beq_eq_true q'
          subst q q'
          rw [e1] at e2
          cases e2
          have p := post _ t
          exact ⟨eq_int (by rw [beq_self_eq_true]; exact p.1), ne_int (by rw [bne_self_eq_false]; exact p.2)⟩
  | rng b' =>
    cases b <;> try exact t.elim
    case int j =>
      obtain ⟨x, u, rfl, hx⟩ := ha
      obtain ⟨tb, rfl⟩ := hb
      have p := post _ (boolK_tr (t x hx))
      rw [intEq_beq] at p
      exact ⟨eq_int p.1, ne_int p.2⟩
  | ref h =>
    cases b <;> try exact t.elim
    case ref g =>
      unfold cmpEq at t
      dsimp only at t
      cases q : sameV 8 st (.ref h) (.ref g) with
      | false => rw [q] at t; exact t.elim
      | true =>
        rw [q] at t
        have p := post _ t
        obtain ⟨da, as, bs, r1, r2, r3, r4⟩ := same_reads R 8 _ _ _ _ q ha hb
        have hs : SeqAt.shaped da = true := by
          unfold SeqAt.shaped
          rw [r3, decide_eq_true (by omega : da.depth ≤ 64)]; rfl
        have he := SeqAt.eqv_refl da r3
        exact ⟨eq_dataH r1 r2 hs hs hu (by rw [he]; exact p.1), ne_dataH r1 r2 hs hs hu (by rw [he]; exact p.2)⟩
  | _ => exact t.elim

theorem cmpLt_ok {a b : AV} {k : Bool → St → Dt} {Q Q' : Value → Shared → Prop} {va vb : Value} (ha : VR G a va) (hb : VR G b vb) (t : (cmpLt a b st k).Tr)
    (post : ∀ x, (k x st).Tr → Q (.bool x) s ∧ Q' (.bool x) s) :
    wpAny (model prog w) A (compareOp .Lt va vb) Q E s ∧ wpAny (model prog w) A (compareOp .Gt vb va) Q' E s := by
  cases a with
  | int i =>
    cases b <;> try exact t.elim
    case int j =>
      obtain ⟨ta, rfl⟩ := ha
      obtain ⟨tb, rfl⟩ := hb
      simp only [cmpLt] at t
      have p := post _ (boolK_tr t)
      rw [intLt_dec] at p
      exact ⟨lt_int p.1, gt_int p.2⟩
  | len n i =>
    cases b <;> try exact t.elim
    case int j =>
      obtain ⟨x, u, e1, _, rfl⟩ := ha
      obtain ⟨tb, rfl⟩ := hb
      unfold cmpLt at t
      dsimp only at t
      cases q : intLt (.ofNat n) j with
      | true => rw [q] at t; exact t.elim
      | false =>
        rw [q] at t
        have p := post _ t
        rw [intLt_dec] at q
        have q := of_decide_eq_false q
        have e : decide (((n + x : Nat) : Int) < j) = false := decide_eq_false (by simp only [Int.ofNat_eq_natCast] at q; omega)
        exact ⟨lt_int (by rw [e]; exact p.1), gt_int (by rw [e]; exact p.2)⟩
  | _ => exact t.elim

theorem cmpIs_ok {a b : AV} {k : Bool → Dt} {Q Q' : Value → Shared → Prop} {va vb : Value} (ha : VR G a va) (hb : VR G b vb) (t : (cmpIs a b k).Tr)
    (post : ∀ x, (k x).Tr → Q (.bool x) s ∧ Q' (.bool !x) s) :
    wpAny (model prog w) A (compareOp .Is va vb) Q E s ∧ wpAny (model prog w) A (compareOp .IsNot va vb) Q' E s := by
  cases b <;> try exact t.elim
  case none =>
    cases hb
    cases a <;> try exact t.elim
    case none => cases ha; have p := post _ t; exact ⟨wpAny_is_plain rfl p.1, wpAny_isNot_plain rfl p.2⟩
    case ref h => obtain ⟨x, _, rfl⟩ := ha; have p := post _ t; exact ⟨wpAny_is_plain rfl p.1, wpAny_isNot_plain rfl p.2⟩
    case str h => obtain ⟨x, rfl⟩ := ha; have p := post _ t; exact ⟨wpAny_is_plain rfl p.1, wpAny_isNot_plain rfl p.2⟩
    case sym h => obtain ⟨x, u, _, rfl, _⟩ := ha; have p := post _ t; exact ⟨wpAny_is_plain rfl p.1, wpAny_isNot_plain rfl p.2⟩
  case bool y =>
    cases hb
    cases a <;> try exact t.elim
    case bool x =>
      cases ha
      cases x <;> cases y <;> (have p := post _ t; exact ⟨wpAny_is_plain rfl p.1, wpAny_isNot_plain rfl p.2⟩)

theorem strsOf_are : ∀ {xs : List AV} {l : List Str} {vs : List Value}, strsOf xs = some l → VRs G xs vs → StrsAre vs l
  | [], _, _, h, .nil => by cases h; exact .nil
  | .str x :: r, l, _, h, .cons h1 r1 => by
    unfold strsOf at h
    cases e : strsOf r with
    | none => rw [e] at h; cases h
    | some l' =>
      rw [e] at h
      cases h
      obtain ⟨t, rfl⟩ := h1
      exact .cons x t (strsOf_are e r1)
  | .none :: _, _, _, h, _ => nomatch h
  | .bool _ :: _, _, _, h, _ => nomatch h
  | .int _ :: _, _, _, h, _ => nomatch h
  | .sym _ :: _, _, _, h, _ => nomatch h
  | .rng _ :: _, _, _, h, _ => nomatch h
  | .len _ _ :: _, _, _, h, _ => nomatch h
  | .ref _ :: _, _, _, h, _ => nomatch h
  | .old _ :: _, _, _, h, _ => nomatch h
  | .bi _ :: _, _, _, h, _ => nomatch h
theorem anyStr_eq (x : Str) : ∀ l : List Str, anyStr x l = l.any fun y => y == x
  | [] => rfl
  | y :: r => by
    unfold anyStr
    rw [List.any_cons, strEq_beq]
    cases y == x <;> simp [anyStr_eq x r]

theorem cmpIn_ok {a b : AV} {k : Bool → Dt} {Q : Value → Shared → Prop} {va vb : Value} (R : Rel prog w c G st s) (ha : VR G a va) (hb : VR G b vb) (t : (cmpIn a b st k).Tr)
    (post : ∀ x tk, (k x).Tr → Q (.bool x) { s with toks := tk }) : wpAny (model prog w) A (compareOp .In va vb) Q E s := by
  obtain ⟨m, news, R⟩ := R
  cases b <;> try exact t.elim
  case ref h =>
    obtain ⟨ad, hb, rfl⟩ := hb
    unfold cmpIn at t
    dsimp only at t
    cases e : objAt h st with
    | none => rw [e] at t; exact t.elim
    | some o =>
      rw [e] at t
      cases o with
      | tuple xs =>
        obtain ⟨co, _, ma, vs, n, rfl, rv⟩ := R.obj hb e
        cases a <;> try exact t.elim
        case str x =>
          obtain ⟨ta, rfl⟩ := ha
          dsimp only at t
          cases q : strsOf xs with
          | none => rw [q] at t; exact t.elim
          | some l =>
            rw [q] at t
            have p := post _ s.toks (boolK_tr t)
            rw [anyStr_eq] at p
            exact in_tuple_strs (isTup_at R ma) (strsOf_are q rv) p
      | list xs =>
        obtain ⟨co, _, ma, vs, n, rfl, rv⟩ := R.obj hb e
        cases a <;> try exact t.elim
        case str x =>
          obtain ⟨ta, rfl⟩ := ha
          dsimp only at t
          cases q : strsOf xs with
          | none => rw [q] at t; exact t.elim
          | some l =>
            rw [q] at t
            have p := post _ s.toks (boolK_tr t)
            rw [anyStr_eq] at p
            exact in_list_strs (isList_at R ma) (strsOf_are q rv) p
      | idict ks =>
        obtain ⟨co, _, ma, hlo, kvs, D, hd, hf, hl, hb'⟩ := R.obj hb e
        cases a <;> try exact t.elim
        case int i =>
          obtain ⟨ta, rfl⟩ := ha
          have p := post _ (s.toks + 1) (boolK_tr t)
          rw [← hl i] at p
          exact in_intTab (TabAt.ofNews R.N ma hlo hd hf) p
      | _ => exact t.elim
theorem cmpNotIn_ok {a b : AV} {k : Bool → Dt} {Q : Value → Shared → Prop} {va vb : Value} (R : Rel prog w c G st s) (ha : VR G a va) (hb : VR G b vb) (t : (cmpNotIn a b st k).Tr)
    (post : ∀ x, (k x).Tr → Q (.bool x) s) : wpAny (model prog w) A (compareOp .NotIn va vb) Q E s := by
  obtain ⟨m, news, R⟩ := R
  cases b <;> try exact t.elim
  case ref h =>
    obtain ⟨ad, hb, rfl⟩ := hb
    unfold cmpNotIn at t
    dsimp only at t
    cases e : objAt h st with
    | none => rw [e] at t; exact t.elim
    | some o =>
      rw [e] at t
      cases o with
      | tuple xs =>
        obtain ⟨co, _, ma, vs, n, rfl, rv⟩ := R.obj hb e
        cases a <;> try exact t.elim
        case str x =>
          obtain ⟨ta, rfl⟩ := ha
          dsimp only at t
          cases q : strsOf xs with
          | none => rw [q] at t; exact t.elim
          | some l =>
            rw [q] at t
            refine notin_tuple_strs (isTup_at R ma) (strsOf_are q rv) ?_
            rw [← anyStr_eq]
            dsimp only at t
            cases z : anyStr x l with
            | true => rw [z] at t; exact post _ t
            | false => rw [z] at t; exact post _ t
      | _ => exact t.elim

theorem opCmp_ok (hu : A.units + 64 < cLine) {op : CmpOp} {a b : AV} {k : K1} {Q : Value → Shared → Prop} {va vb : Value} (R : Rel prog w c G st s) (ha : VR G a va) (hb : VR G b vb) (t : (opCmp op a b st k).Tr) (post : Post prog w c G k Q) :
    wpAny (model prog w) A (compareOp op va vb) Q E s := by
  unfold opCmp at t
  cases op <;> try exact t.elim
  all_goals dsimp only at t
  case Eq => exact (cmpEq_ok (Q' := fun _ _ => True) hu R ha hb t fun x t => ⟨post.now R (VR.mk_bool x) t, trivial⟩).1
  case NotEq =>
    refine (cmpEq_ok (Q := fun _ _ => True) hu R ha hb t fun x t => ⟨trivial, ?_⟩).2
    cases x with
    | true => exact post.now R (VR.mk_bool _) t
    | false => exact post.now R (VR.mk_bool _) t
  case Lt => exact (cmpLt_ok (Q' := fun _ _ => True) ha hb t fun x t => ⟨post.now R (VR.mk_bool x) t, trivial⟩).1
  case Gt => exact (cmpLt_ok (Q := fun _ _ => True) hb ha t fun x t => ⟨trivial, post.now R (VR.mk_bool x) t⟩).2
  case Is => exact (cmpIs_ok (Q' := fun _ _ => True) ha hb t fun x t => ⟨post.now R (VR.mk_bool x) t, trivial⟩).1
  case IsNot =>
    refine (cmpIs_ok (Q := fun _ _ => True) ha hb t fun x t => ⟨trivial, ?_⟩).2
    cases x with
    | true => exact post.now R (VR.mk_bool _) t
    | false => exact post.now R (VR.mk_bool _) t
  case In => exact cmpIn_ok R ha hb t fun x tk t => post.now (R.toks tk) (VR.mk_bool x) t
  case NotIn => exact cmpNotIn_ok R ha hb t fun x t => post.now R (VR.mk_bool x) t
end
end Mine

namespace Mine
open PySem PySem.W PyProof.Rows

structure FldOk (K : Frag) (C : Nat) (a : Str) : Prop where
  get : plainGet K C a = true
  dict : hasDictIn K C = true
  find : ∃ attr, findIn K (.ref C) a = some attr ∧ noGet K attr = true
  set : findIn K (.ref C) "__setattr__" = some (some (.builtin "object.__setattr__"))
  over : plainOver K C = true
  taker : takerIn K C a = some none
structure MthOk (K : Frag) (C : Nat) (m : Str) (f : Nat) : Prop where
  get : plainGet K C m = true
  find : findIn K (.ref C) m = some (some (.ref f))
  fn : PySem.W.isFn K (.ref f) = true

section
variable {prog : Program} {w : World} {c : Cx} {G : Gh} {st : St} {s : Shared} {m : Str → Option Value} {news : List (Addr × Obj)} {A : Around} {E : Value → Shared → Prop} {K : Frag}

theorem isStr_of {v : Value} {x y : Str} (h : ∃ t, v = .str x t) : v.isStr y = (x == y) := by obtain ⟨t, rfl⟩ := h; rfl
theorem refKey_of {e : DictEntry} {x : Str} (h : ∃ t, e.key = .str x t) : e.refKey = false := by
  obtain ⟨t, h⟩ := h
  unfold DictEntry.refKey
  rw [h]
theorem getL_some (x : Str) : ∀ {fs : List (Str × AV)} {es : List DictEntry} {a : AV}, All2 (ER G) fs es → look x fs = some a → ∃ v, W.getL x es = some (some v) ∧ VR G a v
  | [], _, _, _, h => nomatch h
  | f :: fs, e :: es, a, .cons h1 r, h => by
    unfold look at h
    unfold W.getL
    rw [List.find?_cons, isStr_of h1.1]
    have : (f.1 == x) = strEq x f.1 := by rw [strEq_beq, Bool.beq_comm]
    rw [this]
    cases q : strEq x f.1 with
    | true => rw [q] at h; cases h; exact ⟨e.val, rfl, h1.2⟩
    | false =>
      rw [q] at h
      obtain ⟨v, g, hv⟩ := getL_some x r h
      refine ⟨v, ?_, hv⟩
      unfold W.getL at g
      dsimp only
      rw [List.any_cons, refKey_of h1.1, Bool.false_or]
      exact g
theorem getL_none (x : Str) : ∀ {fs : List (Str × AV)} {es : List DictEntry}, All2 (ER G) fs es → look x fs = none → W.getL x es = some none
  | [], _, .nil, h => rfl
  | f :: fs, e :: es, .cons h1 r, h => by
    unfold look at h
    unfold W.getL
    rw [List.find?_cons, isStr_of h1.1]
    have : (f.1 == x) = strEq x f.1 := by rw [strEq_beq, Bool.beq_comm]
    rw [this]
    cases q : strEq x f.1 with
    | true => rw [q] at h; cases h
    | false =>
      rw [q] at h
      have g := getL_none x r h
      unfold W.getL at g
      dsimp only
      rw [List.any_cons, refKey_of h1.1, Bool.false_or]
      exact g
theorem putL_er (x : Str) (hsh : Int) (tk : Tok) {a : AV} {v : Value} (hv : VR G a v) : ∀ {fs : List (Str × AV)} {es : List DictEntry}, All2 (ER G) fs es → All2 (ER G) (frSet x a fs) (putL x hsh (.str x tk) v es)
  | [], _, .nil => .cons ⟨⟨tk, rfl⟩, hv⟩ .nil
  | f :: fs, e :: es, .cons h1 r => by
    unfold frSet putL
    rw [isStr_of h1.1]
    have : (f.1 == x) = strEq x f.1 := by rw [strEq_beq, Bool.beq_comm]
    rw [this]
    cases q : strEq x f.1 with
    | true => exact .cons ⟨h1.1, hv⟩ r
    | false => exact .cons h1 (putL_er x hsh tk hv r)
theorem putL_len (x : Str) (hsh : Int) (key v : Value) : ∀ es : List DictEntry, (putL x hsh key v es).length ≤ es.length + 1
  | [] => by simp [putL]
  | e :: es => by
    unfold putL
    split
    · simp
    · simpa using putL_len x hsh key v es

theorem opAttr_ok (X : K.In c.h₀) (hK : ∀ C a, fieldOk C a = true → FldOk K C a) {a : Str} {x : AV} {k : K1} {ex : Bool} {Q : Value → Shared → Prop} {v : Value} (R : Rel prog w c G st s) (hv : VR G x v) (t : (opAttr a x st k).Tr) (post : Post prog w c G k Q) :
    wpAny (model prog w) A (getAttr v a ex) Q E s := by
  obtain ⟨m, news, R⟩ := R
  cases x <;> try exact t.elim
  case ref h =>
    obtain ⟨ad, hv, rfl⟩ := hv
    unfold opAttr at t
    dsimp only at t
    cases e : objAt h st with
    | none => rw [e] at t; exact t.elim
    | some o =>
      rw [e] at t
      cases o <;> try exact t.elim
      case inst C d =>
        obtain ⟨co, _, ma, dx, hd, rfl⟩ := R.obj hv e
        dsimp only at t
        cases f : fieldOk C a with
        | false => rw [f] at t; exact t.elim
        | true =>
          rw [f] at t
          dsimp only at t
          cases e' : objAt d st with
          | none => rw [e'] at t; exact t.elim
          | some o =>
            rw [e'] at t
            cases o <;> try exact t.elim
            case dict fs =>
              obtain ⟨co, _, mb, es, n, rfl, hr⟩ := R.obj hd e'
              dsimp only at t
              cases l : look a fs with
              | none => rw [l] at t; exact t.elim
              | some y =>
                rw [l] at t
                obtain ⟨u, g, hu⟩ := getL_some a hr l
                obtain ⟨attr, hf, hn⟩ := (hK C a f).find
                have fin : handedIn u = true ∧ (k y st).Tr := by
                  cases y <;> first
                    | exact t.elim
                    | exact ⟨by cases hu; rfl, t⟩
                    | exact ⟨by obtain ⟨t', rfl⟩ := hu; rfl, t⟩
                    | exact ⟨by obtain ⟨_, t', _, rfl, _⟩ := hu; rfl, t⟩
                    | exact ⟨by obtain ⟨_, t', rfl, _⟩ := hu; rfl, t⟩
                    | exact ⟨by obtain ⟨_, t', _, _, rfl⟩ := hu; rfl, t⟩
                    | exact ⟨by obtain ⟨_, _, rfl⟩ := hu; rfl, t⟩
                exact get_own R.F X (InstAt.of_news R.N ma mb) (hK C a f).get (hK C a f).dict hf hn g fin.1 (post.now (R.rel.toks _) hu fin.2)

theorem frSet_tr {x : Str} {v : AV} {l : List (Str × AV)} {k : List (Str × AV) → Dt} (h : (frSetK x v l k).Tr) : (k (frSet x v l)).Tr := by rwa [frSetK_eq] at h
theorem opSetAttr_ok (X : K.In c.h₀) (hK : ∀ C a, fieldOk C a = true → FldOk K C a) {a : Str} {x y : AV} {k : St → Dt} {Q : Unit → Shared → Prop} {v u : Value} (R : Rel prog w c G st s) (hv : VR G x v) (hu : VR G y u) (t : (opSetAttr a x y st k).Tr) (post : PostU prog w c G k Q) :
    wpAny (model prog w) A (setAttr v a u) Q E s := by
  obtain ⟨m, news, R⟩ := R
  cases x <;> try exact t.elim
  case ref h =>
    obtain ⟨ad, hv, rfl⟩ := hv
    unfold opSetAttr at t
    dsimp only at t
    cases e : objAt h st with
    | none => rw [e] at t; exact t.elim
    | some o =>
      rw [e] at t
      cases o <;> try exact t.elim
      case inst C d =>
        obtain ⟨co, _, ma, dx, hd, rfl⟩ := R.obj hv e
        dsimp only at t
        cases f : fieldOk C a with
        | false => rw [f] at t; exact t.elim
        | true =>
          rw [f] at t
          dsimp only at t
          cases e' : objAt d st with
          | none => rw [e'] at t; exact t.elim
          | some o =>
            rw [e'] at t
            cases o <;> try exact t.elim
            case dict fs =>
              obtain ⟨co, hi, mb, es, n, rfl, hr⟩ := R.obj hd e'
              dsimp only at t
              cases b : Nat.ble (lenL fs) 100 with
              | false => rw [b] at t; exact t.elim
              | true =>
                rw [b] at t
                have b := Nat.le_of_ble_eq_true b
                rw [lenL_eq] at b
                dsimp only at t
                rw [frSetK_eq, putK_eq] at t
                have hl := hr.length
                have f' := hK C a f
                have gl : (W.getL a es).isSome = true := by
                  cases q : look a fs with
                  | none => rw [getL_none a hr q]; rfl
                  | some y => obtain ⟨u, g, _⟩ := getL_some a hr q; rw [g]; rfl
                refine set_dict R.F X R.N (InstAt.of_news R.N ma mb) rfl f'.set f'.over f'.taker f'.dict gl rfl (R.upd _ hi) ?_ (fun h' F' N' => ?_)
                · have := putL_len a (PyData.keyHash w.params a) (.str a (s.toks + 1)) u es
                  omega
                · exact post _ _ _ (.refl G) (R.put (s.toks + 2) hi F' N' (show OR prog w G (.dict _) _ _ from ⟨_, _, rfl, putL_er a _ _ hu hr⟩)).rel t

theorem opMeth_ok (X : K.In c.h₀) (hK : ∀ C m f, methAt C m = some f → MthOk K C m f) {mm : Str} {x : AV} {k : AV → List AV → St → Dt} {pl : Sem Bool} {Q : Value × List Value → Shared → Prop} {v : Value} (R : Rel prog w c G st s) (hv : VR G x v) (t : (opMeth x mm st k).Tr)
    (post : ∀ f first fv vs, VR G f fv → VRs G first vs → (k f first st).Tr → Q (fv, vs) s) : wpAny (model prog w) A (getMethod v mm pl) Q E s := by
  obtain ⟨m, news, R⟩ := R
  cases x <;> try exact t.elim
  case ref h =>
    obtain ⟨ad, hv, rfl⟩ := hv
    unfold opMeth at t
    dsimp only at t
    cases e : objAt h st with
    | none => rw [e] at t; exact t.elim
    | some o =>
      rw [e] at t
      cases o <;> try exact t.elim
      case inst C d =>
        obtain ⟨co, _, ma, dx, hd, rfl⟩ := R.obj hv e
        dsimp only at t
        cases f : methAt C mm with
        | none => rw [f] at t; exact t.elim
        | some fa =>
          rw [f] at t
          dsimp only at t
          cases e' : objAt d st with
          | none => rw [e'] at t; exact t.elim
          | some o =>
            rw [e'] at t
            cases o <;> try exact t.elim
            case dict fs =>
              obtain ⟨co, hi, mb, es, n, rfl, hr⟩ := R.obj hd e'
              dsimp only at t
              cases l : look mm fs with
              | some y => rw [l] at t; exact t.elim
              | none =>
                rw [l] at t
                have f' := hK C mm fa f
                exact method_inst R.F X (InstAt.of_news R.N ma mb) f'.get f'.find f'.fn (getL_none mm hr l) (post _ _ _ _ (VR.mk_old fa) (.cons (VR.mk_ref hv) .nil) t)
      case list xs =>
        obtain ⟨co, _, ma, vs, n, rfl, rv⟩ := R.obj hv e
        dsimp only at t
        cases q : strEq mm appendS with
        | true =>
          rw [q] at t
          have q := (strEq_iff _ _).mp q
          subst q
          exact getMethod_append_N R.N ma (post _ _ _ _ (VR.mk_bi .append) (.cons (VR.mk_ref hv) .nil) t)
        | false =>
          rw [q] at t
          dsimp only at t
          cases q' : strEq mm popS with
          | false => rw [q'] at t; exact t.elim
          | true =>
            rw [q'] at t
            have q' := (strEq_iff _ _).mp q'
            subst q'
            exact getMethod_pop_N R.N ma (post _ _ _ _ (VR.mk_bi .pop) (.cons (VR.mk_ref hv) .nil) t)
end
end Mine

namespace Mine
open PySem PySem.W PyProof.Rows

theorem placeOf_spec {i : Int} {n j : Nat} (h : placeOf i n = some j) : j < n ∧ ((0 ≤ i ∧ i.toNat = j) ∨ (i < 0 ∧ -(n : Int) ≤ i ∧ (i + n).toNat = j)) := by
  cases i with
  | ofNat k =>
    unfold placeOf at h
    dsimp only at h
    cases q : Nat.ble (k + 1) n with
    | false => rw [q] at h; cases h
    | true =>
      rw [q] at h
      have q := Nat.le_of_ble_eq_true q
      cases h
      exact ⟨q, .inl ⟨Int.natCast_nonneg _, rfl⟩⟩
  | negSucc k =>
    unfold placeOf at h
    dsimp only at h
    cases q : Nat.ble (k + 1) n with
    | false => rw [q] at h; cases h
    | true =>
      rw [q] at h
      have q := Nat.le_of_ble_eq_true q
      cases h
      refine ⟨by omega, .inr ⟨by omega, by omega, by omega⟩⟩
theorem seqIndex_place {i : Int} {n j : Nat} (h : placeOf i n = some j) : seqIndex? i n = some j := by
  obtain ⟨hj, h | h⟩ := placeOf_spec h
  · unfold seqIndex?
    have : ¬ i < 0 := by omega
    simp only [this, if_false]
    rw [if_pos (by simp only [Bool.and_eq_true, decide_eq_true_eq]; omega)]
    rw [h.2]
  · rw [seqIndex_neg h.1 h.2.1, h.2.2]

section
variable {prog : Program} {w : World} {c : Cx} {G : Gh} {st : St} {s : Shared} {m : Str → Option Value} {news : List (Addr × Obj)} {A : Around} {E : Value → Shared → Prop}

theorem atPlace_list {vs : List Value} {xs : List AV} {a : Addr} {i : Int} {u : Tok} {k : K1} {Q : Value → Shared → Prop} (R : Rel prog w c G st s) (hl : s.heap.IsList a vs.toArray) (tl : List Value) {ws : List Value} (hw : vs = ws ++ tl) (ht : tl = [] ∨ 0 ≤ i) (rv : VRs G xs ws) (t : (atPlace xs i st k).Tr) (post : Post prog w c G k Q) :
    wpAny (model prog w) A (getItem (.ref a) (.int i u)) Q E s := by
  unfold atPlace at t
  cases q : short xs with
  | false => rw [q] at t; exact t.elim
  | true =>
    rw [q] at t
    have hq := short_le q
    dsimp only at t
    cases p : placeOf i (lenL xs) with
    | none => rw [p] at t; exact t.elim
    | some j =>
      rw [p] at t
      dsimp only at t
      cases g : Mine.getL xs j with
      | none => rw [g] at t; exact t.elim
      | some y =>
        rw [g] at t
        rw [getL_eq] at g
        rw [lenL_eq] at p
        obtain ⟨v, hv, hr⟩ := rv.get g
        have hlen := rv.length
        have hf := post.now R hr t
        obtain ⟨hj, h | h⟩ := placeOf_spec p
        · refine wpAny_getItem_list hl h.1 (by omega) (x := v) ?_ hf
          rw [h.2, hw, List.getElem?_toArray, List.getElem?_append_left (by omega)]
          exact hv
        · have ht : tl = [] := by
            rcases ht with ht | ht
            · exact ht
            · omega
          subst ht
          rw [List.append_nil] at hw
          subst hw
          have hsz : (vs.toArray.size : Int) = xs.length := by rw [List.size_toArray, hlen]
          refine wpAny_getItem_list_neg hl h.1 (by rw [hsz]; exact h.2.1) (by omega) (x := v) ?_ hf
          rw [hsz, h.2.2, List.getElem?_toArray]
          exact hv
theorem atPlace_tuple {vs : List Value} {xs : List AV} {a : Addr} {i : Int} {u : Tok} {k : K1} {Q : Value → Shared → Prop} (R : Rel prog w c G st s) (hl : IsTup s.heap a vs.toArray) (rv : VRs G xs vs) (t : (atPlace xs i st k).Tr) (post : Post prog w c G k Q) :
    wpAny (model prog w) A (getItem (.ref a) (.int i u)) Q E s := by
  unfold atPlace at t
  cases q : short xs with
  | false => rw [q] at t; exact t.elim
  | true =>
    rw [q] at t
    have hq := short_le q
    dsimp only at t
    cases p : placeOf i (lenL xs) with
    | none => rw [p] at t; exact t.elim
    | some j =>
      rw [p] at t
      dsimp only at t
      cases g : Mine.getL xs j with
      | none => rw [g] at t; exact t.elim
      | some y =>
        rw [g] at t
        rw [getL_eq] at g
        rw [lenL_eq] at p
        obtain ⟨v, hv, hr⟩ := rv.get g
        have hlen := rv.length
        have hf := post.now R hr t
        have hb : -(xs.length : Int) ≤ i ∧ i < xs.length := by
          obtain ⟨hj, h | h⟩ := placeOf_spec p <;> omega
        refine PyProof.Rows.getItem_tuple hl (by omega) (by omega) (j := j) ?_ (x := v) ?_ hf
        · rw [List.size_toArray, ← hlen]; exact seqIndex_place p
        · rw [List.getElem?_toArray]; exact hv

theorem RelAt.pushS (R : RelAt prog w c G st s m news) (x : Str) : RelAt prog w c { G with S := G.S ++ [x] } { st with nS := st.nS + 1 } s m news ∧ G.Le { G with S := G.S ++ [x] } := by
  have le : G.Le { G with S := G.S ++ [x] } := ⟨List.prefix_refl _, List.prefix_append _ _, List.prefix_refl _⟩
  exact ⟨⟨R.F, R.N, R.nd, R.n, by simp [R.nS], R.nT, R.fr.mono le, fun i o e x => let ⟨q, cq, h0, h1, h2⟩ := R.hp i o e x; ⟨q, cq, h0, h1, h2.mono prog w le⟩, R.inj, R.cl, R.cf, R.gens, R.drawn, R.os⟩, le⟩
theorem RelAt.pushT (R : RelAt prog w c G st s m news) (x : Nat) : RelAt prog w c { G with T := G.T ++ [x] } { st with nT := st.nT + 1 } s m news ∧ G.Le { G with T := G.T ++ [x] } := by
  have le : G.Le { G with T := G.T ++ [x] } := ⟨List.prefix_refl _, List.prefix_refl _, List.prefix_append _ _⟩
  exact ⟨⟨R.F, R.N, R.nd, R.n, R.nS, by simp [R.nT], R.fr.mono le, fun i o e x => let ⟨q, cq, h0, h1, h2⟩ := R.hp i o e x; ⟨q, cq, h0, h1, h2.mono prog w le⟩, R.inj, R.cl, R.cf, R.gens, R.drawn, R.os⟩, le⟩
theorem newSym_ok {k : K1} {Q : Value → Shared → Prop} {x : Str} {u : Tok} (R : Rel prog w c G st s) (g : PyData.strOk x = true) (t : (newSym st k).Tr) (post : Post prog w c G k Q) : Q (.str x u) s := by
  obtain ⟨m, news, R⟩ := R
  obtain ⟨n, hp, nS, nT, fr, cl, cf⟩ := st
  simp only [newSym, natK_eq] at t
  obtain ⟨R', le⟩ := R.pushS x
  refine post _ _ _ (.sym nS) _ le R'.rel ⟨x, u, ?_, rfl, g⟩ t
  have := R.nS
  dsimp only at this
  simp [← this]

theorem allGood_mem : ∀ {l : List Str}, allGood l = true → ∀ x ∈ l, PyData.strOk x = true
  | [], _, _, h => nomatch h
  | y :: r, h, x, hx => by
    unfold allGood at h
    cases q : goodStr y with
    | false => rw [q] at h; cases h
    | true =>
      rw [q] at h
      rcases List.mem_cons.mp hx with rfl | hx
      · exact goodStr_ok q
      · exact allGood_mem h x hx
theorem opItem_ok {e sl : Expr} (hs : ∀ o i, subscripted sl false o i = operate [o, i] (getItem o i)) {x y : AV} {k : K1} {Q : Value → Shared → Prop} {v i : Value} (R : Rel prog w c G st s) (hv : VR G x v) (hi : VR G y i) (t : (opItem x y st k).Tr) (post : Post prog w c G k Q) :
    wpAny (model prog w) A (subscriptTail e sl v i) Q E s := by
  obtain ⟨m, news, R⟩ := R
  cases x <;> try exact t.elim
  case ref h =>
    obtain ⟨ad, hv, rfl⟩ := hv
    unfold opItem at t
    dsimp only at t
    cases e1 : objAt h st with
    | none => rw [e1] at t; exact t.elim
    | some o =>
      rw [e1] at t
      cases o <;> try exact t.elim
      case list xs =>
        obtain ⟨co, _, ma, vs, n, rfl, rv⟩ := R.obj hv e1
        have il := isList_at R ma
        cases y <;> try exact t.elim
        case int j =>
          obtain ⟨u, rfl⟩ := hi
          exact tail_any il.typeIs slot_list_getitem.lookup (atPlace_list R.rel il [] (by simp) (.inl rfl) rv t post) (hs _ _)
        case rng b =>
          obtain ⟨j, u, rfl, hj⟩ := hi
          dsimp only at t
          cases q : Nat.ble b (lenL xs) with
          | false => rw [q] at t; exact t.elim
          | true =>
            rw [q] at t
            have q := Nat.le_of_ble_eq_true q
            rw [lenL_eq] at q
            dsimp only at t
            cases q2 : short xs with
            | false => rw [q2] at t; exact t.elim
            | true =>
              rw [q2] at t
              dsimp only at t
              have hq := short_le q2
              cases q3 : strsOf xs with
              | none =>
                rw [q3] at t
                exact tail_any il.typeIs slot_list_getitem.lookup (atPlace_list R.rel il [] (by simp) (.inl rfl) rv (t j hj) post) (hs _ _)
              | some l =>
                rw [q3] at t
                dsimp only at t
                cases q4 : allGood l with
                | false => rw [q4] at t; exact t.elim
                | true =>
                  rw [q4] at t
                  have sa := strsOf_are q3 rv
                  have e2 := sa.len_eq
                  have e3 := rv.length
                  obtain ⟨u', hu⟩ := sa.at (j := j) (y := l[j]'(by omega)) (List.getElem?_eq_getElem _)
                  refine tail_any il.typeIs slot_list_getitem.lookup (wpAny_getItem_list il (Int.natCast_nonneg _) (by omega) (x := .str (l[j]'(by omega)) u') ?_ ?_) (hs _ _)
                  · rw [List.getElem?_toArray, Int.toNat_natCast]; exact hu
                  · exact newSym_ok R.rel (allGood_mem q4 _ (List.getElem_mem _)) t post
      case tuple xs =>
        obtain ⟨co, _, ma, vs, n, rfl, rv⟩ := R.obj hv e1
        have il := isTup_at R ma
        cases y <;> try exact t.elim
        case int j =>
          obtain ⟨u, rfl⟩ := hi
          exact tail_any il.typeIs slot_tuple_getitem.lookup (atPlace_tuple R.rel il rv t post) (hs _ _)
      case listT xs j' =>
        obtain ⟨co, _, ma, vs, tl, n, rfl, rv, _⟩ := R.obj hv e1
        have il := isList_at R ma
        cases y <;> try exact t.elim
        case int j =>
          obtain ⟨u, rfl⟩ := hi
          cases j <;> try exact t.elim
          case ofNat j =>
            exact tail_any il.typeIs slot_list_getitem.lookup (atPlace_list R.rel il tl rfl (.inr (Int.natCast_nonneg _)) rv t post) (hs _ _)

/-! slices -/
theorem pushSlice (R : RelAt prog w c G st s m news) (o o' : Obj) (hf : o'.isFreed = false) : Fr c.h₀ c.L ((s.heap.push o).push o') m ∧ News c.h₀ c.L ((s.heap.push o).push o') ((s.heap.objs.size + 1, o') :: news) := by
  have F1 := R.F.push o
  have N1 := News.pushKeep R.N o
  refine ⟨F1.push o', ?_⟩
  have := News.push F1 N1 o' hf
  rwa [Heap.size_push] at this
theorem keepTwo (h : Heap) (o : Obj) : ∀ b x, h.get? b = some x → (h.push o).get? b = some x := fun _ _ e => Heap.get?_push_of_some _ e

theorem getItem_tuple_upto {t sl : Addr} {items : Array Value} {a : Nat} {u : Tok} {Q : Value → Shared → Prop} (ht : IsTup s.heap t items) (hs : s.heap.IsSliceOf sl .none (.int a u) .none) (ha : a < items.size)
    (h : Q (.ref s.heap.objs.size) { s with heap := s.heap.push { cls := .type "tuple", data := .seq (items.toList.take a).toArray } })
    (hsz : items.size ≤ sizeLine) : wpAny (model prog w) A (getItem (.ref t) (.ref sl)) Q E s := by
  have hdrop : sizeOk (.seq (items.toList.take a).toArray) := by
    show (items.toList.take a).toArray.size ≤ sizeLine
    rw [List.size_toArray, List.length_take, Array.length_toList]
    omega
  obtain ⟨os, hos, hcs, hds⟩ := id hs
  have hTs : s.TypeIs (.ref sl) "slice" := ⟨os, hos, hcs⟩
  unfold getItem
  try with_reducible refine wpAny_holding ?_
  first | refine wpAny_bind (wpAny_pure ?_) | skip
  refine wpAny_bind (wpAny_sequenceKey ht.typeIs (by decide) ?_)
  refine wpAny_bind (wpAny_callSpecial?_slot (name := Str.ofString "__getitem__") ht.typeIs slot_tuple_getitem
    (wpAny_call_entry slot_tuple_getitem ht.typeIs entry_tuple_getitem ?_ (args_tuple_getitem _ _)))
  show wpAny _ _ (Builtin.Tuple.tupleItemsOf (.ref t) >>= _) _ _ s
  refine wpAny_bind (tupleItemsOf_ ht ?_)
  refine wpAny_bind (wpAny_typeOf hTs ?_)
  rw [if_pos (by decide)]
  have adj : Builtin.Slice.sliceAdjust none (some (a : Int)) 1 (items.size : Int) = (0, (a : Int)) := by
    unfold Builtin.Slice.sliceAdjust
    have h1 : ¬ ((1 : Int) < 0) := by omega
    have h2 : ¬ ((a : Int) < 0) := by omega
    simp only [h1, h2, if_false]
    congr 1
    omega
  have pl : Builtin.Slice.slicePlaces 0 (a : Int) 1 = a := by
    unfold Builtin.Slice.slicePlaces
    have h1 : (1 : Int) > 0 := by omega
    simp only [h1, if_true, Int.ediv_one]
    split <;> omega
  refine wpAny_bind (wpAny_mono (Q := fun r s' => r = (0, 1, a) ∧ s' = s) (E := E) ?_ ?_ fun _ _ e => e)
  · unfold Builtin.Slice.sliceApplied Builtin.Slice.sliceFields
    refine wpAny_bind (wpAny_bind (wpAny_field hos hds (x := .none) rfl (wpAny_bind (wpAny_field hos hds (x := .int a u) rfl (wpAny_bind (wpAny_field hos hds (x := .none) rfl (wpAny_pure ?_)))))))
    refine wpAny_bind (slicePart_none ?_)
    show wpAny _ _ (if ((1 : Int) == 0) = true then _ else _) _ _ s
    rw [if_neg (by decide)]
    refine wpAny_bind (slicePart_none (wpAny_bind (slicePart_int (wpAny_bind (wpAny_pure ?_)))))
    show wpAny _ _ (match Builtin.Slice.sliceAdjust none (some (a : Int)) 1 (items.size : Int) with | (lo, hi) => pure (lo, (1 : Int), Builtin.Slice.slicePlaces lo hi 1)) _ _ s
    rw [adj]
    show wpAny _ _ (pure ((0 : Int), (1 : Int), Builtin.Slice.slicePlaces 0 (a : Int) 1)) _ _ s
    rw [pl]
    exact wpAny_pure ⟨rfl, rfl⟩
  · rintro r s' ⟨rfl, rfl⟩
    have hno : ¬ (((0 : Int) == 0 && (1 : Int) == 1 && a == items.size) = true) := by
      have : (a == items.size) = false := by rw [beq_eq_false_iff_ne]; omega
      rw [this]; simp
    show wpAny _ _ (if ((0 : Int) == 0 && (1 : Int) == 1 && a == items.size) = true then _ else _) _ _ s'
    have pick : ((List.range a).filterMap fun (k : Nat) => items[((0 : Int) + (k : Int) * 1).toNat]?).toArray = (items.toList.take a).toArray := by
      have e : (fun (k : Nat) => items[((0 : Int) + (k : Int) * 1).toNat]?) = fun k => items[k]? := by
        funext k
        have : ((0 : Int) + (k : Int) * 1).toNat = k := by omega
        rw [this]
      rw [e]
      have := pick_run items 0 a
      rw [List.filterMap_map] at this
      have e2 : ((fun x => items[x]?) ∘ fun x => 0 + x) = fun k => items[k]? := by funext k; simp
      rw [e2] at this
      rw [this]; rfl
    rw [if_neg hno, pick]
    first
      | exact wpAny_bind (m := Builtin.Tuple.tupleExact _) (wpAny_newObj_type (wpAny_pure ⟨_, rfl, wpAny_pure h⟩) hdrop)
      | exact wpAny_bind (m := Builtin.Tuple.tupleExact _) (wpAny_newObj_type (wpAny_bind (wpAny_pure (wpAny_pure ⟨_, rfl, wpAny_pure h⟩))) hdrop)
      | exact wpAny_bind (wpAny_bind (m := Builtin.Tuple.tupleExact _) (wpAny_newObj_type (wpAny_pure (wpAny_pure ⟨_, rfl, wpAny_pure h⟩)) hdrop))
      | exact wpAny_bind (wpAny_bind (m := Builtin.Tuple.tupleExact _) (wpAny_newObj_type (wpAny_pure ⟨_, rfl, wpAny_pure h⟩) hdrop))

noncomputable abbrev sliceObj (a b : Value) : Obj := { cls := .type "slice", data := .fields #[a, b, .none] }
theorem Rel.pushKeep (R : RelAt prog w c G st s m news) (o : Obj) : RelAt prog w c G st { s with heap := s.heap.push o } m news := R.heap s.toks (R.F.push o) (News.pushKeep R.N o)
theorem opSlice_ok {e sl : Expr} (hs : ∀ o i, subscripted sl false o i = operate [i, o] (getItem o i)) {x a b : AV} {k : K1} {Q : Value → Shared → Prop} {v va vb : Value} (R : Rel prog w c G st s) (hv : VR G x v) (ha : VR G a va) (hb : VR G b vb) (t : (opSlice x a b st k).Tr) (post : Post prog w c G k Q) :
    wpAny (model prog w) A (subscriptTail e sl v (.ref s.heap.objs.size)) Q E { s with heap := s.heap.push (sliceObj va vb) } := by
  obtain ⟨m, news, R⟩ := R
  have R1 := Rel.pushKeep R (sliceObj va vb)
  have isl : (s.heap.push (sliceObj va vb)).IsSliceOf s.heap.objs.size va vb .none := Heap.IsSliceOf.new s.heap va vb .none
  cases x <;> try exact t.elim
  case ref h =>
    obtain ⟨ad, hv, rfl⟩ := hv
    unfold opSlice at t
    dsimp only at t
    cases e1 : objAt h st with
    | none => rw [e1] at t; exact t.elim
    | some o =>
      rw [e1] at t
      cases o <;> try exact t.elim
      case list xs =>
        obtain ⟨co, _, ma, vs, n, rfl, rv⟩ := R1.obj hv e1
        have il := isList_at R1 ma
        have hlen := rv.length
        have tt := okL_tr t
        clear t
        obtain ⟨l1, t⟩ := tt
        have hz : vs.toArray.size ≤ sizeLine := sizeLine_ge (by rw [List.size_toArray]; omega)
        cases a <;> try exact t.elim
        case none =>
          cases ha
          cases b <;> try exact t.elim
          case rng b =>
            obtain ⟨j, u, rfl, hj⟩ := hb
            obtain ⟨n', hp, nS, nT, fr, cl, cf⟩ := st
            simp only [newLen, natK_eq] at t
            refine tail_any il.typeIs slot_list_getitem.lookup (wpAny_getItem_list_slice il isl .none (.int _ _) .none (by simp) ?_ hz) (hs _ _)
            obtain ⟨R2, le⟩ := R1.pushT (slicePick vs.toArray none (some (j : Int)) none).size
            have hle := slicePick_size_le vs.toArray none (some (j : Int)) none
            have e3 : vs.toArray.size = vs.length := List.size_toArray ..
            refine allocV_ok (co := W.listOf ([] ++ (slicePick vs.toArray none (some (j : Int)) none).toList).toArray 0) (tk := s.toks) R2 (R2.F.push _) ?_ R2.ne (OR.mk_listT .nil ?_ ?_) t (fun G' st' s' a v le' r hv t => post G' st' s' a v (le.trans le') r hv t)
            · have e2 : W.listOf ([] ++ (slicePick vs.toArray none (some (j : Int)) none).toList).toArray 0 = { cls := .type "list", data := .seq (slicePick vs.toArray none (some (j : Int)) none) } := by simp [W.listOf]
              rw [e2]
              exact News.push R2.F R2.N _ rfl
            · have := R.nT
              dsimp only at this
              simp [← this, Gh.push]
            · rw [Array.length_toList]; omega
        case int i =>
          obtain ⟨ta, rfl⟩ := ha
          cases i <;> try exact t.elim
          case ofNat q =>
            cases b <;> try exact t.elim
            case none =>
              cases hb
              dsimp only at t
              cases hq : Nat.ble q (lenL xs) with
              | false => rw [hq] at t; exact t.elim
              | true =>
                rw [hq] at t
                have hq := Nat.le_of_ble_eq_true hq
                rw [lenL_eq] at hq
                dsimp only at t
                rw [dropL_eq] at t
                refine tail_any il.typeIs slot_list_getitem.lookup (wpAny_getItem_list_slice il isl (.int _ _) .none .none (by simp) ?_ hz) (hs _ _)
                have e2 := slicePick_from vs.toArray q (by rw [List.size_toArray]; omega)
                show Q _ { s with heap := (s.heap.push (sliceObj (.int (Int.ofNat q) ta) .none)).push { cls := .type "list", data := .seq (slicePick vs.toArray (some (q : Int)) none none) } }
                rw [e2]
                exact allocV_ok (co := W.listOf (vs.drop q).toArray 0) (tk := s.toks) R1 (R1.F.push _) (News.push R1.F R1.N _ rfl) R1.ne (OR.mk_list (VRs.mono (G.le_push _) (rv.drop q))) t post
      case tuple xs =>
        obtain ⟨co, _, ma, vs, n, rfl, rv⟩ := R1.obj hv e1
        have il := isTup_at R1 ma
        have hlen := rv.length
        have tt := okL_tr t
        clear t
        obtain ⟨l1, t⟩ := tt
        have hz : vs.toArray.size ≤ sizeLine := sizeLine_ge (by rw [List.size_toArray]; omega)
        cases a <;> try exact t.elim
        case none =>
          cases ha
          cases b <;> try exact t.elim
          case int j =>
            obtain ⟨u, rfl⟩ := hb
            cases j <;> try exact t.elim
            case ofNat q =>
              dsimp only at t
              cases hq : Nat.ble 1 q with
              | false => rw [hq] at t; exact t.elim
              | true =>
                rw [hq] at t
                dsimp only at t
                cases hq' : Nat.ble (q + 1) (lenL xs) with
                | false => rw [hq'] at t; exact t.elim
                | true =>
                  rw [hq'] at t
                  have hq' := Nat.le_of_ble_eq_true hq'
                  rw [lenL_eq] at hq'
                  dsimp only at t
                  rw [takeK_eq] at t
                  exact tail_any il.typeIs slot_tuple_getitem.lookup (getItem_tuple_upto (a := q) il isl (by rw [List.size_toArray]; omega)
                    (allocV_ok (co := { cls := .type "tuple", data := .seq (vs.take q).toArray }) (tk := s.toks) R1 (R1.F.push _) (News.push R1.F R1.N _ rfl) R1.ne (OR.mk_tuple (VRs.mono (G.le_push _) (rv.take q))) t post) hz) (hs _ _)
        case int i =>
          obtain ⟨ta, rfl⟩ := ha
          cases i <;> try exact t.elim
          case ofNat q =>
            cases b <;> try exact t.elim
            case none =>
              cases hb
              dsimp only at t
              cases hq : Nat.ble 1 q with
              | false => rw [hq] at t; exact t.elim
              | true =>
                rw [hq] at t
                dsimp only at t
                cases hq' : Nat.ble q (lenL xs) with
                | false => rw [hq'] at t; exact t.elim
                | true =>
                  rw [hq'] at t
                  have hq := Nat.le_of_ble_eq_true hq
                  have hq' := Nat.le_of_ble_eq_true hq'
                  rw [lenL_eq] at hq'
                  dsimp only at t
                  rw [dropL_eq] at t
                  exact tail_any il.typeIs slot_tuple_getitem.lookup (getItem_tuple_from (a := q) il isl hq (by rw [List.size_toArray]; omega)
                    (allocV_ok (co := { cls := .type "tuple", data := .seq (vs.drop q).toArray }) (tk := s.toks) R1 (R1.F.push _) (News.push R1.F R1.N _ rfl) R1.ne (OR.mk_tuple (VRs.mono (G.le_push _) (rv.drop q))) t post) hz) (hs _ _)
theorem anyInt_eq (i : Int) : ∀ l : List Int, anyInt i l = l.any fun j => j == i
  | [] => rfl
  | j :: r => by
    unfold anyInt
    rw [List.any_cons, intEq_beq]
    cases j == i <;> simp [anyInt_eq i r]
theorem opSetItem_ok {x y z : AV} {k : St → Dt} {Q : Unit → Shared → Prop} {v i u : Value} (R : Rel prog w c G st s) (hv : VR G x v) (hi : VR G y i) (hu : VR G z u) (t : (opSetItem x y z st k).Tr) (post : PostU prog w c G k Q) :
    wpAny (model prog w) A (setItem v i u) Q E s := by
  obtain ⟨m, news, R⟩ := R
  cases x <;> try exact t.elim
  case ref h =>
    obtain ⟨ad, hv, rfl⟩ := hv
    unfold opSetItem at t
    dsimp only at t
    cases e1 : objAt h st with
    | none => rw [e1] at t; exact t.elim
    | some o =>
      rw [e1] at t
      cases o <;> try exact t.elim
      case list xs =>
        obtain ⟨co, hn, ma, vs, n, rfl, rv⟩ := R.obj hv e1
        have hlen := rv.length
        cases y <;> try exact t.elim
        case int j =>
          obtain ⟨tj, rfl⟩ := hi
          cases j <;> try exact t.elim
          case ofNat q =>
            dsimp only at t
            cases hq : short xs with
            | false => rw [hq] at t; exact t.elim
            | true =>
              rw [hq] at t
              have hq := short_le hq
              dsimp only at t
              cases hq' : Nat.ble (q + 1) (lenL xs) with
              | false => rw [hq'] at t; exact t.elim
              | true =>
                rw [hq'] at t
                have hq' := Nat.le_of_ble_eq_true hq'
                rw [lenL_eq] at hq'
                dsimp only at t
                have t := listSetK_tr z xs q _ t
                rw [putK_eq] at t
                obtain ⟨pre, pst, en, en', h1, h2⟩ := (R.upd (W.listOf (vs.set q u).toArray n) hn).split
                have hnews := R.N _ ma
                refine ki_setAt hnews.1 (Int.natCast_nonneg q) (by simp only [Int.ofNat_eq_natCast]; omega) (by rw [List.size_toArray]; simp only [Int.ofNat_eq_natCast]; omega) ?_
                refine post _ _ _ (.refl G) (R.put (co' := W.listOf (vs.set q u).toArray n) s.toks hn (R.F.change (Heap.SameBut.update ..) hnews.2.1 hnews.2.2) ?_ (OR.mk_list (rv.set q hu))).rel t
                rw [en']
                have N := R.N
                rw [en] at N
                exact ki_turn _ N h1 h2 (by apply Array.toList_inj.mp; simp) (by simp)
      case idict ks =>
        obtain ⟨co, hn, ma, hlo, kvs, D, hd, hf, hl, hb⟩ := R.obj hv e1
        cases y <;> try exact t.elim
        case int j =>
          obtain ⟨tj, rfl⟩ := hi
          cases z <;> try exact t.elim
          case bool b =>
            cases hu
            cases b <;> try exact t.elim
            dsimp only at t
            cases hq : Nat.ble (lenL ks) 1000 with
            | false => rw [hq] at t; exact t.elim
            | true =>
              rw [hq] at t
              have hq := Nat.le_of_ble_eq_true hq
              rw [lenL_eq] at hq
              dsimp only at t
              refine setItem_K (dv := .bool true) PyProof.V.same_int (PySem.intKind_is prog w j tj) (.bool true) R.F R.N (R.updF hn) hd hf (fun h' o' F' N' hd' hf' => ?_) (sizeLine_ge (by omega))
              cases hj : anyInt j ks with
              | true =>
                rw [hj] at t
                dsimp only at t
                have hp : (Spec.lookup (PyData.int j) D).isSome = true := by rw [hl j, hj]
                have R2 : RelAt prog w c G st { s with heap := h', toks := s.toks + 1 } m (setN news ad o') := by
                  refine R.putSame (s.toks + 1) hn e1 F' N' ⟨hlo, _, _, hd', hf', fun i => ?_, ?_⟩
                  · rw [lookup_putD_int]
                    by_cases hij : i = j
                    · rw [if_pos hij, hij, hj]; rfl
                    · rw [if_neg hij]; exact hl i
                  · rw [putD_present hp, List.length_map]; exact hb
                exact post _ _ _ (.refl G) R2.rel t
              | false =>
                rw [hj] at t
                dsimp only at t
                rw [putK_eq] at t
                refine post _ _ _ (.refl G) (R.put (s.toks + 1) hn F' N' (show OR prog w G (.idict (j :: ks)) _ _ from ⟨hlo, _, _, hd', hf', fun i => ?_, ?_⟩)).rel t
                · rw [lookup_putD_int]
                  by_cases hij : i = j
                  · rw [if_pos hij, hij]
                    unfold anyInt
                    rw [(intEq_iff j j).mpr rfl]; rfl
                  · rw [if_neg hij, hl i]
                    rw [anyInt_eq, anyInt_eq, List.any_cons]
                    have : (j == i) = false := by rw [beq_eq_false_iff_ne]; exact Ne.symm hij
                    rw [this, Bool.false_or]
                · have := PyProof.V.putD_length_le (PyData.int j) (.bool true) D
                  simp only [List.length_cons]; omega
end
end Mine

namespace Mine
open PySem PySem.W PyProof.Rows

section
variable {prog : Program} {w : World} {c : Cx} {G : Gh} {st : St} {s : Shared} {m : Str → Option Value} {news : List (Addr × Obj)} {A : Around} {E : Value → Shared → Prop}

theorem fr_extIn {h₀ h h' : Heap} {L b : Addr} {m : Str → Option Value} (F : Fr h₀ L h m) (hs : Heap.ExtBut b h h') (hL : b ≠ L) (hn : h₀.get? b = none) : Fr h₀ L h' m :=
  ⟨F.ns.extBut hs hL.symm, fun x o e => hs x o (fun q => by rw [q, hn] at e; cases e) (F.keep x o e), F.above⟩
theorem RelAt.newsExt (R : RelAt prog w c G st s m news) {h' : Heap} {i : Nat} {a : Addr} {co co' : Obj} (hi : HAt G st news i a co) (hs : Heap.ExtBut a s.heap h') (ho : h'.get? a = some co') : News c.h₀ c.L h' (setN news a co') := by
  intro q hq
  rcases mem_setN hq with rfl | ⟨hq, ne⟩
  · exact ⟨ho, (R.N _ hi.mem).2⟩
  · exact ⟨hs _ _ ne (R.N q hq).1, (R.N q hq).2⟩
theorem RelAt.putExt (R : RelAt prog w c G st s m news) {h' : Heap} {i : Nat} {a : Addr} {co co' : Obj} {o : AO} (tk : Nat) (hi : HAt G st news i a co) (hs : Heap.ExtBut a s.heap h') (ho : h'.get? a = some co') (r : OR prog w G o a co') :
    RelAt prog w c G (stPut i o st) { s with heap := h', toks := tk } m (setN news a co') :=
  have hn := R.N _ hi.mem
  R.put tk hi (fr_extIn R.F hs hn.2.1 hn.2.2) (R.newsExt hi hs ho) r
theorem RelAt.lose (R : RelAt prog w c G st s m news) {h' : Heap} {i : Nat} {a : Addr} {co : Obj} (tk : Nat) (hi : HAt G st news i a co) (hs : Heap.ExtBut a s.heap h') :
    Rel prog w c G (stPut i .any st) { s with heap := h', toks := tk } :=
  have hn := R.N _ hi.mem
  (R.drop tk hi (fr_extIn R.F hs hn.2.1 hn.2.2) hs).rel

theorem opIter_ok {x : AV} {k : Nat → St → Dt} {Q : Value → Shared → Prop} {v : Value} (R : Rel prog w c G st s) (hv : VR G x v) (t : (opIter x st k).Tr)
    (post : ∀ G' st' s' hI it, G.Le G' → Rel prog w c G' st' s' → G'.ρ[hI]? = some it → (k hI st').Tr → Q (.ref it) s') : wpAny (model prog w) A (pyIter v) Q E s := by
  obtain ⟨m, news, R⟩ := R
  cases x <;> try exact t.elim
  case ref h =>
    obtain ⟨ad, hv, rfl⟩ := hv
    unfold opIter at t
    dsimp only at t
    cases e1 : objAt h st with
    | none => rw [e1] at t; exact t.elim
    | some o =>
      rw [e1] at t
      cases o <;> try exact t.elim
      case list xs =>
        obtain ⟨co, _, ma, vs, n, rfl, rv⟩ := R.obj hv e1
        refine wpAny_pyIter_list (isList_at R ma) ?_
        exact allocK_ok R s.toks (R.F.push _) (News.push R.F R.N _ rfl) R.ne (show OR prog w (G.push _) (.liter h 0) _ _ from ⟨ad, pre_get (G.le_push _).r hv, rfl, rfl⟩) t fun G' st' hn le e _ R' t => post _ _ _ _ _ le R'.rel e t
      case range a b d =>
        obtain ⟨co, _, ma, t1, u1, v1, rfl⟩ := R.obj hv e1
        dsimp only at t
        cases q : Builtin.Range.small a b d with
        | false => rw [q] at t; exact t.elim
        | true =>
          rw [q] at t
          simp only [intK_eq] at t
          refine wpAny_pyIter_range (R.N.get ma) q ?_
          exact allocK_ok R s.toks (R.F.push _) (News.push R.F R.N _ rfl) R.ne (show OR prog w (G.push _) (.riter a (Builtin.Range.rangeSize a b d) d) _ _ from rfl) t fun G' st' hn le e _ R' t => post _ _ _ _ _ le R'.rel e t
theorem opNext_ok (hh : A.handled = none) {hI : Nat} {it : Addr} {kEnd : St → Dt} {kItem : AV → St → Dt} {Q : Option Value → Shared → Prop} (R : Rel prog w c G st s) (hi : G.ρ[hI]? = some it) (t : (opNext hI st kEnd kItem).Tr)
    (pe : ∀ st' s', Rel prog w c G st' s' → (kEnd st').Tr → Q none s')
    (pi : ∀ st' s' a v, Rel prog w c G st' s' → VR G a v → (kItem a st').Tr → Q (some v) s') : wpAny (model prog w) A (pyNext (.ref it)) Q E s := by
  obtain ⟨m, news, R⟩ := R
  unfold opNext at t
  cases e1 : objAt hI st with
  | none => rw [e1] at t; exact t.elim
  | some o =>
    rw [e1] at t
    cases o <;> try exact t.elim
    case liter l i =>
      obtain ⟨co, hn, ma, al, hal, hc, hd⟩ := R.obj hi e1
      have hit : s.heap.IsListIter it al i := ⟨co, R.N.get ma, hc, hd⟩
      dsimp only at t
      cases e2 : objAt l st with
      | none => rw [e2] at t; exact t.elim
      | some o' =>
        rw [e2] at t
        cases o' <;> try exact t.elim
        case list xs =>
          obtain ⟨co', _, ml, vs, n, rfl, rv⟩ := R.obj hal e2
          have il := isList_at R ml
          dsimp only at t
          cases g : Mine.getL xs i with
          | none =>
            rw [g] at t
            dsimp only at t
            rw [putK_eq] at t
            rw [getL_eq] at g
            refine wpAny_pyNext_list_end hh hit il (by rw [List.getElem?_toArray]; exact rv.get_none g) fun h' hx => ?_
            exact pe _ _ (R.lose s.toks hn hx) t
          | some y =>
            rw [g] at t
            simp only [natK_eq, putK_eq] at t
            rw [getL_eq] at g
            obtain ⟨v, hv, hr⟩ := rv.get g
            refine wpAny_pyNext_list_item hit il (x := v) (by rw [List.getElem?_toArray]; exact hv) fun h' ⟨o', ho', hc', hd'⟩ hx => ?_
            exact pi _ _ _ _ (R.putExt s.toks hn hx.extBut ho' (show OR prog w G (.liter l (i + 1)) _ _ from ⟨al, hal, hc', hd'⟩)).rel hr t
    case riter x left step =>
      obtain ⟨co, hn, ma, e0⟩ := R.obj hi e1
      have hit : IsRangeIter s.heap it x left step := by have := R.N.get ma; rw [e0] at this; exact this
      dsimp only at t
      cases q : intLt 0 left with
      | true =>
        rw [q] at t
        simp only [intK_eq, putK_eq] at t
        refine wpAny_pyNext_range_item hit ((intLt_iff _ _).mp q) fun h' ho' hx => ?_
        exact pi _ _ _ _ (R.putExt (s.toks + 1) hn hx.extBut ho' (show OR prog w G (.riter (x + step) (left - 1) step) _ _ from rfl)).rel (VR.mk_int _ _) t
      | false =>
        rw [q] at t
        dsimp only at t
        rw [putK_eq] at t
        have q : left ≤ 0 := by
          rw [intLt_dec] at q
          have := of_decide_eq_false q
          omega
        refine wpAny_pyNext_range_end hh hit q fun h' hx => ?_
        exact pe _ _ (R.lose s.toks hn hx) t
theorem opUnpack_at {n : Nat} {x : AV} {k : List AV → St → Dt} {v : Value} (R : RelAt prog w c G st s m news) (hv : VR G x v) (t : (opUnpack n x st k).Tr) :
    ∃ a xs vs, v = .ref a ∧ IsTup s.heap a vs.toArray ∧ VRs G xs vs ∧ vs.length = n ∧ (k xs st).Tr := by
  cases x <;> try exact t.elim
  case ref h =>
    obtain ⟨ad, hv, rfl⟩ := hv
    unfold opUnpack at t
    dsimp only at t
    cases e1 : objAt h st with
    | none => rw [e1] at t; exact t.elim
    | some o =>
      rw [e1] at t
      cases o <;> try exact t.elim
      case tuple xs =>
        obtain ⟨co, _, ma, vs, n', rfl, rv⟩ := R.obj hv e1
        dsimp only at t
        cases q : Nat.beq (lenL xs) n with
        | false => rw [q] at t; exact t.elim
        | true =>
          rw [q] at t
          have q := Nat.eq_of_beq_eq_true q
          rw [lenL_eq] at q
          exact ⟨ad, xs, vs, rfl, isTup_at R ma, rv, by rw [← rv.length, q], t⟩
theorem truthyK_ok {x : AV} {k : Bool → St → Dt} {Q : Bool → Shared → Prop} {v : Value} (hv : VR G x v) (t : (truthyK x st k).Tr) (post : ∀ b, (k b st).Tr → Q b s) : wpAny (model prog w) A (truthy v) Q E s := by
  cases x <;> try exact t.elim
  case bool b =>
    cases hv
    simp only [truthyK] at t
    exact wpAny_truthy_bool (post b (boolK_tr t))
end
end Mine

namespace Mine
open PySem PySem.W PyProof.Rows

section
variable {prog : Program} {w : World} {c : Cx} {G : Gh} {st : St} {s : Shared} {m : Str → Option Value} {news : List (Addr × Obj)} {A : Around} {E : Value → Shared → Prop} {K : Frag}

theorem lastK_ok : ∀ (xs : List AV) (k : List AV → AV → Dt), (lastK xs k).Tr → ∃ ys y, xs = ys ++ [y] ∧ (k ys y).Tr
  | [], _, h => h.elim
  | x :: r, k, h => by
    cases r with
    | nil => exact ⟨[], x, rfl, h⟩
    | cons y r =>
      unfold lastK at h
      dsimp only at h
      obtain ⟨ys, z, e, hk⟩ := lastK_ok (y :: r) _ h
      exact ⟨x :: ys, z, by rw [e]; rfl, hk⟩
theorem All2.snoc {α β : Type} {R : α → β → Prop} : ∀ {ys : List α} {y : α} {vs : List β}, All2 R (ys ++ [y]) vs → ∃ us u, vs = us ++ [u] ∧ All2 R ys us ∧ R y u
  | [], _, _, .cons h .nil => ⟨[], _, rfl, .nil, h⟩
  | _ :: _, _, _, .cons h r => let ⟨us, u, e, a, b⟩ := All2.snoc r; ⟨_ :: us, u, by rw [e]; rfl, .cons h a, b⟩
theorem kl_last_snoc : ∀ (us : List Value) (u : Value), kl_last (us ++ [u]) = some (us, u)
  | [], _ => rfl
  | x :: r, u => by
    show (match kl_last (r ++ [u]) with | some (p, y) => some (x :: p, y) | none => some ([], x)) = _
    rw [kl_last_snoc r u]
theorem maxVal (a b d : Int) (t u x : Tok) : VR G (.int (max3 a b d)) (if b > a then if d > b then Value.int d x else Value.int b u else if d > a then Value.int d x else Value.int a t) := by
  unfold max3
  cases h1 : intLt a b with
  | true =>
    have e1 := (intLt_iff _ _).mp h1
    rw [if_pos e1]
    cases h2 : intLt b d with
    | true => rw [if_pos ((intLt_iff _ _).mp h2)]; exact ⟨x, rfl⟩
    | false =>
      rw [intLt_dec] at h2
      rw [if_neg (of_decide_eq_false h2)]; exact ⟨u, rfl⟩
  | false =>
    rw [intLt_dec] at h1
    rw [if_neg (of_decide_eq_false h1)]
    cases h2 : intLt a d with
    | true => rw [if_pos ((intLt_iff _ _).mp h2)]; exact ⟨x, rfl⟩
    | false =>
      rw [intLt_dec] at h2
      rw [if_neg (of_decide_eq_false h2)]; exact ⟨t, rfl⟩
theorem intAbs_eq (i : Int) : intAbs i = if i < 0 then -i else i := by
  cases i with
  | ofNat n => rw [if_neg (by simp only [Int.ofNat_eq_natCast]; omega)]; rfl
  | negSucc n => rw [if_pos (by omega)]; rfl

theorem opBi_ok (hh : A.handled = none) (X : K.In c.h₀) (hisi : isIn K (.ref 147) 147 = true) {b : BI} {args : List AV} {vs : List Value} {k : K1} {Q : Value → Shared → Prop} (R : Rel prog w c G st s) (rv : VRs G args vs) (t : (opBi b args st k).Tr) (post : Post prog w c G k Q) :
    wpAny (model prog w) A (call b.val vs) Q E s := by
  obtain ⟨m, news, R⟩ := R
  unfold opBi at t
  cases b <;> dsimp only at t
  case len =>
    cases rv <;> try exact t.elim
    case cons x v xs vs hx r =>
      cases x <;> try exact t.elim
      case ref h =>
        cases r <;> try exact t.elim
        obtain ⟨ad, ha, rfl⟩ := hx
        dsimp only at t
        cases e : objAt h st with
        | none => rw [e] at t; exact t.elim
        | some o =>
          rw [e] at t
          cases o <;> try exact t.elim
          case list ys =>
            obtain ⟨co, _, ma, us, n, rfl, ru⟩ := R.obj ha e
            have hl := ru.length
            obtain ⟨l1, t⟩ := okL_tr t
            rw [natK_eq, lenL_eq] at t
            refine kun_lenL (isList_at R ma) (k := (ys.length : Int)) (by rw [List.size_toArray, hl]) (by omega) ?_
            exact post.now (R.toks _).rel (VR.mk_int _ _) t
          case tuple ys =>
            obtain ⟨co, _, ma, us, n, rfl, ru⟩ := R.obj ha e
            have hl := ru.length
            obtain ⟨l1, t⟩ := okL_tr t
            rw [natK_eq, lenL_eq] at t
            refine kun_lenT (isTup_at R ma) (k := (ys.length : Int)) (by rw [List.size_toArray, hl]) (by omega) ?_
            exact post.now (R.toks _).rel (VR.mk_int _ _) t
          case listT ys j =>
            obtain ⟨co, _, ma, us, tl, n, rfl, ru, hT, hb⟩ := R.obj ha e
            have hl := ru.length
            obtain ⟨l1, t⟩ := okL_tr t
            rw [natK_eq, lenL_eq] at t
            refine kun_lenL (isList_at R ma) (k := ((ys.length + tl.length : Nat) : Int)) (by rw [List.size_toArray, List.length_append, hl]) (by omega) ?_
            exact post.now (R.toks _).rel (show VR G (.len ys.length j) _ from ⟨tl.length, _, hT, hb, rfl⟩) t
  case range =>
    cases rv <;> try exact t.elim
    case cons x v xs vs hx r =>
      cases x <;> try exact t.elim
      case int a =>
        obtain ⟨ta, rfl⟩ := hx
        cases r with
        | nil =>
          dsimp only at t
          cases q : smallInt a with
          | false => rw [q] at t; exact t.elim
          | true =>
            rw [q] at t
            refine range1_rows R.F R.N fun h' tk t1 u1 v1 hr F' N' hk => ?_
            exact allocV_ok (tk := tk) R F' (fresh_news R.F N' hr) R.ne (show OR prog w (G.push _) (.range 0 a 1) _ _ from ⟨t1, u1, v1, rfl⟩) t post
        | cons hy r =>
          rename_i y _ _ _
          cases y <;> try exact t.elim
          case int b' =>
            obtain ⟨tb, rfl⟩ := hy
            cases r with
            | nil => exact t.elim
            | cons hz r =>
              rename_i z _ _ _
              cases z <;> try exact t.elim
              case int d =>
                obtain ⟨td, rfl⟩ := hz
                cases r with
                | cons _ _ => exact t.elim
                | nil =>
                  dsimp only at t
                  cases q : smallInt a with
                  | false => rw [q] at t; exact t.elim
                  | true =>
                    rw [q] at t
                    dsimp only at t
                    cases q : smallInt b' with
                    | false => rw [q] at t; exact t.elim
                    | true =>
                      rw [q] at t
                      dsimp only at t
                      cases q : smallInt d with
                      | false => rw [q] at t; exact t.elim
                      | true =>
                        rw [q] at t
                        dsimp only at t
                        cases q' : intEq d 0 with
                        | true => rw [q'] at t; exact t.elim
                        | false =>
                          rw [q'] at t
                          have q := smallInt_le q
                          refine range3_rows R.F R.N (fun e => ?_) (fun h' tk t1 u1 v1 hr F' N' hk => ?_) (.inl (PyProof.noPylong_small (by omega)))
                          · rw [(intEq_iff d 0).mpr e] at q'; cases q'
                          · exact allocV_ok (tk := tk) R F' (fresh_news R.F N' hr) R.ne (show OR prog w (G.push _) (.range a b' d) _ _ from ⟨t1, u1, v1, rfl⟩) t post
  case abs =>
    cases rv <;> try exact t.elim
    case cons x v xs vs hx r =>
      cases x <;> try exact t.elim
      case int a =>
        obtain ⟨ta, rfl⟩ := hx
        cases r <;> try exact t.elim
        dsimp only at t
        rw [intK_eq, intAbs_eq] at t
        exact call_abs_int fun u tk => post.now (R.toks tk).rel (VR.mk_int _ _) t
  case isinstance =>
    cases rv <;> try exact t.elim
    case cons x v xs vs hx r =>
      cases x <;> try exact t.elim
      case ref h =>
        obtain ⟨ad, ha, rfl⟩ := hx
        cases r <;> try exact t.elim
        case cons y v' ys vs' hy r =>
          cases y <;> try exact t.elim
          case old C =>
            cases r <;> try exact t.elim
            cases hy
            dsimp only at t
            cases e : objAt h st with
            | none => rw [e] at t; exact t.elim
            | some o =>
              rw [e] at t
              cases o <;> try exact t.elim
              case inst D d =>
                obtain ⟨co, _, ma, dx, hd, rfl⟩ := R.obj ha e
                dsimp only at t
                cases q : Nat.beq D C with
                | false => rw [q] at t; exact t.elim
                | true =>
                  rw [q] at t
                  dsimp only at t
                  cases q' : Nat.beq C 147 with
                  | false => rw [q'] at t; exact t.elim
                  | true =>
                    rw [q'] at t
                    have q := Nat.eq_of_beq_eq_true q
                    have q' := Nat.eq_of_beq_eq_true q'
                    subst q
                    subst q'
                    cases e2 : objAt d st with
                    | none => rw [e2] at t; exact t.elim
                    | some od =>
                    rw [e2] at t
                    cases od <;> try exact t.elim
                    obtain ⟨co, _, mb, _⟩ := R.obj hd e2
                    have I := InstAt.of_news R.N ma mb
                    exact isi_call (X.keeps R.F.keep) (fun M => I.type) hisi (by simp) (post.now R.rel (VR.mk_bool true) t)
  case max =>
    cases rv <;> try exact t.elim
    case cons x v xs vs hx r =>
      cases x <;> try exact t.elim
      case int a =>
        obtain ⟨ta, rfl⟩ := hx
        cases r <;> try exact t.elim
        case cons y v' ys vs' hy r =>
          cases y <;> try exact t.elim
          case int b' =>
            obtain ⟨tb, rfl⟩ := hy
            cases r <;> try exact t.elim
            case cons z v'' zs vs'' hz r =>
              cases z <;> try exact t.elim
              case int d =>
                obtain ⟨td, rfl⟩ := hz
                cases r <;> try exact t.elim
                dsimp only at t
                rw [intK_eq] at t
                exact max_three_ints hh fun h' tk hk => post.now (R.rel.grow tk hk) (maxVal a b' d ta tb td) t
  case str =>
    cases rv <;> try exact t.elim
    case cons x v xs vs hx r =>
      cases x <;> try exact t.elim
      case int a =>
        obtain ⟨ta, rfl⟩ := hx
        cases r <;> try exact t.elim
        dsimp only at t
        cases q : smallInt a with
        | false => rw [q] at t; exact t.elim
        | true =>
          rw [q] at t
          have q := smallInt_le q
          exact str_of_int_fit (N := 10000000) (by split <;> omega) (by omega) fun _ => post.now (R.toks _).rel (VR.mk_str _ _) t
      case str x =>
        obtain ⟨ta, rfl⟩ := hx
        cases r <;> try exact t.elim
        exact P.str_of_str (post.now R.rel (VR.mk_str _ _) t)
  case list =>
    cases rv <;> try exact t.elim
    case cons x v xs vs hx r =>
      cases x <;> try exact t.elim
      case ref h =>
        cases r <;> try exact t.elim
        obtain ⟨ad, ha, rfl⟩ := hx
        dsimp only at t
        cases e : objAt h st with
        | none => rw [e] at t; exact t.elim
        | some o =>
          rw [e] at t
          cases o <;> try exact t.elim
          case list ys =>
            obtain ⟨co, _, ma, us, n, rfl, ru⟩ := R.obj ha e
            have hl := ru.length
            obtain ⟨l1, t⟩ := okL_tr t
            refine list_copyK R.F R.N (isList_at R ma) (fun D n' h' F' N' hlt => ?_) (sizeLine_ge (by rw [List.size_toArray]; omega))
            exact allocV_ok (tk := s.toks) R F' N' (fun q hq => Nat.ne_of_lt (hlt q hq)) (OR.mk_list (VRs.mono (G.le_push _) ru)) t post
          case listT ys j =>
            obtain ⟨co, _, ma, us, tl, n, rfl, ru, hT, hb⟩ := R.obj ha e
            have hl := ru.length
            obtain ⟨l1, t⟩ := okL_tr t
            refine list_copyK R.F R.N (isList_at R ma) (fun D n' h' F' N' hlt => ?_) (sizeLine_ge (by rw [List.size_toArray, List.length_append]; omega))
            exact allocV_ok (tk := s.toks) R F' N' (fun q hq => Nat.ne_of_lt (hlt q hq)) (OR.mk_listT (VRs.mono (G.le_push _) ru) hT hb) t post
  case append =>
    cases rv <;> try exact t.elim
    case cons x v xs vs hx r =>
      cases x <;> try exact t.elim
      case ref h =>
        cases r <;> try exact t.elim
        case cons y v' ys vs' hy r =>
          cases r <;> try exact t.elim
          obtain ⟨ad, ha, rfl⟩ := hx
          dsimp only at t
          cases e : objAt h st with
          | none => rw [e] at t; exact t.elim
          | some o =>
            rw [e] at t
            cases o <;> try exact t.elim
            case list zs =>
              obtain ⟨co, hn, ma, us, n, rfl, ru⟩ := R.obj ha e
              have hl := ru.length
              obtain ⟨l1, t⟩ := okL_tr t
              rw [appK_eq, putK_eq] at t
              refine append_K (its := us.toArray) (n := n) R.F R.N (R.upd _ hn) (fun h' F' N' => ?_) (sizeLine_ge (by rw [List.size_toArray]; omega))
              have e2 : W.listOf (us.toArray.push v') (n + 1) = W.listOf (us ++ [v']).toArray (n + 1) := by simp
              rw [e2] at N'
              exact post.now (R.put s.toks hn F' N' (OR.mk_list (ru.append (.cons hy .nil)))).rel VR.mk_none t
  case pop =>
    cases rv <;> try exact t.elim
    case cons x v xs vs hx r =>
      cases x <;> try exact t.elim
      case ref h =>
        cases r <;> try exact t.elim
        obtain ⟨ad, ha, rfl⟩ := hx
        dsimp only at t
        cases e : objAt h st with
        | none => rw [e] at t; exact t.elim
        | some o =>
          rw [e] at t
          cases o <;> try exact t.elim
          case list zs =>
            obtain ⟨co, hn, ma, us, n, rfl, ru⟩ := R.obj ha e
            have hl := ru.length
            obtain ⟨l1, t⟩ := okL_tr t
            obtain ⟨ys, y, rfl, t2⟩ := lastK_ok _ _ t
            rw [putK_eq] at t2
            obtain ⟨us', u, rfl, r1, r2⟩ := ru.snoc
            refine kl_pop (p := us') (y := u) R.F R.N (kl_last_snoc _ _) (R.upd _ hn) (sizeLine_ge (by simp at hl ⊢; simp at l1; omega)) (fun h' F' N' => ?_)
            exact post.now (R.put s.toks hn F' N' (OR.mk_list r1)).rel r2 t2
end
end Mine

namespace Mine
open PySem PySem.W PyProof.Rows

noncomputable def GlbOk (K : Frag) (x : Str) : AV → Prop
  | .old a => nsIn K mainGlobals x = some (some (.ref a))
  | .bi b => nsIn K mainGlobals x = some none ∧ bootBuiltins x = some b.val ∧ x ≠ "__name__"
  | _ => False

section
variable {prog : Program} {w : World} {c : Cx} {G : Gh} {st : St} {s : Shared} {m : Str → Option Value} {news : List (Addr × Obj)} {A : Around} {E : Value → Shared → Prop}
  {K : Frag} {p : Program} {loose : List Str} {mean : ExcName → Option Value} {mg mb : Str → Option Value}

theorem strEq_debug {x : Str} (h : strEq x debugS = false) : (x == ("__debug__" : Str)) = false := by rw [← strEq_beq]; exact h

theorem evCell_ok {x : Str} {k : K1} (R : RelAt prog w c G st s m news) (t : (evCell x st k).Tr) :
    ∃ a v y, c.env.cells.lookup x = some a ∧ s.heap.IsCell a (some v) ∧ VR G y v ∧ (k y st).Tr := by
  have key : ∀ h y, look x st.cl = some h → objAt h st = some (.cell (some y)) → ∃ a v, c.env.cells.lookup x = some a ∧ s.heap.IsCell a (some v) ∧ VR G y v := fun h y h1 h2 => by
    obtain ⟨a, e1, e2⟩ := R.cl x h h1
    obtain ⟨co, hn, ma, u, hu, v, rfl, hv⟩ := R.obj e2 h2
    exact ⟨a, v, e1, ⟨co, R.N.get ma, hu⟩, hv⟩
  obtain ⟨n, hp, nS, nT, fr, cl, cf⟩ := st
  unfold evCell at t
  dsimp only at t
  cases e : look x cl with
  | none => rw [e] at t; exact t.elim
  | some h =>
    rw [e] at t
    dsimp only at t
    cases e2 : hp.get h with
    | none => rw [e2] at t; exact t.elim
    | some o =>
      rw [e2] at t
      cases o <;> try exact t.elim
      case cell v =>
        cases v with
        | none => exact t.elim
        | some y =>
          obtain ⟨a, v, h1, h2, h3⟩ := key h y e e2
          exact ⟨a, v, y, h1, h2, h3, t⟩
theorem evLocal_ok {x : Str} {k : K1} (hfl : c.fenv.locals = c.L) (R : RelAt prog w c G st s m news) (t : (evLocal x st k).Tr) :
    ∃ m' v y, s.heap.Ns c.env.locals m' ∧ m' x = some v ∧ VR G y v ∧ (k y st).Tr := by
  have keyF : ∀ y, st.cf = none → look x st.fr = some y → ∃ m' v, s.heap.Ns c.env.locals m' ∧ m' x = some v ∧ VR G y v := fun y h1 h2 => by
    have := R.cf
    rw [h1] at this
    obtain ⟨v, hv, hr⟩ := R.fr x y h2
    refine ⟨m, v, ?_, hv, hr⟩
    rw [this.1, hfl]
    exact R.F.ns
  have keyC : ∀ hC fs y, st.cf = some hC → objAt hC st = some (.ns fs) → look x fs = some y → ∃ m' v, s.heap.Ns c.env.locals m' ∧ m' x = some v ∧ VR G y v := fun hC fs y h1 h2 h3 => by
    have := R.cf
    rw [h1] at this
    obtain ⟨a, e1, e2⟩ := this
    obtain ⟨co, hn, ma, es, ep, hd, hs, hf⟩ := R.obj e1 h2
    obtain ⟨v, hv, hr⟩ := hf x y h3
    refine ⟨nsFind es, v, ?_, hv, hr⟩
    rw [e2]
    exact ⟨co, es, ep, R.N.get ma, hd, hs, fun _ => rfl⟩
  obtain ⟨n, hp, nS, nT, fr, cl, cf⟩ := st
  unfold evLocal at t
  dsimp only at t
  cases cf with
  | none =>
    dsimp only at t
    cases e : look x fr with
    | none => rw [e] at t; exact t.elim
    | some y =>
      rw [e] at t
      obtain ⟨m', v, h1, h2, h3⟩ := keyF y rfl e
      exact ⟨m', v, y, h1, h2, h3, t⟩
  | some hC =>
    dsimp only at t
    cases e2 : hp.get hC with
    | none => rw [e2] at t; exact t.elim
    | some o =>
      rw [e2] at t
      cases o <;> try exact t.elim
      case ns fs =>
        dsimp only at t
        cases e : look x fs with
        | none => rw [e] at t; exact t.elim
        | some y =>
          rw [e] at t
          obtain ⟨m', v, h1, h2, h3⟩ := keyC hC fs y rfl e2 e
          exact ⟨m', v, y, h1, h2, h3, t⟩

theorem evName_ok (hG : ∀ x v, look x globs = some v → GlbOk K x v) {n : Nat} (C : CxOk K p loose mean mg mb c n) {x : Str} {pos : Pos} {k : K1} {Q : Value → Shared → Prop} (R : Rel prog w c G st s) (t : (evName c.env.scope.names x st k).Tr) (post : Post prog w c G k Q) :
    wpAny (model prog w) c.A (eval (.Name x pos) c.env) Q E s := by
  obtain ⟨m, news, R⟩ := R
  unfold evName at t
  cases q : strEq x debugS with
  | true => rw [q] at t; exact t.elim
  | false =>
    rw [q] at t
    have hd := strEq_debug q
    dsimp only at t
    cases e : look x c.env.scope.names with
    | none => rw [e] at t; exact t.elim
    | some kd =>
      rw [e] at t
      rw [look_eq] at e
      have hk : c.env.kindOf x = some kd := e
      cases kd <;> try exact t.elim
      case «local» =>
        obtain ⟨m', v, y, h1, h2, h3, h4⟩ := evLocal_ok C.hfl R t
        exact wpAny_Name (wpAny_loadName_local C.ek hk h1 h2 (post.now R.rel h3 h4)) hd
      case cell =>
        obtain ⟨a, v, y, h1, h2, h3, h4⟩ := evCell_ok R t
        exact wpAny_Name (wpAny_loadName_cell C.ek hk h1 h2 (post.now R.rel h3 h4)) hd
      case free =>
        dsimp only at t
        cases q' : strEq x classdictS with
        | true => rw [q'] at t; exact t.elim
        | false =>
          rw [q'] at t
          obtain ⟨a, v, y, h1, h2, h3, h4⟩ := evCell_ok R t
          exact wpAny_Name (wpAny_loadName_free C.ek hk h1 h2 (post.now R.rel h3 h4) (by rw [← strEq_beq]; exact q')) hd
      case globalImplicit =>
        dsimp only at t
        unfold evGlob at t
        cases g : look x globs with
        | none => rw [g] at t; exact t.elim
        | some v =>
          rw [g] at t
          have hv := hG x v g
          cases v <;> try exact hv.elim
          case old a => exact nameG_K R.F C.X (topRead_of C.T) hv (post.now R.rel (VR.mk_old a) t) C.eg C.ek hk hd
          case bi b =>
            dsimp only at t
            have cfe := R.cf
            cases e2 : st.cf with
            | some _ => rw [e2] at t; exact t.elim
            | none =>
              rw [e2] at t cfe
              obtain ⟨ee, cn, cs, a, ccd, cl, ef⟩ := cfe
              have hk' := hk
              have ek' := C.ek
              rw [ee, ef] at hk' ek' ⊢
              exact nameX_B R.F C.X (topRead_of C.T) hv.1 hv.2.1 hv.2.2 (post.now R.rel (VR.mk_bi b) t) ek' hk' hd

theorem stName_ok {n : Nat} (C : CxOk K p loose mean mg mb c n) {x : Str} {a : AV} {v : Value} {k : St → Dt} {Q : Unit → Shared → Prop} (R : Rel prog w c G st s) (hv : VR G a v) (t : (stName c.env.scope.names x a st k).Tr) (post : PostU prog w c G k Q) :
    wpAny (model prog w) A (storeName c.env x v) Q E s := by
  obtain ⟨m, news, R⟩ := R
  unfold stName at t
  cases e : look x c.env.scope.names with
  | none => rw [e] at t; exact t.elim
  | some kd =>
    rw [e] at t
    rw [look_eq] at e
    have hk : c.env.kindOf x = some kd := e
    cases kd <;> try exact t.elim
    case «local» =>
      have cfe := R.cf
      have fin : st.cf = none → (k { st with fr := frSet x a st.fr }).Tr → wpAny (model prog w) A (storeName c.env x v) Q E s := fun e2 t => by
        rw [e2] at cfe
        obtain ⟨ee, cn, cs, ad, ccd, cl, ef⟩ := cfe
        have hk' := hk
        have ek' := C.ek
        rw [ee, ef] at hk' ek' ⊢
        refine storeX_L R.F R.N (fun h' F' N' => ?_) ek' hk'
        exact post _ _ _ (.refl G) (R.frame (s.toks + 1) F' N' (R.fr.set x hv)).rel t
      have finC : ∀ hC fs, st.cf = some hC → objAt hC st = some (.ns fs) → (k (stPut hC (.ns (frSet x a fs)) st)).Tr → wpAny (model prog w) A (storeName c.env x v) Q E s := fun hC fs e2 e3 t => by
        rw [e2] at cfe
        obtain ⟨ad, e4, e5⟩ := cfe
        obtain ⟨co, hn, ma, es, ep, hd, hs, hf⟩ := R.obj e4 e3
        have hns : s.heap.Ns c.env.locals (nsFind es) := e5 ▸ ⟨co, es, ep, R.N.get ma, hd, hs, fun _ => rfl⟩
        refine wpAny_storeName_local hk hns (fun h' hn' hx => ?_) ?_
        · rw [e5] at hn' hx
          obtain ⟨o', es', ep', ho', hd', hs', hf'⟩ := hn'
          have fr' := FrR.set hf x hv
          exact post _ _ _ (.refl G) (R.putExt (s.toks + 1) hn hx.extBut ho' (show OR prog w G (.ns _) _ _ from ⟨es', ep', hd', hs', fun y b e => by
            obtain ⟨u, hu, r⟩ := fr' y b e
            exact ⟨u, by rw [hf' y]; exact hu, r⟩⟩)).rel t
        · rw [C.ek]; rfl
      obtain ⟨n, hp, nS, nT, fr, cl, cf⟩ := st
      dsimp only at t
      cases cf with
      | none =>
        dsimp only at t
        rw [frSetK_eq] at t
        exact fin rfl t
      | some hC =>
        dsimp only at t
        cases e2 : hp.get hC with
        | none => rw [e2] at t; exact t.elim
        | some o =>
          rw [e2] at t
          cases o <;> try exact t.elim
          case ns fs =>
            dsimp only at t
            rw [frSetK_eq, putK_eq] at t
            exact finC hC fs rfl e2 t
    case cell =>
      have cfe := R.cf
      have fin : ∀ h u, st.cf = none → look x st.cl = some h → objAt h st = some (.cell u) → (k (stPut h (.cell (some a)) st)).Tr → wpAny (model prog w) A (storeName c.env x v) Q E s := fun h u e2 e3 e4 t => by
        rw [e2] at cfe
        obtain ⟨ee, cn, cs, ad, ccd, cl, ef⟩ := cfe
        obtain ⟨ac, e5, e6⟩ := R.cl x h e3
        obtain ⟨co, hn, ma, u0, hu0, _⟩ := R.obj e6 e4
        have hk' := hk
        have ek' := C.ek
        rw [ee, ef] at hk' ek' e5 ⊢
        refine storeX_C R.F R.N e5 (R.updF hn) hu0 (fun h' o' F' N' hd' => ?_) ek' hk'
        exact post _ _ _ (.refl G) (R.put s.toks hn F' N' (show OR prog w G (.cell (some a)) _ _ from ⟨some v, hd', v, rfl, hv⟩)).rel t
      obtain ⟨n, hp, nS, nT, fr, cl, cf⟩ := st
      dsimp only at t
      cases cf with
      | some _ => exact t.elim
      | none =>
        dsimp only at t
        cases e2 : look x cl with
        | none => rw [e2] at t; exact t.elim
        | some h =>
          rw [e2] at t
          dsimp only at t
          cases e3 : hp.get h with
          | none => rw [e3] at t; exact t.elim
          | some o =>
            rw [e3] at t
            cases o <;> try exact t.elim
            case cell u =>
              dsimp only at t
              rw [putK_eq] at t
              exact fin h u rfl e2 e3 t
end
end Mine

namespace Mine
open PySem PySem.W PyProof.Rows

noncomputable def FlR (G : Gh) : AF → Flow → Prop
  | .next, f => f = .next
  | .brk, f => f = .brk
  | .cont, f => f = .cont
  | .ret a, f => ∃ v, f = .ret v ∧ VR G a v
noncomputable def PostF (prog : Program) (w : World) (c : Cx) (G : Gh) (k : AF → St → Dt) (Q : Flow → Shared → Prop) : Prop :=
  ∀ G' st' s' fl f, G.Le G' → Rel prog w c G' st' s' → FlR G' fl f → (k fl st').Tr → Q f s'
structure KOk (K : Frag) : Prop where
  fld : ∀ C a, fieldOk C a = true → FldOk K C a
  mth : ∀ C m f, methAt C m = some f → MthOk K C m f
  glb : ∀ x v, look x globs = some v → GlbOk K x v
  isi : isIn K (.ref 147) 147 = true
  keep : ∀ a g, lookF a = some g → keepIn K (.ref a) = true

section
variable (prog : Program) (w : World) (K : Frag) (p : Program) (loose : List Str) (mean : ExcName → Option Value) (mg mb : Str → Option Value)
structure Snd (n : Nat) (r : Ev) : Prop where
  xe : ∀ {c : Cx} {G : Gh} {st : St} {s : Shared} {ex : Expr} {k : K1} {Q : Value → Shared → Prop} {E : Value → Shared → Prop}, CxOk K p loose mean mg mb c n → Rel prog w c G st s → (r.e c.env.scope.names ex st k).Tr → Post prog w c G k Q →
    wpAny (model prog w) c.A (eval ex c.env) Q E s
  xt : ∀ {c : Cx} {G : Gh} {st : St} {s : Shared} {ex : Expr} {k : Bool → St → Dt} {Q : Bool → Shared → Prop} {E : Value → Shared → Prop}, CxOk K p loose mean mg mb c n → Rel prog w c G st s → (r.t c.env.scope.names ex st k).Tr → PostB prog w c G k Q →
    wpAny (model prog w) c.A (PySem.isTrue ex c.env (eval ex c.env)) Q E s
  xs : ∀ {c : Cx} {G : Gh} {st : St} {s : Shared} {x : Stmt} {k : AF → St → Dt} {Q : Flow → Shared → Prop} {E : Value → Shared → Prop}, CxOk K p loose mean mg mb c n → Rel prog w c G st s → (r.s c.env.scope.names x st k).Tr → PostF prog w c G k Q →
    wpAny (model prog w) c.A (exec x c.env) Q E s
  xc : ∀ {c : Cx} {G : Gh} {st : St} {s : Shared} {f : AV} {args : List AV} {fv : Value} {vs : List Value} {k : K1} {Q : Value → Shared → Prop} {E : Value → Shared → Prop}, CxOk K p loose mean mg mb c n → Rel prog w c G st s → VR G f fv → VRs G args vs → (r.c f args st k).Tr → Post prog w c G k Q →
    wpAny (model prog w) c.A (call fv vs) Q E s
  xw : ∀ {c : Cx} {G : Gh} {st : St} {s : Shared} {test : Expr} {body : List Stmt} {k : AF → St → Dt} {R : Result → Shared → Prop}, CxOk K p loose mean mg mb c n → Rel prog w c G st s → (r.w c.env.scope.names test body st k).Tr → PostF prog w c G k (fun f s' => R (.ok f) s') →
    codeAny (model prog w) c.A (.whileLoop test body [] c.env) R s
  xf : ∀ {c : Cx} {G : Gh} {st : St} {s : Shared} {x : Str} {pos : Pos} {hI : Nat} {it : Addr} {body : List Stmt} {k : AF → St → Dt} {R : Result → Shared → Prop}, CxOk K p loose mean mg mb c n → Rel prog w c G st s → G.ρ[hI]? = some it → (r.f c.env.scope.names x hI body st k).Tr → PostF prog w c G k (fun f s' => R (.ok f) s') →
    codeAny (model prog w) c.A (.forLoop (.Name x pos) (.ref it) body [] c.env) R s
  xl : ∀ {c : Cx} {G : Gh} {st : St} {s : Shared} {elt : Expr} {x : Str} {pos : Pos} {iter : Expr} {ifs : List Expr} {scope : Scope} {cpos : Pos} {hI hA : Nat} {it acc : Addr} {k : St → Dt} {R : Result → Shared → Prop},
    CxOk K p loose mean mg mb c n → Rel prog w c G st s → G.ρ[hI]? = some it → G.ρ[hA]? = some acc → (r.l c.env.scope.names elt x ifs hI hA st k).Tr → PostU prog w c G k (fun _ s' => R (.ok .next) s') →
    codeAny (model prog w) c.A (.compLoop (.ListComp elt [⟨.Name x pos, iter, ifs, 0⟩] scope cpos) 0 (.ref it) (.ref acc) c.env) R s ∧
      ∀ (Q : Value → Shared → Prop) (E : Value → Shared → Prop), Q (.ref it) s → wpAny (model prog w) c.A (pyIter (.ref it)) Q E s
end

section
variable {prog : Program} {w : World} {c : Cx} {G : Gh} {st : St} {s : Shared} {m : Str → Option Value} {news : List (Addr × Obj)} {E : Value → Shared → Prop}
  {K : Frag} {p : Program} {loose : List Str} {mean : ExcName → Option Value} {mg mb : Str → Option Value} {n : Nat} {r : Ev}

theorem Post.le {k : K1} {Q : Value → Shared → Prop} (post : Post prog w c G k Q) {G' : Gh} (le : G.Le G') : Post prog w c G' k Q := fun G2 st s a v le2 => post G2 st s a v (le.trans le2)
theorem PostB.le {k : Bool → St → Dt} {Q : Bool → Shared → Prop} (post : PostB prog w c G k Q) {G' : Gh} (le : G.Le G') : PostB prog w c G' k Q := fun G2 st s a le2 => post G2 st s a (le.trans le2)
theorem PostU.le {k : St → Dt} {Q : Unit → Shared → Prop} (post : PostU prog w c G k Q) {G' : Gh} (le : G.Le G') : PostU prog w c G' k Q := fun G2 st s le2 => post G2 st s (le.trans le2)
theorem PostF.le {k : AF → St → Dt} {Q : Flow → Shared → Prop} (post : PostF prog w c G k Q) {G' : Gh} (le : G.Le G') : PostF prog w c G' k Q := fun G2 st s a v le2 => post G2 st s a v (le.trans le2)
theorem CxOk.mono {n' : Nat} (C : CxOk K p loose mean mg mb c n) (h : n' ≤ n) : CxOk K p loose mean mg mb c n' :=
  ⟨C.B, C.X, C.T, C.hA, C.hf, C.hfl, C.hk, C.hh, by have := C.dep; omega, by have := C.uni; omega, C.ek, C.eg⟩
theorem CxOk.room (C : CxOk K p loose mean mg mb c n) : c.A.units + 64 < cLine := by have := C.uni; omega

theorem star_eq {e : Expr} (es : List Expr) (env : Env) (h : isStar e = false) : starEach (e :: es) env = (false, eval e env) :: starEach es env := by
  cases e <;> first | rfl | cases h
theorem star_tail {pos : Pos} (env : Env) (r : Ev) (nm : Names) : ∀ (es : List Expr) (st : St) (k : List AV → St → Dt), True := fun _ _ _ => trivial

theorem evEs_ok (S : Snd prog w K p loose mean mg mb n r) (C : CxOk K p loose mean mg mb c n) {pos : Pos} : ∀ (es : List Expr) {G : Gh} {st : St} {s : Shared} {k : List AV → St → Dt} {Q : List Value → Shared → Prop},
    Rel prog w c G st s → (evEs r c.env.scope.names es st k).Tr → PostVs prog w c G k Q → wpAny (model prog w) c.A (spliced (backTo pos (starEach es c.env))) Q E s
  | [], G, st, s, k, Q, R, t, post => spliced_none (post G st s [] [] (.refl G) R .nil t)
  | e :: es, G, st, s, k, Q, R, t, post => by
    unfold evEs at t
    cases h : isStar e with
    | true => rw [h] at t; exact t.elim
    | false =>
      rw [h] at t
      exact PyProof.Rows.spliced_more (S.xe C R t fun G1 st1 s1 a v le R1 ha t1 => evEs_ok S C es R1 t1 fun G2 st2 s2 as vs le2 R2 has t2 =>
        post G2 st2 s2 (a :: as) (v :: vs) (le.trans le2) R2 (.cons (ha.mono le2) has) t2) (star_eq es c.env h)
theorem evSs_ok (S : Snd prog w K p loose mean mg mb n r) (C : CxOk K p loose mean mg mb c n) : ∀ (ss : List Stmt) {G : Gh} {st : St} {s : Shared} {k : AF → St → Dt} {Q : Flow → Shared → Prop},
    Rel prog w c G st s → (evSs r c.env.scope.names ss st k).Tr → PostF prog w c G k Q → wpAny (model prog w) c.A (execs ss c.env) Q E s
  | [], G, st, s, k, Q, R, t, post => wpAny_execs_nil (post G st s .next .next (.refl G) R rfl t)
  | x :: ss, G, st, s, k, Q, R, t, post => by
    unfold evSs at t
    refine wpAny_execs_cons (S.xs C R t fun G1 st1 s1 fl f le R1 hf t1 => ?_)
    cases fl with
    | next => cases hf; exact evSs_ok S C ss R1 t1 (post.le le)
    | brk => cases hf; exact post _ _ _ .brk _ le R1 rfl t1
    | cont => cases hf; exact post _ _ _ .cont _ le R1 rfl t1
    | ret a => obtain ⟨v, rfl, hv⟩ := hf; exact post _ _ _ (.ret a) _ le R1 ⟨v, rfl, hv⟩ t1

theorem noStars_any {pos : Pos} (env : Env) : ∀ es : List Expr, noStars es = true → ((backTo pos (starEach es env)).any fun x => x.fst) = false
  | [], _ => rfl
  | e :: es, h => by
    unfold noStars at h
    cases q : isStar e with
    | true => rw [q] at h; cases h
    | false =>
      rw [q] at h
      rw [star_eq es env q]
      have := noStars_any (pos := pos) env es h
      simpa [backTo] using this
end
end Mine

namespace Mine
open PySem PySem.W PyProof.Rows

section
variable {prog : Program} {w : World} {c : Cx} {G : Gh} {st : St} {s : Shared} {m : Str → Option Value} {news : List (Addr × Obj)} {E : Value → Shared → Prop}
  {K : Frag} {p : Program} {loose : List Str} {mean : ExcName → Option Value} {mg mb : Str → Option Value} {n : Nat} {r : Ev}

theorem Rel.F (R : Rel prog w c G st s) : ∃ m, Fr c.h₀ c.L s.heap m := let ⟨m, _, R⟩ := R; ⟨m, R.F⟩
theorem Rel.keepK (R : Rel prog w c G st s) (X : K.In c.h₀) : K.In s.heap := let ⟨_, F⟩ := R.F; X.keeps F.keep

theorem base_eq {o : Expr} (h : baseOk o = true) (a : Str) (env : Env) (m : Sem Value) : attributeBase o a env m = m := by
  cases o <;> first | rfl | cases h | skip
  rename_i f args kws pos
  cases args with
  | nil => cases h
  | cons _ _ => unfold attributeBase; split <;> first | rfl | (rename_i e; cases e)
theorem noStars_all {pos : Pos} (env : Env) (es : List Expr) (h : noStars es = true) : ((backTo pos (starEach es env)).all (!·.1)) = true := by
  have := noStars_any (pos := pos) env es h
  rw [List.any_eq_false] at this
  rw [List.all_eq_true]
  intro x hx
  have := this x hx
  simpa using this
theorem method_eq {o : Expr} {name : Str} {apos pos : Pos} {args : List Expr} (env : Env) (hs : noStars args = true) (h : methForm o args apos.endLine pos.line = true) :
    eval (.Call (.Attribute o name apos) args [] pos) env = (do
      let ov ← eval o env
      standAt apos.atName
      let (f, first) ← holding [ov] (getMethod ov name (do return (← importBound o env).getD true))
      callWith pos f first (backTo pos (starEach args env)) []) := by
  unfold methForm at h
  cases hb : baseOk o with
  | false => rw [hb] at h; cases h
  | true =>
    rw [hb] at h
    dsimp only at h
    cases hl : Nat.beq apos.endLine pos.line with
    | false => rw [hl] at h; cases h
    | true =>
      rw [hl] at h
      have hl := Nat.eq_of_beq_eq_true hl
      have hn := Nat.le_of_ble_eq_true h
      rw [lenL_eq] at hn
      show (do
        let ov ← attributeBase o name env (eval o env)
        standAt apos.atName
        methodCall o name apos pos env ov (args.length + 0) (backTo pos (starEach args env)) (backToKw pos (keywordEach [] env))) = _
      rw [base_eq hb]
      have hf : methodCallForm (args.length + 0) (backTo pos (starEach args env)) (backToKw pos (keywordEach [] env)) = true := by
        unfold methodCallForm
        rw [noStars_all env args hs]
        simp [backToKw, keywordEach]
        omega
      unfold methodCall
      rw [hf]
      have hp : methodCallPos true o env apos pos = pure pos := by
        unfold methodCallPos
        rw [if_pos (by simp [hl])]
      simp only [hp, pure_bind, calleeOf, if_true]
      rfl
/-- the call itself, its arguments still to come -/
theorem callArgs_ok (KO : KOk K) (S : Snd prog w K p loose mean mg mb n r) (C : CxOk K p loose mean mg mb c n) {pos : Pos} {args : List Expr} {fv : AV} {first : List AV} {f : Value} {fs : List Value} {k : K1} {Q : Value → Shared → Prop}
    (R : Rel prog w c G st s) (hf : VR G fv f) (hfs : VRs G first fs) (hs : noStars args = true)
    (hok : (∃ a g, fv = .old a ∧ lookF a = some g) ∨ (∃ b, fv = .bi b ∧ first = [] ∧ noArgs args = false) ∨ (fv = .bi .append ∨ fv = .bi .pop))
    (t : (evEs r c.env.scope.names args st fun vs st => appK first vs fun all => r.c fv all st k).Tr) (post : Post prog w c G k Q) :
    wpAny (model prog w) c.A (callWith pos f fs (backTo pos (starEach args c.env)) []) Q E s := by
  have main : wpAny (model prog w) c.A (spliced (backTo pos (starEach args c.env))) (fun vs s₁ => K.In s₁.heap ∧ wpAny (model prog w) c.A (call f (fs ++ vs)) Q E s₁) E s :=
    evEs_ok S C args R t fun G1 st1 s1 as vs le R1 has t1 => by
      rw [appK_eq] at t1
      exact ⟨R1.keepK C.X, S.xc C R1 (hf.mono le) ((VRs.mono le hfs).append has) t1 (post.le le)⟩
  have main2 : wpAny (model prog w) c.A (spliced (backTo pos (starEach args c.env))) (fun vs s₁ => wpAny (model prog w) c.A (call f (fs ++ vs)) Q E s₁) E s := wpAny_mono main (fun _ _ h => h.2) fun _ _ h => h
  have none' : args = [] → wpAny (model prog w) c.A (call f (fs ++ [])) Q E s := fun e => by
    subst e
    unfold evEs at t
    dsimp only at t
    rw [appK_eq] at t
    exact S.xc C R hf (hfs.append .nil) t post
  rcases hok with ⟨a, g, rfl, hg⟩ | ⟨b, rfl, rfl, ha⟩ | hb
  · cases hf
    cases args with
    | nil => exact callWith_K0 (R.keepK C.X) (KO.keep a g hg) (none' rfl)
    | cons e es =>
      have h1 : isStar e = false := by
        unfold noStars at hs
        cases q : isStar e with
        | true => rw [q] at hs; cases hs
        | false => rfl
      have h2 : noStars es = true := by unfold noStars at hs; rw [h1] at hs; exact hs
      exact callWith_K C.X (KO.keep a g hg) main (star_eq es c.env h1) (noStars_any c.env es h2)
  · cases hfs
    cases args with
    | nil => cases ha
    | cons e es =>
      have h1 : isStar e = false := by
        unfold noStars at hs
        cases q : isStar e with
        | true => rw [q] at hs; cases hs
        | false => rfl
      have h2 : noStars es = true := by unfold noStars at hs; rw [h1] at hs; exact hs
      have main3 : wpAny (model prog w) c.A (spliced (backTo pos (starEach (e :: es) c.env))) (fun vs s₁ => wpAny (model prog w) c.A (call f vs) Q E s₁) E s := main2
      have hv : (∃ i, f = .builtin i) ∨ (∃ i, f = .type i) := by
        have hf : f = b.val := hf
        cases b
        · exact .inl ⟨_, hf⟩
        · exact .inr ⟨_, hf⟩
        · exact .inl ⟨_, hf⟩
        · exact .inl ⟨_, hf⟩
        · exact .inl ⟨_, hf⟩
        · exact .inr ⟨_, hf⟩
        · exact .inr ⟨_, hf⟩
        · exact .inl ⟨_, hf⟩
        · exact .inl ⟨_, hf⟩
      rcases hv with ⟨i, rfl⟩ | ⟨i, rfl⟩
      · exact PyProof.Rows.callWith_builtin1 main3 (star_eq es c.env h1) (noStars_any c.env es h2)
      · exact PyProof.Rows.callWith_type1 main3 (star_eq es c.env h1) (noStars_any c.env es h2)
  · have hv : ∃ i, f = .builtin i := by
      rcases hb with rfl | rfl
      · exact ⟨_, hf⟩
      · exact ⟨_, hf⟩
    obtain ⟨i, rfl⟩ := hv
    cases args with
    | nil =>
      have := none' rfl
      rw [List.append_nil] at this
      exact callWith_method0 this
    | cons e es =>
      have h1 : isStar e = false := by
        unfold noStars at hs
        cases q : isStar e with
        | true => rw [q] at hs; cases hs
        | false => rfl
      have h2 : noStars es = true := by unfold noStars at hs; rw [h1] at hs; exact hs
      exact callWith_method1 main2 (star_eq es c.env h1) (noStars_any c.env es h2)

theorem evCall_ok (KO : KOk K) (S : Snd prog w K p loose mean mg mb n r) (C : CxOk K p loose mean mg mb c n) {f : Expr} {args : List Expr} {kws : List Keyword} {pos : Pos} {k : K1} {Q : Value → Shared → Prop}
    (R : Rel prog w c G st s) (t : (evCall r c.env.scope.names f args kws pos.line st k).Tr) (post : Post prog w c G k Q) : wpAny (model prog w) c.A (eval (.Call f args kws pos) c.env) Q E s := by
  unfold evCall at t
  cases kws with
  | cons _ _ => exact t.elim
  | nil =>
    dsimp only at t
    cases hs : noStars args with
    | false => rw [hs] at t; exact t.elim
    | true =>
      rw [hs] at t
      cases f <;> try exact t.elim
      case Name x xp =>
        dsimp only at t
        refine Call_ (S.xe C R t fun G1 st1 s1 a v le R1 ha t1 => ?_) rfl
        unfold calleeOk at t1
        cases a <;> try exact t1.elim
        case old a =>
          dsimp only at t1
          cases g : lookF a with
          | none => rw [g] at t1; exact t1.elim
          | some g' =>
            rw [g] at t1
            exact callArgs_ok KO S C (first := []) R1 ha .nil hs (.inl ⟨a, g', rfl, g⟩) t1 (post.le le)
        case bi b =>
          dsimp only at t1
          cases g : noArgs args with
          | true => rw [g] at t1; exact t1.elim
          | false =>
            rw [g] at t1
            exact callArgs_ok KO S C (first := []) R1 ha .nil hs (.inr (.inl ⟨b, rfl, rfl, g⟩)) t1 (post.le le)
      case Attribute o mm apos =>
        dsimp only at t
        cases hb : methForm o args apos.endLine pos.line with
        | false => rw [hb] at t; exact t.elim
        | true =>
          rw [hb] at t
          dsimp only at t
          refine MethodCall_ (pl := do return (← importBound o c.env).getD true) (S.xe C R t fun G1 st1 s1 a v le R1 ha t1 => ?_) ?_
          · refine opMeth_ok C.X KO.mth R1 ha t1 fun fa first fv vs hfa hfirst t2 => ?_
            unfold methOk at t2
            cases fa <;> try exact t2.elim
            case old a =>
              dsimp only at t2
              cases g : lookF a with
              | none => rw [g] at t2; exact t2.elim
              | some g' =>
                rw [g] at t2
                exact callArgs_ok KO S C R1 hfa hfirst hs (.inl ⟨a, g', rfl, g⟩) t2 (post.le le)
            case bi b =>
              dsimp only at t2
              cases b <;> try exact t2.elim
              case append => exact callArgs_ok KO S C R1 hfa hfirst hs (.inr (.inr (.inl rfl))) t2 (post.le le)
              case pop => exact callArgs_ok KO S C R1 hfa hfirst hs (.inr (.inr (.inr rfl))) t2 (post.le le)
          · exact method_eq c.env hs hb
end
end Mine

namespace Mine
open PySem PySem.W PyProof.Rows

section
variable {prog : Program} {w : World} {c : Cx} {G : Gh} {st : St} {s : Shared} {m : Str → Option Value} {news : List (Addr × Obj)} {E : Value → Shared → Prop}
  {K : Frag} {p : Program} {loose : List Str} {mean : ExcName → Option Value} {mg mb : Str → Option Value} {n : Nat} {r : Ev}

theorem evPart_ok (S : Snd prog w K p loose mean mg mb n r) (C : CxOk K p loose mean mg mb c n) {e : Option Expr} {k : K1} {Q : Value → Shared → Prop} (R : Rel prog w c G st s) (t : (evPart r c.env.scope.names e st k).Tr) (post : Post prog w c G k Q) :
    wpAny (model prog w) c.A (evalPart e c.env) Q E s := by
  cases e with
  | none => exact wpAny_pure (post.now R VR.mk_none t)
  | some e => exact S.xe C R t post
theorem evSub_ok (S : Snd prog w K p loose mean mg mb n r) (C : CxOk K p loose mean mg mb c n) {o i : Expr} {pos : Pos} {k : K1} {Q : Value → Shared → Prop} (R : Rel prog w c G st s) (t : (evSub r c.env.scope.names o i st k).Tr) (post : Post prog w c G k Q) :
    wpAny (model prog w) c.A (eval (.Subscript o i pos) c.env) Q E s := by
  have plain : (∀ a b, subscripted i false a b = operate [a, b] (getItem a b)) → (r.e c.env.scope.names o st fun ov st => r.e c.env.scope.names i st fun iv st => opItem ov iv st k).Tr → wpAny (model prog w) c.A (eval (.Subscript o i pos) c.env) Q E s := fun hs t =>
    Subscript_ (S.xe C R t fun G1 st1 s1 a v le R1 ha t1 => S.xe C R1 t1 fun G2 st2 s2 b u le2 R2 hb t2 => opItem_ok hs R2 (ha.mono le2) hb t2 (post.le (le.trans le2)))
  unfold evSub at t
  cases i <;> first
    | exact plain (fun _ _ => rfl) t
    | skip
  case ListComp => exact t.elim
  case Slice lo up stp sp =>
    cases stp with
    | some _ => exact t.elim
    | none =>
      dsimp only at t
      refine Subscript_ (S.xe C R t fun G1 st1 s1 a v le R1 ha t1 => wpAny_Slice (evPart_ok S C R1 t1 fun G2 st2 s2 b u le2 R2 hb t2 => evPart_ok S C R2 t2 fun G3 st3 s3 d x le3 R3 hd t3 => wpAny_pure ?_))
      exact opSlice_ok (fun _ _ => rfl) R3 (ha.mono (le2.trans le3)) (hb.mono le3) hd t3 (post.le (le.trans (le2.trans le3)))

theorem evAnd_ok (S : Snd prog w K p loose mean mg mb n r) (C : CxOk K p loose mean mg mb c n) {pos : Pos} {whole : Sem Value} : ∀ (es : List Expr) {G : Gh} {st : St} {s : Shared} {k : Bool → St → Dt} {Q : Bool → Shared → Prop},
    Rel prog w c G st s → (evAnd r c.env.scope.names es st k).Tr → PostB prog w c G k Q → wpAny (model prog w) c.A (PySem.isTrue (.BoolOp .And es pos) c.env whole) Q E s
  | [], G, st, s, k, Q, R, t, post => isTrue_and_nil (post G st s true (.refl G) R t)
  | e :: es, G, st, s, k, Q, R, t, post => by
    unfold evAnd at t
    refine isTrue_and (S.xt C R t fun G1 st1 s1 b le R1 t1 => ?_)
    cases b with
    | true => exact evAnd_ok S C es R1 t1 (post.le le)
    | false => exact post _ _ _ false le R1 t1
theorem evOr_ok (S : Snd prog w K p loose mean mg mb n r) (C : CxOk K p loose mean mg mb c n) {pos : Pos} {whole : Sem Value} : ∀ (es : List Expr) {G : Gh} {st : St} {s : Shared} {k : Bool → St → Dt} {Q : Bool → Shared → Prop},
    Rel prog w c G st s → (evOr r c.env.scope.names es st k).Tr → PostB prog w c G k Q → wpAny (model prog w) c.A (PySem.isTrue (.BoolOp .Or es pos) c.env whole) Q E s
  | [], G, st, s, k, Q, R, t, post => isTrue_or_nil (post G st s false (.refl G) R t)
  | e :: es, G, st, s, k, Q, R, t, post => by
    unfold evOr at t
    refine isTrue_or (S.xt C R t fun G1 st1 s1 b le R1 t1 => ?_)
    cases b with
    | true => exact post _ _ _ true le R1 t1
    | false => exact evOr_ok S C es R1 t1 (post.le le)
theorem marks_eq {op : CmpOp} {x : Expr} (h : isSet x = false) : behindInMarks op x = false := by
  cases x <;> first | rfl | cases h
theorem evT_ok (S : Snd prog w K p loose mean mg mb n r) (C : CxOk K p loose mean mg mb c n) {ex : Expr} {k : Bool → St → Dt} {Q : Bool → Shared → Prop} (R : Rel prog w c G st s) (t : (evT r c.env.scope.names ex st k).Tr) (post : PostB prog w c G k Q) :
    wpAny (model prog w) c.A (PySem.isTrue ex c.env (eval ex c.env)) Q E s := by
  unfold evT at t
  cases ex <;> try exact t.elim
  case Compare l ops cs pos =>
    dsimp only at t
    cases ops with
    | nil => exact t.elim
    | cons op ops =>
      cases ops with
      | cons _ _ => exact t.elim
      | nil =>
        cases cs with
        | nil => exact t.elim
        | cons x cs =>
          cases cs with
          | cons _ _ => exact t.elim
          | nil =>
            dsimp only at t
            cases h : isSet x with
            | true => rw [h] at t; exact t.elim
            | false =>
              rw [h] at t
              dsimp only at t
              exact wpAny_isTrue_Compare1 (S.xe C R t fun G1 st1 s1 a v le R1 ha t1 => S.xe C R1 t1 fun G2 st2 s2 b u le2 R2 hb t2 => opCmp_ok C.room R2 (ha.mono le2) hb t2 fun G3 st3 s3 y z le3 R3 hy t3 =>
                truthyK_ok hy t3 fun b t4 => post _ _ _ b (le.trans (le2.trans le3)) R3 t4) (marks_eq h)
  case BoolOp op es pos =>
    cases op with
    | And => exact evAnd_ok S C es R t post
    | Or => exact evOr_ok S C es R t post
  case Name x pos =>
    exact wpAny_isTrue_value (S.xe C R t fun G1 st1 s1 a v le R1 ha t1 => truthyK_ok ha t1 fun b t2 => post _ _ _ b le R1 t2) rfl
  case Call f a ks pos =>
    exact wpAny_isTrue_value (S.xe C R t fun G1 st1 s1 a v le R1 ha t1 => truthyK_ok ha t1 fun b t2 => post _ _ _ b le R1 t2) rfl

theorem evConst_ok {x : Const} {kk : Nat} {pos : Pos} {A : Around} {env : Env} {k : K1} {Q : Value → Shared → Prop} (R : Rel prog w c G st s) (t : (evConst x st k).Tr) (post : Post prog w c G k Q) : wpAny (model prog w) A (eval (.Constant x kk pos) env) Q E s := by
  unfold evConst at t
  cases x <;> try exact t.elim
  case none => exact wpAny_Constant_none (post.now R VR.mk_none t)
  case bool b => exact wpAny_Constant_bool (post.now R (VR.mk_bool b) t)
  case int i => exact wpAny_Constant_int (post.now (R.toks _) (VR.mk_int _ _) t)
  case str x => exact wpAny_Constant_str (post.now (R.toks _) (VR.mk_str _ _) t)

theorem attr_eq {o : Expr} {a : Str} {pos : Pos} (env : Env) (hb : baseOk o = true) : eval (.Attribute o a pos) env = (do
      let x ← eval o env
      standAt pos.atName
      let r ← holding [x] (getAttr x a true)
      letTemporaryGo o x r
      pure r) := by
  show (do
      let x ← attributeBase o a env (eval o env)
      standAt pos.atName
      let r ← holding [x] (getAttr x a true)
      letTemporaryGo o x r
      pure r) = _
  rw [base_eq hb]

/-- all but the comprehension -/
theorem evE_ok (KO : KOk K) (S : Snd prog w K p loose mean mg mb n r) (C : CxOk K p loose mean mg mb c n)
    (LC : ∀ {elt : Expr} {gens : List Comprehension} {sc : Scope} {pos : Pos} {k : K1} {Q : Value → Shared → Prop} {E : Value → Shared → Prop} {G : Gh} {st : St} {s : Shared}, Rel prog w c G st s →
      (evComp r c.env.scope.names elt gens sc st fun h hC st => dropK hC st fun st => k (.ref h) st).Tr → Post prog w c G k Q → wpAny (model prog w) c.A (eval (.ListComp elt gens sc pos) c.env) Q E s)
    {ex : Expr} {k : K1} {Q : Value → Shared → Prop} (R : Rel prog w c G st s) (t : (evE r c.env.scope.names ex st k).Tr) (post : Post prog w c G k Q) :
    wpAny (model prog w) c.A (eval ex c.env) Q E s := by
  unfold evE at t
  cases ex <;> try exact t.elim
  case Constant x kk pos => exact evConst_ok R t post
  case Name x pos => exact evName_ok KO.glb C R t post
  case Attribute o a pos =>
    dsimp only at t
    cases hb : baseOk o with
    | false => rw [hb] at t; exact t.elim
    | true =>
      rw [hb] at t
      exact Attribute_any_ (S.xe C R t fun G1 st1 s1 x v le R1 hx t1 => opAttr_ok C.X KO.fld R1 hx t1 (post.le le)) (attr_eq c.env hb)
  case Call f args kws pos => exact evCall_ok KO S C R t post
  case List es pos =>
    refine List_ (evEs_ok S C es R t fun G1 st1 s1 as vs le ⟨m, news, R1⟩ has t1 => ?_)
    obtain ⟨hl, t1⟩ := okL_tr t1
    have e1 := has.length
    refine newList_K R1.F R1.N (fun D h' F' N' hlt => ?_) (sizeLine_ge (by omega))
    exact allocV_ok (tk := s1.toks) R1 F' N' (fun q hq => Nat.ne_of_lt (hlt q hq)) (OR.mk_list (VRs.mono (G1.le_push D) has)) t1 (post.le le)
  case Tuple es kk pos =>
    refine Tuple_ (evEs_ok S C es R t fun G1 st1 s1 as vs le ⟨m, news, R1⟩ has t1 => ?_)
    obtain ⟨hl, t1⟩ := okL_tr t1
    have e1 := has.length
    refine newTuple_N R1.F R1.N (fun h' F' N' => ?_) (sizeLine_ge (by omega))
    exact allocV_ok (tk := s1.toks) R1 F' N' R1.ne (OR.mk_tuple (VRs.mono (G1.le_push _) has)) t1 (post.le le)
  case BinOp l op rt pos =>
    exact wpAny_BinOp (S.xe C R t fun G1 st1 s1 a v le R1 ha t1 => S.xe C R1 t1 fun G2 st2 s2 b u le2 R2 hb t2 => opBin_ok C.hh R2 (ha.mono le2) hb t2 (post.le (le.trans le2)))
  case UnaryOp op x pos =>
    exact UnaryOp_ (S.xe C R t fun G1 st1 s1 a v le R1 ha t1 => opUn_ok R1 ha t1 (post.le le))
  case Compare l ops cs pos =>
    dsimp only at t
    cases ops with
    | nil => exact t.elim
    | cons op ops =>
      cases ops with
      | cons _ _ => exact t.elim
      | nil =>
        cases cs with
        | nil => exact t.elim
        | cons x cs =>
          cases cs with
          | cons _ _ => exact t.elim
          | nil =>
            dsimp only at t
            cases h : isSet x with
            | true => rw [h] at t; exact t.elim
            | false =>
              rw [h] at t
              dsimp only at t
              exact wpAny_Compare1 (S.xe C R t fun G1 st1 s1 a v le R1 ha t1 => S.xe C R1 t1 fun G2 st2 s2 b u le2 R2 hb t2 => opCmp_ok C.room R2 (ha.mono le2) hb t2 (post.le (le.trans le2))) (marks_eq h)
  case IfExp tt b o pos =>
    dsimp only at t
    refine IfExp_ (S.xt C R t fun G1 st1 s1 b le R1 t1 => ?_)
    cases b with
    | true => exact S.xe C R1 t1 (post.le le)
    | false => exact S.xe C R1 t1 (post.le le)
  case Subscript o i pos => exact evSub_ok S C R t post
  case ListComp elt gens sc pos => exact LC R t post
  case Dict ks vs pos =>
    dsimp only at t
    cases ks with
    | cons _ _ => exact t.elim
    | nil =>
      cases vs with
      | cons _ _ => exact t.elim
      | nil =>
        obtain ⟨m, news, R⟩ := R
        refine newDict_K R.F R.N C.T.nolimit fun d h' o F' N' hlt hsm _ _ hd hf => ?_
        exact allocV_ok (tk := s.toks) R F' N' (fun q hq => Nat.ne_of_lt (hlt q hq)) (show OR prog w (G.push d) (.idict []) d o from ⟨hsm, [], [], hd, hf, fun i => rfl, Nat.le_refl _⟩) t post
end
end Mine

namespace Mine
open PySem PySem.W PyProof.Rows

theorem blockFn {env : Env} (h : env.scope.kind = .function) : env.blockKind = .function := by
  unfold Env.blockKind
  rw [h]; rfl
theorem swapped_eq {env : Env} (hk : env.scope.kind = .function) {ts vs : List Expr} {k1 k2 : Nat} {p1 p2 : Pos} {nm : Names} (hn : env.scope.names = nm) (h : swapOk nm ts vs = true) :
    ∃ a b pa pb, ts = [.Name a pa, .Name b pb] ∧ swappedStores [.Tuple ts k1 p1] (.Tuple vs k2 p2) env = pure (some [a, b]) := by
  subst hn
  unfold swapOk at h
  cases ts with
  | nil => cases h
  | cons t1 ts =>
    cases t1 <;> try (cases h; done)
    rename_i a pa
    cases ts with
    | nil => cases h
    | cons t2 ts =>
      cases t2 <;> try (cases h; done)
      rename_i b pb
      cases ts with
      | cons _ _ => cases h
      | nil =>
        refine ⟨a, b, pa, pb, rfl, ?_⟩
        cases vs with
        | nil => cases h
        | cons v1 vs =>
          cases vs with
          | nil => cases h
          | cons v2 vs =>
            cases vs with
            | cons _ _ => cases h
            | nil =>
              dsimp only at h
              cases hs : (isStar v1 || isStar v2) with
              | true => rw [hs] at h; cases h
              | false =>
                rw [hs] at h
                dsimp only at h
                cases e1 : look a env.scope.names with
                | none => rw [e1] at h; cases h
                | some k1 =>
                  rw [e1] at h
                  cases k1 <;> try (cases h; done)
                  cases e2 : look b env.scope.names with
                  | none => rw [e2] at h; cases h
                  | some k2 =>
                    rw [e2] at h
                    cases k2 <;> try (cases h; done)
                    dsimp only at h
                    simp only [Bool.and_eq_true, Bool.not_eq_true'] at h
                    obtain ⟨⟨⟨hl, hab⟩, hc⟩, hf⟩ := h
                    have hl := Nat.eq_of_beq_eq_true hl
                    have hab := strEq_false hab
                    rw [look_eq] at e1 e2
                    have ea : env.kindOf a = some .local := e1
                    have eb : env.kindOf b = some .local := e2
                    have h3 : ([v1, v2].all (foldedForSure 8)) = false := by simpa using hf
                    have h4 : ([v1, v2].all (constantsAlone 8)) = false := by simpa using hc
                    have hpa : (Expr.Name a pa).pos = pa := rfl
                    have hab' : (b == a) = false := by rw [beq_eq_false_iff_ne]; exact Ne.symm hab
                    have h5 : [a, b].eraseDups = [a, b] := by
                      simp [List.eraseDups, List.eraseDupsBy, List.eraseDupsBy.loop, hab']
                    unfold swappedStores
                    simp only [List.length_cons, List.length_nil, blockFn hk, h3, h4, ea, eb, hl, hpa, List.head?, Option.map_some, Option.getD_some, List.filterMap_cons, List.filterMap_nil, beq_self_eq_true, Bool.and_self, if_true, h5, Bool.true_or, Bool.not_true, bne_self_eq_false, Bool.or_self, Bool.false_eq_true, if_false]
                    refine if_neg (ne_true_of_eq_false ?_)
                    refine Eq.trans (b := [v1, v2].any isStar) (congrArg (fun f => [v1, v2].any f) (funext fun x => ?_)) (by simpa using hs)
                    cases x <;> rfl
theorem swapped_none {env : Env} {ts : List Expr} {k1 : Nat} {p1 : Pos} {v : Expr} (h : isTup v = false) : swappedStores [.Tuple ts k1 p1] v env = pure none := by
  unfold swappedStores
  cases v <;> first | rfl | cases h
theorem swaps_false {v : Expr} {t : Option Expr} {l : Nat} {env : Env} (h : isComp v = false) : swapsWith v t l env = pure false := by
  unfold swapsWith
  cases v <;> first | rfl | cases h
theorem sole_false {v : Expr} {t : Expr} {l : Nat} {env : Env} (h : isComp v = false) : swapsWithSole [t] v l env = pure false := by
  unfold swapsWithSole
  exact swaps_false h

section
variable {prog : Program} {w : World} {c : Cx} {G : Gh} {st : St} {s : Shared} {m : Str → Option Value} {news : List (Addr × Obj)} {E : Value → Shared → Prop}
  {K : Frag} {p : Program} {loose : List Str} {mean : ExcName → Option Value} {mg mb : Str → Option Value} {n : Nat} {r : Ev}

noncomputable def StoreBy (prog : Program) (w : World) (A : Around) (env : Env) (x : Str) (f : Value → Sem Unit) : Prop :=
  ∀ (v : Value) (Q : Unit → Shared → Prop) (E : Value → Shared → Prop) (s : Shared), wpAny (model prog w) A (storeName env x v) Q E s → wpAny (model prog w) A (f v) Q E s
theorem stNames_ok (C : CxOk K p loose mean mg mb c n) : ∀ (xs : List Str) {fs : List (Value → Sem Unit)} {as : List AV} {vs : List Value} {G : Gh} {st : St} {s : Shared} {k : St → Dt} {Q : Unit → Shared → Prop},
    All2 (StoreBy prog w c.A c.env) xs fs → Rel prog w c G st s → VRs G as vs → (stNames c.env.scope.names xs as st k).Tr → PostU prog w c G k Q → wpAny (model prog w) c.A (assignInOrder fs vs) Q E s
  | [], _, _, _, G, st, s, k, Q, .nil, R, .nil, t, post => assignInOrder_nil (post G st s (.refl G) R t)
  | [], _, _ :: _, _, _, _, _, _, _, .nil, _, _, t, _ => t.elim
  | _ :: _, _, [], _, _, _, _, _, _, _, _, .nil, t, _ => t.elim
  | x :: xs, _, a :: as, _, G, st, s, k, Q, .cons hf hfs, R, .cons hv hvs, t, post => by
    unfold stNames at t
    refine PyProof.Rows.assignInOrder_cons (hf _ _ _ _ (stName_ok C R hv t fun G1 st1 s1 le R1 t1 => ?_))
    exact stNames_ok C xs hfs R1 (VRs.mono le hvs) t1 (post.le le)
theorem store_each {A : Around} (env : Env) : ∀ {ts : List Expr} {xs : List Str}, nameList ts = some xs → All2 (StoreBy prog w A env) xs ((assignEach ts env).map (·.2)) ∧ (assignEach ts env).length = ts.length ∧ (assignEach ts env).findIdx? (·.1) = none ∧ xs.length = ts.length
  | [], _, h => by cases h; exact ⟨.nil, rfl, rfl, rfl⟩
  | t :: ts, xs, h => by
    unfold nameList at h
    cases t <;> try (cases h; done)
    rename_i x pos
    dsimp only at h
    cases e : nameList ts with
    | none => rw [e] at h; cases h
    | some l =>
      rw [e] at h
      cases h
      obtain ⟨h1, h2, h3, h4⟩ := store_each (A := A) env e
      refine ⟨.cons (fun v Q E s h => PyProof.Rows.assign_Name h) h1, ?_, ?_, ?_⟩
      · show (assignEach ts env).length + 1 = _
        rw [h2]; rfl
      · show List.findIdx? _ ((false, _) :: assignEach ts env) = none
        rw [List.findIdx?_cons]
        simp only [Bool.false_eq_true, if_false]
        rw [h3]; rfl
      · simp [h4]
theorem revS_eq : ∀ (xs acc : List Str), revS xs acc = xs.reverse ++ acc
  | [], _ => rfl
  | x :: r, acc => by rw [revS, revS_eq r]; simp
theorem revK_eq : ∀ (xs acc : List AV) (k : List AV → Dt), revK xs acc k = k (xs.reverse ++ acc)
  | [], _, _ => rfl
  | x :: r, acc, k => by rw [revK, revK_eq r]; simp
theorem store_binds {A : Around} (env : Env) : ∀ (xs : List Str), All2 (StoreBy prog w A env) xs (xs.map fun n => bindName env n)
  | [] => .nil
  | x :: xs => .cons (fun v Q E s h => PyProof.Rows.bindName_ h) (store_binds env xs)

/-- all but the comprehension stored at once -/
theorem evAssign_ok (KO : KOk K) (S : Snd prog w K p loose mean mg mb n r) (C : CxOk K p loose mean mg mb c n)
    (LC : ∀ {x : Str} {xp : Pos} {elt : Expr} {gens : List Comprehension} {sc : Scope} {cp pos : Pos} {k : St → Dt} {Q : Flow → Shared → Prop} {G : Gh} {st : St} {s : Shared}, Rel prog w c G st s → look x c.env.scope.names = some .local →
      (Nat.beq cp.line pos.line && Nat.beq xp.line cp.line && !hasName x sc.names) = true →
      (evComp r c.env.scope.names elt gens sc st fun h hC st => stName c.env.scope.names x (.ref h) st fun st => dropK hC st k).Tr → PostU prog w c G k (fun _ s' => Q .next s') →
      wpAny (model prog w) c.A (exec (.Assign [.Name x xp] (.ListComp elt gens sc cp) pos) c.env) Q E s)
    {tgt value : Expr} {pos : Pos} {k : St → Dt} {Q : Flow → Shared → Prop} (R : Rel prog w c G st s) (t : (evAssign r c.env.scope.names tgt value pos st k).Tr) (post : PostU prog w c G k (fun _ s' => Q .next s')) :
    wpAny (model prog w) c.A (exec (.Assign [tgt] value pos) c.env) Q E s := by
  unfold evAssign at t
  cases tgt <;> try exact t.elim
  case Name x xp =>
    dsimp only at t
    have plain : isComp value = false → (r.e c.env.scope.names value st fun v st => stName c.env.scope.names x v st k).Tr → wpAny (model prog w) c.A (exec (.Assign [.Name x xp] value pos) c.env) Q E s := fun h t =>
      PySem.wpAny_Assign_Name (S.xe C R t fun G1 st1 s1 a v le R1 ha t1 => stName_ok C R1 ha t1 (post.le le)) (swaps_false h)
    cases value <;> first
      | exact plain rfl t
      | exact t.elim
      | skip
    case ListComp elt gens sc cp =>
      dsimp only at t
      cases e : look x c.env.scope.names with
      | none => rw [e] at t; exact t.elim
      | some kd =>
        rw [e] at t
        cases kd <;> try exact t.elim
        dsimp only at t
        cases q : (Nat.beq cp.line pos.line && Nat.beq xp.line cp.line && !hasName x sc.names) with
        | false => rw [q] at t; exact t.elim
        | true =>
          rw [q] at t
          exact LC R e q t post
  case Attribute o a ap =>
    dsimp only at t
    cases h : isComp value with
    | true => rw [h] at t; exact t.elim
    | false =>
      rw [h] at t
      exact plainObj_wpAny_Assign_Attribute (S.xe C R t fun G1 st1 s1 a v le R1 ha t1 => S.xe C R1 t1 fun G2 st2 s2 b u le2 R2 hb t2 => opSetAttr_ok C.X KO.fld R2 hb (ha.mono le2) t2 (post.le (le.trans le2))) (swaps_false h)
  case Subscript o i ap =>
    dsimp only at t
    cases h : isComp value with
    | true => rw [h] at t; exact t.elim
    | false =>
      rw [h] at t
      exact PySem.wpAny_Assign_Subscript (S.xe C R t fun G1 st1 s1 a v le R1 ha t1 => S.xe C R1 t1 fun G2 st2 s2 b u le2 R2 hb t2 => S.xe C R2 t2 fun G3 st3 s3 d x le3 R3 hd t3 =>
        opSetItem_ok R3 (hb.mono le3) hd (ha.mono (le2.trans le3)) t3 (post.le (le.trans (le2.trans le3)))) (swaps_false h)
  case Tuple ts kk tp =>
    dsimp only at t
    cases h : isComp value with
    | true => rw [h] at t; exact t.elim
    | false =>
      rw [h] at t
      dsimp only at t
      cases hn : nameList ts with
      | none => rw [hn] at t; exact t.elim
      | some xs =>
        rw [hn] at t
        dsimp only at t
        have plain : isTup value = false → (r.e c.env.scope.names value st fun v st => opUnpack (lenL xs) v st fun items st => stNames c.env.scope.names xs items st k).Tr → wpAny (model prog w) c.A (exec (.Assign [.Tuple ts kk tp] value pos) c.env) Q E s := fun ht t => by
          refine Assign_Tuple (S.xe C R t fun G1 st1 s1 a v le ⟨m, news, R1⟩ ha t1 => ?_) (sole_false h) (swapped_none ht)
          obtain ⟨ad, xs', vs, rfl, it, rv, hl, t2⟩ := opUnpack_at R1 ha t1
          obtain ⟨h1, h2, h3, h4⟩ := store_each (prog := prog) (w := w) (A := c.A) c.env hn
          rw [lenL_eq] at hl
          refine unpackN_ R1.F R1.N it C.hh (by rw [h2, List.size_toArray, hl, h4]) h3 fun h' F' N' => ?_
          exact stNames_ok C xs h1 (R1.heap s1.toks F' N').rel rv t2 (post.le le)
        cases value <;> first
          | exact plain rfl t
          | exact t.elim
          | skip
        case Tuple vs vk vp =>
          dsimp only at t
          cases hsw : swapOk c.env.scope.names ts vs with
          | false => rw [hsw] at t; exact t.elim
          | true =>
            rw [hsw] at t
            dsimp only at t
            obtain ⟨a, b, pa, pb, rfl, hs⟩ := swapped_eq (env := c.env) C.ek (k1 := kk) (k2 := vk) (p1 := tp) (p2 := vp) rfl hsw
            have hxs : xs = [a, b] := by
              have : nameList [Expr.Name a pa, Expr.Name b pb] = some [a, b] := rfl
              rw [this] at hn
              exact (Option.some.inj hn).symm
            subst hxs
            refine Assign_Tuple_swapped (S.xe C R t fun G1 st1 s1 x v le ⟨m, news, R1⟩ ha t1 => ?_) (sole_false h) hs
            obtain ⟨ad, xs', us, rfl, it, rv, hl, t2⟩ := opUnpack_at R1 ha t1
            rw [lenL_eq] at hl
            refine unpackItemsN_ R1.F R1.N it C.hh (by rw [List.size_toArray, hl]) fun h' F' N' => ?_
            rw [revK_eq, revS_eq, List.append_nil, List.append_nil] at t2
            exact stNames_ok C _ (store_binds c.env _) (R1.heap s1.toks F' N').rel rv.reverse t2 (post.le le)
end
end Mine

namespace Mine
open PySem PySem.W PyProof.Rows

theorem folded_eq {e : Expr} {env : Env} {x : Value} (h : isSet e = false) : foldedSetIterable e env x = pure x := by
  unfold foldedSetIterable
  cases e <;> first | rfl | cases h
theorem inter_false {env : Env} (h : env.scope.kind = .function) : interactive env = false := by
  unfold interactive
  rw [h]; rfl

section
variable {prog : Program} {w : World} {c : Cx} {G : Gh} {st : St} {s : Shared} {m : Str → Option Value} {news : List (Addr × Obj)} {E : Value → Shared → Prop}
  {K : Frag} {p : Program} {loose : List Str} {mean : ExcName → Option Value} {mg mb : Str → Option Value} {n : Nat} {r : Ev}

theorem plainV_ok {a : AV} {v : Value} {d : Dt} (h : VR G a v) (t : (plainV a d).Tr) : (∀ x, v ≠ .ref x) ∧ d.Tr := by
  unfold plainV at t
  cases a
  case none => exact ⟨fun x e => (by cases h; cases e), t⟩
  case bool b => exact ⟨fun x e => (by cases h; cases e), t⟩
  case int i => exact ⟨fun x e => (by obtain ⟨t', rfl⟩ := h; cases e), t⟩
  case str i => exact ⟨fun x e => (by obtain ⟨t', rfl⟩ := h; cases e), t⟩
  case sym i => exact ⟨fun x e => (by obtain ⟨_, t', _, rfl, _⟩ := h; cases e), t⟩
  case rng i => exact ⟨fun x e => (by obtain ⟨_, t', rfl, _⟩ := h; cases e), t⟩
  case len i j => exact ⟨fun x e => (by obtain ⟨_, t', _, _, rfl⟩ := h; cases e), t⟩
  case ref => exact t.elim
  case old => exact t.elim
  case bi b =>
    have h : v = b.val := h
    refine ⟨fun x e => ?_, t⟩
    rw [e] at h
    cases b <;> cases h

theorem evStmt_ok (KO : KOk K) (S : Snd prog w K p loose mean mg mb n r) (C : CxOk K p loose mean mg mb c n)
    (LC : ∀ {x : Str} {xp : Pos} {elt : Expr} {gens : List Comprehension} {sc : Scope} {cp pos : Pos} {k : St → Dt} {Q : Flow → Shared → Prop} {G : Gh} {st : St} {s : Shared}, Rel prog w c G st s → look x c.env.scope.names = some .local →
      (Nat.beq cp.line pos.line && Nat.beq xp.line cp.line && !hasName x sc.names) = true →
      (evComp r c.env.scope.names elt gens sc st fun h hC st => stName c.env.scope.names x (.ref h) st fun st => dropK hC st k).Tr → PostU prog w c G k (fun _ s' => Q .next s') →
      wpAny (model prog w) c.A (exec (.Assign [.Name x xp] (.ListComp elt gens sc cp) pos) c.env) Q E s)
    {x : Stmt} {k : AF → St → Dt} {Q : Flow → Shared → Prop} (R : Rel prog w c G st s) (t : (evStmt r c.env.scope.names x st k).Tr) (post : PostF prog w c G k Q) :
    wpAny (model prog w) c.A (exec x c.env) Q E s := by
  unfold evStmt at t
  cases x <;> try exact t.elim
  case Expr e pos =>
    dsimp only at t
    cases h : isComp e with
    | true => rw [h] at t; exact t.elim
    | false =>
      rw [h] at t
      refine PySem.wpAny_Expr (S.xe C R t fun G1 st1 s1 a v le R1 ha t1 => ?_) (inter_false C.ek) (swaps_false h)
      obtain ⟨h1, h2⟩ := plainV_ok ha t1
      have fin : Q .next s1 := post _ _ _ .next _ le R1 rfl h2
      cases v <;> first | exact fin | exact absurd rfl (h1 _)
  case Return v pos =>
    cases v with
    | none => exact PySem.wpAny_Return_none (post _ _ _ (.ret .none) _ (.refl G) R ⟨_, rfl, rfl⟩ t)
    | some e => exact PySem.wpAny_Return_some (S.xe C R t fun G1 st1 s1 a v le R1 ha t1 => post _ _ _ (.ret a) _ le R1 ⟨v, rfl, ha⟩ t1)
  case If tt b o pos =>
    dsimp only at t
    refine PySem.wpAny_If (S.xt C R t fun G1 st1 s1 b le R1 t1 => ?_)
    cases b with
    | true => exact evSs_ok S C _ R1 t1 (post.le le)
    | false => exact evSs_ok S C _ R1 t1 (post.le le)
  case While tt b o pos =>
    cases o with
    | cons _ _ => exact t.elim
    | nil => exact PySem.wpAny_While (S.xw C R t post)
  case For tgt it b o pos =>
    cases o with
    | cons _ _ => exact t.elim
    | nil =>
      cases tgt <;> try exact t.elim
      case Name x xp =>
        dsimp only at t
        cases h : isSet it with
        | true => rw [h] at t; exact t.elim
        | false =>
          rw [h] at t
          exact PySem.wpAny_For (S.xe C R t fun G1 st1 s1 a v le R1 ha t1 => opIter_ok R1 ha t1 fun G2 st2 s2 hI it' le2 R2 hi t2 => S.xf C R2 hi t2 (post.le (le.trans le2))) (fun _ => folded_eq h)
  case Continue pos => exact PySem.wpAny_Continue (post _ _ _ .cont _ (.refl G) R rfl t)
  case Assign ts v pos =>
    dsimp only at t
    cases ts with
    | nil => exact t.elim
    | cons tg ts =>
      cases ts with
      | cons _ _ => exact t.elim
      | nil => exact evAssign_ok KO S C LC R t fun G1 st1 s1 le R1 t1 => post _ _ _ .next _ le R1 rfl t1
  case AugAssign tg op v pos =>
    dsimp only at t
    cases tg <;> try exact t.elim
    case Attribute o a ap =>
      exact wpAny_AugAssign_AttributeAny (S.xe C R t fun G1 st1 s1 ov v le R1 ho t1 => opAttr_ok C.X KO.fld R1 ho t1 fun G2 st2 s2 old u le2 R2 hold t2 => S.xe C R2 t2 fun G3 st3 s3 x z le3 R3 hx t3 =>
        opAug_ok R3 (hold.mono le3) hx t3 fun G4 st4 s4 y z' le4 R4 hy t4 => opSetAttr_ok C.X KO.fld R4 (ho.mono (le2.trans (le3.trans le4))) hy t4 fun G5 st5 s5 le5 R5 t5 =>
          post _ _ _ .next _ (le.trans (le2.trans (le3.trans (le4.trans le5)))) R5 rfl t5)

/-! loops -/
theorem while_ok (H : ∀ j, j < n → Snd prog w K p loose mean mg mb j (run j)) (C : CxOk K p loose mean mg mb c n) {test : Expr} {body : List Stmt} {k : AF → St → Dt} {R : Result → Shared → Prop}
    (Re : Rel prog w c G st s) (t : ((run n).w c.env.scope.names test body st k).Tr) (post : PostF prog w c G k (fun f s' => R (.ok f) s')) : codeAny (model prog w) c.A (.whileLoop test body [] c.env) R s := by
  refine codeAny_whileLoop (fun j s => j ≤ n ∧ ∃ G1 st1, G.Le G1 ∧ Rel prog w c G1 st1 s ∧ ((run j).w c.env.scope.names test body st1 k).Tr) ?_ n ⟨Nat.le_refl _, G, st, .refl G, Re, t⟩
  rintro j s ⟨hj, G1, st1, le, R1, t1⟩
  cases j with
  | zero => exact t1.elim
  | succ j =>
    have Sj := H j (by omega)
    have Cj := C.mono (show j ≤ n by omega)
    refine Sj.xt Cj R1 t1 fun G2 st2 s2 b le2 R2 t2 => ?_
    cases b with
    | true =>
      refine evSs_ok Sj Cj body R2 t2 fun G3 st3 s3 fl f le3 R3 hf t3 => ?_
      have l3 := le.trans (le2.trans le3)
      cases fl with
      | next => cases hf; exact ⟨j, Nat.lt_succ_self _, by omega, G3, st3, l3, R3, t3⟩
      | cont => cases hf; exact ⟨j, Nat.lt_succ_self _, by omega, G3, st3, l3, R3, t3⟩
      | brk => cases hf; exact post _ _ _ .next _ l3 R3 rfl t3
      | ret a => obtain ⟨v, rfl, hv⟩ := hf; exact post _ _ _ (.ret a) _ l3 R3 ⟨v, rfl, hv⟩ t3
    | false => exact wpAny_execs_nil (post _ _ _ .next _ (le.trans le2) R2 rfl t2)
theorem for_ok (H : ∀ j, j < n → Snd prog w K p loose mean mg mb j (run j)) (C : CxOk K p loose mean mg mb c n) {x : Str} {pos : Pos} {hI : Nat} {it : Addr} {body : List Stmt} {k : AF → St → Dt} {R : Result → Shared → Prop}
    (Re : Rel prog w c G st s) (hi : G.ρ[hI]? = some it) (t : ((run n).f c.env.scope.names x hI body st k).Tr) (post : PostF prog w c G k (fun f s' => R (.ok f) s')) : codeAny (model prog w) c.A (.forLoop (.Name x pos) (.ref it) body [] c.env) R s := by
  refine codeAny_forLoop (fun j s => j ≤ n ∧ ∃ G1 st1, G.Le G1 ∧ Rel prog w c G1 st1 s ∧ ((run j).f c.env.scope.names x hI body st1 k).Tr) ?_ n ⟨Nat.le_refl _, G, st, .refl G, Re, t⟩ (fun _ => rfl)
  rintro j s ⟨hj, G1, st1, le, R1, t1⟩
  cases j with
  | zero => exact t1.elim
  | succ j =>
    have Sj := H j (by omega)
    have Cj := C.mono (show j ≤ n by omega)
    refine opNext_ok C.hh R1 (pre_get le.r hi) t1 (fun st2 s2 R2 t2 => wpAny_execs_nil (post _ _ _ .next _ le R2 rfl t2)) fun st2 s2 a v R2 ha t2 => ?_
    refine wpAny_assign_Name (stName_ok C R2 ha t2 fun G3 st3 s3 le3 R3 t3 => ?_)
    refine evSs_ok Sj Cj body R3 t3 fun G4 st4 s4 fl f le4 R4 hf t4 => ?_
    have l4 := le.trans (le3.trans le4)
    cases fl with
    | next => cases hf; exact ⟨j, Nat.lt_succ_self _, by omega, G4, st4, l4, R4, t4⟩
    | cont => cases hf; exact ⟨j, Nat.lt_succ_self _, by omega, G4, st4, l4, R4, t4⟩
    | brk => cases hf; exact post _ _ _ .next _ l4 R4 rfl t4
    | ret a => obtain ⟨v, rfl, hv⟩ := hf; exact post _ _ _ (.ret a) _ l4 R4 ⟨v, rfl, hv⟩ t4
theorem next_self (R : Rel prog w c G st s) {hI : Nat} {it : Addr} {kEnd : St → Dt} {kItem : AV → St → Dt} (hi : G.ρ[hI]? = some it) (t : (opNext hI st kEnd kItem).Tr) {A : Around} (Q : Value → Shared → Prop) (E : Value → Shared → Prop) (h : Q (.ref it) s) :
    wpAny (model prog w) A (pyIter (.ref it)) Q E s := by
  obtain ⟨m, news, R⟩ := R
  unfold opNext at t
  cases e1 : objAt hI st with
  | none => rw [e1] at t; exact t.elim
  | some o =>
    rw [e1] at t
    cases o <;> try exact t.elim
    case liter l i =>
      obtain ⟨co, hn, ma, al, hal, hc, hd⟩ := R.obj hi e1
      exact wpAny_pyIter_listiter (l := al) (i := i) ⟨co, R.N.get ma, hc, hd⟩ h
    case riter x left step =>
      obtain ⟨co, hn, ma, e0⟩ := R.obj hi e1
      exact wpAny_pyIter_rangeiter (x := x) (left := left) (step := step) (by have := R.N.get ma; rw [e0] at this; exact this) h
theorem comp_ok (KO : KOk K) (H : ∀ j, j < n → Snd prog w K p loose mean mg mb j (run j)) (C : CxOk K p loose mean mg mb c n) {elt : Expr} {x : Str} {pos : Pos} {iter : Expr} {ifs : List Expr} {scope : Scope} {cpos : Pos} {hI hA : Nat} {it acc : Addr} {k : St → Dt} {R : Result → Shared → Prop}
    (Re : Rel prog w c G st s) (hi : G.ρ[hI]? = some it) (ha : G.ρ[hA]? = some acc) (t : ((run n).l c.env.scope.names elt x ifs hI hA st k).Tr) (post : PostU prog w c G k (fun _ s' => R (.ok .next) s')) :
    codeAny (model prog w) c.A (.compLoop (.ListComp elt [⟨.Name x pos, iter, ifs, 0⟩] scope cpos) 0 (.ref it) (.ref acc) c.env) R s ∧
      ∀ (Q : Value → Shared → Prop) (E : Value → Shared → Prop), Q (.ref it) s → wpAny (model prog w) c.A (pyIter (.ref it)) Q E s := by
  refine ⟨?_, ?_⟩
  · refine codeAny_compLoop_tests (fun j s => j ≤ n ∧ ∃ G1 st1, G.Le G1 ∧ Rel prog w c G1 st1 s ∧ ((run j).l c.env.scope.names elt x ifs hI hA st1 k).Tr) ?_ n ⟨Nat.le_refl _, G, st, .refl G, Re, t⟩ (fun _ => rfl)
    rintro j s ⟨hj, G1, st1, le, R1, t1⟩
    cases j with
    | zero => exact t1.elim
    | succ j =>
      have Sj := H j (by omega)
      have Cj := C.mono (show j ≤ n by omega)
      refine opNext_ok C.hh R1 (pre_get le.r hi) t1 (fun st2 s2 R2 t2 => post _ _ _ le R2 t2) fun st2 s2 a v R2 hv t2 => ?_
      refine wpAny_assign_Name (stName_ok C R2 hv t2 fun G3 st3 s3 le3 R3 t3 => ?_)
      have app : ∀ {G4 st4 s4} (ifs' : List Expr), G3.Le G4 → Rel prog w c G4 st4 s4 → ((run j).e c.env.scope.names elt st4 fun y st => opBi .append [.ref hA, y] st fun _ st => (run j).l c.env.scope.names elt x ifs hI hA st k).Tr →
          ∀ E', wpAny (model prog w) c.A (eval elt c.env) (fun x s₄ => wpAny (model prog w) c.A (call (Value.builtin "list.append") [.ref acc, x]) (fun x s₅ => ∃ m, m < j + 1 ∧ m ≤ n ∧ ∃ G1 st1, G.Le G1 ∧ Rel prog w c G1 st1 s₅ ∧ ((run m).l c.env.scope.names elt _ ifs hI hA st1 k).Tr) E' s₄) E' s4 := fun {G4 st4 s4} ifs' le4 R4 t4 E' => by
        refine Sj.xe Cj R4 t4 fun G5 st5 s5 y u le5 R5 hy t5 => ?_
        have l5 := (le.trans le3).trans (le4.trans le5)
        exact opBi_ok (b := .append) C.hh C.X KO.isi R5 (.cons (VR.mk_ref (pre_get l5.r ha)) (.cons hy .nil)) t5 fun G6 st6 s6 _ _ le6 R6 _ t6 => ⟨j, Nat.lt_succ_self _, by omega, G6, st6, l5.trans le6, R6, t6⟩
      cases ifs with
      | nil =>
        refine wpAny_tests_nil ?_
        rw [if_pos rfl]
        exact app [] (.refl _) R3 t3 _
      | cons cd ifs =>
        cases ifs with
        | cons _ _ => exact t3.elim
        | nil =>
          refine wpAny_tests_one (Sj.xt Cj R3 t3 fun G4 st4 s4 b le4 R4 t4 => ?_)
          cases b with
          | true => rw [if_pos rfl]; exact app [cd] le4 R4 t4 _
          | false =>
            rw [if_neg (by simp)]
            exact ⟨j, Nat.lt_succ_self _, by omega, G4, st4, (le.trans le3).trans le4, R4, t4⟩
  · intro Q E h
    cases n with
    | zero => exact t.elim
    | succ n => exact next_self Re hi t Q E h
end
end Mine

namespace Mine
open PySem PySem.W PyProof.Rows

theorem namesOk_spec : ∀ {l : Names}, namesOk l = true → (∀ x ∈ l, x.2 ≠ .cell) ∧ (∀ x ∈ l, x.2 = .local → l.lookup x.1 = some .local)
  | [], _ => ⟨(fun _ h => nomatch h), (fun _ h => nomatch h)⟩
  | q :: r, h => by
    have key : q.2 ≠ .cell ∧ look q.1 r = none ∧ namesOk r = true := by
      unfold namesOk at h
      obtain ⟨q1, q2⟩ := q
      cases q2 <;> try (cases h; done)
      all_goals
        dsimp only at h
        cases e : look q1 r with
        | some _ => rw [e] at h; cases h
        | none => rw [e] at h; exact ⟨by simp, rfl, h⟩
    obtain ⟨h1, h2, h3⟩ := key
    obtain ⟨i1, i2⟩ := namesOk_spec h3
    rw [look_eq] at h2
    refine ⟨fun x hx => ?_, fun x hx hl => ?_⟩
    · rcases List.mem_cons.mp hx with rfl | hx
      · exact h1
      · exact i1 x hx
    · rw [List.lookup_cons]
      rcases List.mem_cons.mp hx with rfl | hx
      · simp [hl]
      · have := i2 x hx hl
        cases e : (x.1 == q.1) with
        | true =>
          rw [eq_of_beq e, h2] at this
          cases this
        | false => exact this
theorem relab_eq {env : Env} (hk : env.scope.kind = .function) : ∀ l : Names, relab env.scope.names l = l.map fun (n, k) => if (k == .free && env.scope.kind == .function && env.kindOf n == some .cell) then (n, .cell) else (n, k)
  | [] => rfl
  | q :: r => by
    obtain ⟨q1, q2⟩ := q
    unfold relab
    rw [relab_eq hk r, List.map_cons]
    congr 1
    rw [hk]
    have e : env.kindOf q1 = look q1 env.scope.names := (look_eq _ _).symm
    cases q2 <;> try rfl
    dsimp only
    rw [e]
    cases h : look q1 env.scope.names with
    | none => simp
    | some k2 => cases k2 <;> simp

/-- the cells that a comprehension closes over -/
noncomputable def concCells (cells : List (Str × Addr)) : Names → List (Str × Addr) → Option (List (Str × Addr))
  | [], acc => some acc
  | q :: r, acc => match q.2 with
    | .free => match cells.lookup q.1 with
      | some a => concCells cells r ((q.1, a) :: acc)
      | none => none
    | _ => concCells cells r acc
theorem closure_eq {scope : Scope} {env : Env} {cl : List (Str × Addr)} (h : concCells env.cells scope.names [] = some cl) : closureFor scope env = pure cl := by
  have key : ∀ (l : Names) (acc cl : List (Str × Addr)), concCells env.cells l acc = some cl →
      (forIn l acc fun x r => match x with
        | (name, kind) => if (kind == NameKind.free) = true then do
            let a ← cellOf env name
            pure (ForInStep.yield ((name, a) :: r))
          else pure (ForInStep.yield r) : Sem (List (Str × Addr))) = pure cl := by
    intro l
    induction l with
    | nil => intro acc cl h; cases h; rfl
    | cons q r ih =>
      intro acc cl h
      obtain ⟨q1, q2⟩ := q
      unfold concCells at h
      rw [List.forIn_cons]
      cases q2 <;> try exact ih _ _ h
      dsimp only at h ⊢
      cases e : env.cells.lookup q1 with
      | none => rw [e] at h; cases h
      | some a =>
        rw [e] at h
        have ec : cellOf env q1 = pure a := by unfold cellOf; rw [e]
        rw [ec]
        exact ih _ _ h
  have := key scope.names [] cl h
  unfold closureFor
  dsimp only
  simp only [bind_pure]
  exact this

section
variable {prog : Program} {w : World} {c : Cx} {G : Gh} {st : St} {s : Shared} {m : Str → Option Value} {news : List (Addr × Obj)} {E : Value → Shared → Prop}
  {K : Frag} {p : Program} {loose : List Str} {mean : ExcName → Option Value} {mg mb : Str → Option Value} {n : Nat} {r : Ev}

noncomputable def CellsR (G : Gh) : List (Str × Nat) → List (Str × Addr) → Prop := All2 fun x y => x.1 = y.1 ∧ G.ρ[x.2]? = some y.2
theorem cells_look {ac : List (Str × Nat)} {cc : List (Str × Addr)} (h : CellsR G ac cc) : ∀ x i, look x ac = some i → ∃ a, cc.lookup x = some a ∧ G.ρ[i]? = some a := by
  induction h with
  | nil => intro x i e; cases e
  | @cons a b l r h1 h2 ih =>
    intro x i e
    obtain ⟨b1, b2⟩ := b
    obtain ⟨e1, e2⟩ := h1
    dsimp only at e1 e2
    unfold look at e
    rw [List.lookup_cons, ← e1, ← strEq_beq]
    cases q : strEq x a.1 with
    | true => rw [q] at e; cases e; exact ⟨b2, rfl, e2⟩
    | false => rw [q] at e; exact ih x i e
theorem compCells_ok {cl : List (Str × Nat)} {cells : List (Str × Addr)} (hcl : ∀ x h, look x cl = some h → ∃ a, cells.lookup x = some a ∧ G.ρ[h]? = some a) :
    ∀ (l : Names) (aa : List (Str × Nat)) (ca : List (Str × Addr)) (cl' : List (Str × Nat)), CellsR G aa ca → compCells cl l aa = some cl' → ∃ cc, concCells cells l ca = some cc ∧ CellsR G cl' cc
  | [], aa, ca, cl', h, e => by cases e; exact ⟨ca, rfl, h⟩
  | q :: r, aa, ca, cl', h, e => by
    obtain ⟨q1, q2⟩ := q
    unfold compCells at e
    unfold concCells
    cases q2 <;> try exact compCells_ok hcl r aa ca cl' h e
    dsimp only at e ⊢
    cases q : look q1 cl with
    | none => rw [q] at e; cases e
    | some i =>
      rw [q] at e
      obtain ⟨a, e1, e2⟩ := hcl q1 i q
      rw [e1]
      exact compCells_ok hcl r _ _ cl' (.cons (a := (q1, i)) (b := (q1, a)) ⟨rfl, e2⟩ h) e

/-- back out of the comprehension -/
theorem RelAt.back {e' : Env} {st' : St} {cl : List (Str × Nat)} (R : RelAt prog w { c with env := e' } G st' s m news) (hcl : ∀ x h, look x cl = some h → ∃ a, c.env.cells.lookup x = some a ∧ G.ρ[h]? = some a)
    (hcf : c.env = c.fenv ∧ ∃ cn cs a ccd cl, c.fenv = envX cn cs c.L a ccd cl) : RelAt prog w c G ⟨st'.n, st'.hp, st'.nS, st'.nT, st'.fr, cl, none⟩ s m news :=
  ⟨R.F, R.N, R.nd, R.n, R.nS, R.nT, R.fr, R.hp, R.inj, hcl, hcf, R.gens, R.drawn, R.os⟩
theorem dropK_ok {hC : Nat} {C : Addr} {k : St → Dt} (R : RelAt prog w c G st s m news) (hc : G.ρ[hC]? = some C) (t : (dropK hC st k).Tr) :
    ∃ m', s.heap.Ns C m' ∧ ∀ h', Heap.SameBut C s.heap h' → ∃ st', Rel prog w c G st' { s with heap := h' } ∧ (k st').Tr := by
  unfold dropK at t
  cases e : objAt hC st with
  | none => rw [e] at t; exact t.elim
  | some o =>
    rw [e] at t
    cases o <;> try exact t.elim
    case ns fs =>
      dsimp only at t
      rw [putK_eq] at t
      obtain ⟨co, hn, ma, es, ep, hd, hs, hf⟩ := R.obj hc e
      exact ⟨nsFind es, ⟨co, es, ep, R.N.get ma, hd, hs, fun _ => rfl⟩, fun h' hx => ⟨_, R.lose s.toks hn hx.extBut, t⟩⟩

/-- the comprehension up to its end, for both ways to use it -/
theorem evComp_ok (S : Snd prog w K p loose mean mg mb n r) (C : CxOk K p loose mean mg mb c n) {elt : Expr} {gens : List Comprehension} {sc : Scope} {pos ip : Pos} {kk : Nat → Nat → St → Dt} {use : Option (Value → Sem Unit)} {Q : Value → Shared → Prop}
    (R : Rel prog w c G st s) (t : (evComp r c.env.scope.names elt gens sc st kk).Tr)
    (fin : ∀ G' st' s' hA hC acc C', G.Le G' → Rel prog w c G' st' s' → G'.ρ[hA]? = some acc → G'.ρ[hC]? = some C' → (kk hA hC st').Tr → compPost (model prog w) c.A E use Q (.ref acc) C' (.ok .next) s') :
    wpAny (model prog w) c.A (comprehension (.ListComp elt gens sc pos) sc c.env ip (newList []) (firstAsync gens) (firstIter gens c.env) use) Q E s := by
  unfold evComp at t
  cases gens with
  | nil => exact t.elim
  | cons g gens =>
    obtain ⟨tgt, iter, ifs, asy⟩ := g
    cases tgt <;> try exact t.elim
    rename_i x xp
    cases asy with
    | negSucc _ => exact t.elim
    | ofNat a =>
      cases a with
      | succ _ => exact t.elim
      | zero =>
        cases gens with
        | cons _ _ => exact t.elim
        | nil =>
          have t : (evComp1 r c.env.scope.names elt x iter ifs sc st kk).Tr := t
          unfold evComp1 at t
          cases h1 : isSet iter with
          | true => rw [h1] at t; exact t.elim
          | false =>
            rw [h1] at t
            dsimp only at t
            cases h2 : isFn sc.kind with
            | false => rw [h2] at t; exact t.elim
            | true =>
              rw [h2] at t
              dsimp only at t
              have hkind : sc.kind = .function := by
                unfold Mine.isFn at h2
                cases e : sc.kind <;> rw [e] at h2 <;> first | rfl | cases h2
              cases h3 : namesOk sc.names with
              | false => rw [h3] at t; exact t.elim
              | true =>
                rw [h3] at t
                dsimp only at t
                obtain ⟨nc, nl⟩ := namesOk_spec h3
                cases h4 : look x sc.names with
                | none => rw [h4] at t; exact t.elim
                | some kd =>
                  rw [h4] at t
                  cases kd <;> try exact t.elim
                  dsimp only at t
                  cases h5 : compCells st.cl sc.names [] with
                  | none => rw [h5] at t; exact t.elim
                  | some cl0 =>
                  rw [h5] at t
                  dsimp only at t
                  obtain ⟨cc, hcc, _⟩ : ∃ cc, concCells c.env.cells sc.names [] = some cc ∧ CellsR G cl0 cc := by
                    obtain ⟨m, news, R0⟩ := R
                    exact compCells_ok R0.cl sc.names [] [] cl0 .nil h5
                  refine wpAny_comprehension_free (g := ⟨.Name x xp, iter, ifs, 0⟩) (gs := []) rfl (fun _ => folded_eq h1) (closure_eq hcc) hkind nl ?_
                  refine S.xe C R t fun G1 st1 s1 a v le R1 ha t1 => opIter_ok R1 ha t1 fun G2 st2 s2 hI it le2 R2 hi t2 => ?_
                  obtain ⟨m2, news2, R2⟩ := R2
                  refine newList_K R2.F R2.N (fun D h' F' N' hlt => ?_) (sizeLine_ge (by simp))
                  refine allocK_ok R2 s2.toks F' N' (fun q hq => Nat.ne_of_lt (hlt q hq)) (OR.mk_list .nil) t2 fun G3 st3 hA le3 hA3 _ R3 t3 => ?_
                  refine wpAny_newFunctionEnv nc (by intro y hy; cases hy) (fun h3' hns hsb => ?_) hkind
                  have keep3 : ∀ b o, h'.get? b = some o → h3'.get? b = some o := fun b o e => by
                    rw [hsb.2 b (Nat.ne_of_lt (Heap.lt_size e))]
                    exact Heap.get?_push_of_some _ e
                  obtain ⟨co, es, ep, hco, hdat, hsk, hfind⟩ := hns
                  have N4 := fresh_news (s := { s2 with heap := h' }) R3.F (R3.N.grown keep3) hco
                  refine allocK_ok (s := { s2 with heap := h' }) R3 (s2.toks + 0) (R3.F.grownK keep3) N4 R3.ne (show OR prog w (G3.push _) (.ns []) _ _ from ⟨es, ep, hdat, hsk, fun y b e => nomatch e⟩) t3 fun G4 st4 hC le4 hC4 _ R4 t4 => ?_
                  obtain ⟨n4, hp4, nS4, nT4, fr4, cl4, cf4⟩ := st4
                  dsimp only at t4
                  cases cf4 with
                  | some _ => exact t4.elim
                  | none =>
                    dsimp only at t4
                    cases h6 : compCells cl4 sc.names [] with
                    | none => rw [h6] at t4; exact t4.elim
                    | some cl' =>
                      rw [h6] at t4
                      dsimp only at t4
                      obtain ⟨cc', hcc', hcr⟩ := compCells_ok R4.cl sc.names [] [] cl' .nil h6
                      rw [hcc] at hcc'
                      cases hcc'
                      have hcl4 := R4.cl
                      have hcf4 := R4.cf
                      dsimp only at hcl4 hcf4
                      have C' : CxOk K p loose mean mg mb { c with env := compEnvC sc cc h'.objs.size c.env } n := ⟨C.B, C.X, C.T, C.hA, C.hf, C.hfl, C.hk, C.hh, C.dep, C.uni, hkind, C.eg⟩
                      have R5 : RelAt prog w { c with env := compEnvC sc cc h'.objs.size c.env } G4 ⟨n4, hp4, nS4, nT4, fr4, cl', some hC⟩ _ _ _ :=
                        ⟨R4.F, R4.N, R4.nd, R4.n, R4.nS, R4.nT, R4.fr, R4.hp, R4.inj, cells_look hcr, ⟨_, hC4, rfl⟩, R4.gens, R4.drawn, R4.os⟩
                      have hnm : (compEnvC sc cc h'.objs.size c.env).scope.names = relab c.env.scope.names sc.names := (relab_eq C.ek sc.names).symm
                      rw [← hnm] at t4
                      have L := S.xl (pos := xp) (iter := iter) (scope := sc) (cpos := pos) C' R5.rel (pre_get (le3.trans le4).r hi) (pre_get le4.r hA3) t4 (R := compPost (model prog w) c.A E use Q (.ref D) h'.objs.size)
                        fun G6 st6 s6 le6 ⟨m6, news6, R6⟩ t6 => by
                          obtain ⟨n6, hp6, nS6, nT6, fr6, cl6, cf6⟩ := st6
                          have R7 := RelAt.back (cl := cl4) R6 (fun y i e => let ⟨a, e1, e2⟩ := hcl4 y i e; ⟨a, e1, pre_get le6.r e2⟩) hcf4
                          exact fin G6 _ _ hA hC D h'.objs.size ((le.trans le2).trans ((le3.trans le4).trans le6)) R7.rel (pre_get (le4.trans le6).r hA3) (pre_get le6.r hC4) t6
                      exact codeAny_compStart_list L.1 (L.2 _ _ L.1)

theorem ListComp_ok (S : Snd prog w K p loose mean mg mb n r) (C : CxOk K p loose mean mg mb c n) {elt : Expr} {gens : List Comprehension} {sc : Scope} {pos : Pos} {k : K1} {Q : Value → Shared → Prop} (R : Rel prog w c G st s)
    (t : (evComp r c.env.scope.names elt gens sc st fun h hC st => dropK hC st fun st => k (.ref h) st).Tr) (post : Post prog w c G k Q) : wpAny (model prog w) c.A (eval (.ListComp elt gens sc pos) c.env) Q E s := by
  rw [eval_ListComp]
  refine evComp_ok S C R t fun G' st' s' hA hC acc C' le ⟨m, news, R'⟩ ha hc t' => ?_
  obtain ⟨m', hns, fin⟩ := dropK_ok R' hc t'
  exact ⟨m', hns, fun h' hx => let ⟨st2, R2, t2⟩ := fin h' hx; post _ _ _ _ _ le R2 (VR.mk_ref ha) t2⟩

theorem AssignComp_ok (S : Snd prog w K p loose mean mg mb n r) (C : CxOk K p loose mean mg mb c n) {x : Str} {xp : Pos} {elt : Expr} {gens : List Comprehension} {sc : Scope} {cp pos : Pos} {k : St → Dt} {Q : Flow → Shared → Prop}
    (R : Rel prog w c G st s) (hx : look x c.env.scope.names = some .local) (hl : (Nat.beq cp.line pos.line && Nat.beq xp.line cp.line && !hasName x sc.names) = true)
    (t : (evComp r c.env.scope.names elt gens sc st fun h hC st => stName c.env.scope.names x (.ref h) st fun st => dropK hC st k).Tr) (post : PostU prog w c G k (fun _ s' => Q .next s')) :
    wpAny (model prog w) c.A (exec (.Assign [.Name x xp] (.ListComp elt gens sc cp) pos) c.env) Q E s := by
  have hsw : swapsWith (.ListComp elt gens sc cp) (some (.Name x xp)) pos.line c.env = pure true := by
    simp only [Bool.and_eq_true, Bool.not_eq_true'] at hl
    obtain ⟨⟨h1, h2⟩, h3⟩ := hl
    have h2 := Nat.eq_of_beq_eq_true h2
    rw [look_eq] at hx
    have ek : c.env.kindOf x = some .local := hx
    have hn : (sc.names.any fun (n, k) => n == x && (k == .local || k == .cell)) = false := by
      have : ∀ l : Names, hasName x l = false → (l.any fun (n, k) => n == x && (k == .local || k == .cell)) = false := by
        intro l
        induction l with
        | nil => intro _; rfl
        | cons q r ih =>
          intro h
          obtain ⟨q1, q2⟩ := q
          unfold hasName at h
          rw [List.any_cons]
          dsimp only at h ⊢
          rw [← strEq_beq]
          cases e : strEq q1 x with
          | true =>
            rw [e] at h
            cases q2 <;> first
              | cases h
              | (dsimp only at h; rw [ih h]; rfl)
          | false =>
            rw [e] at h
            dsimp only at h
            rw [ih h]; rfl
      exact this _ h3
    unfold swapsWith
    dsimp only
    simp only [blockFn C.ek, ek, hn]
    have hp : (Expr.ListComp elt gens sc cp).pos = cp := rfl
    rw [hp, h2]
    simp
  rw [exec_Assign_Name_used _ _ _ _ hsw]
  refine wpAny_bind (wpAny_standAt (wpAny_bind ?_))
  show wpAny _ c.A (do let _ ← comprehension (.ListComp elt gens sc cp) sc c.env (firstIterPos gens cp) (newList []) (firstAsync gens) (firstIter gens c.env) (some (assign (.Name x xp) c.env))) _ _ s
  refine wpAny_bind (wpAny_mono (Q := fun _ s' => Q .next s') (E := E) ?_ (fun _ s' hq => wpAny_pure (wpAny_pure hq)) fun _ _ e => e)
  refine evComp_ok S C R t fun G' st' s' hA hC acc C' le R' ha hc t' => ?_
  refine wpAny_assign_Name (stName_ok C R' (VR.mk_ref ha) t' fun G2 st2 s2 le2 ⟨m, news, R2⟩ t2 => ?_)
  obtain ⟨m', hns, fin⟩ := dropK_ok R2 (pre_get le2.r hc) t2
  exact ⟨m', hns, fun h' hx => let ⟨st3, R3, t3⟩ := fin h' hx; post _ _ _ (le.trans le2) R3 t3⟩
end
end Mine

namespace Mine
open PySem PySem.W PyProof.Rows

structure FnOk (K : Frag) (F : Fn) : Prop where
  at_ : ∃ name qual params dV kV doc pm cdv ct oc an od osl, K.lookup F.addr = some ⟨oc, od, .func (fnOf name qual params F.body F.scope dV kV doc pm an cdv ct), osl⟩ ∧ codeIn K cdv qual = true ∧
    ∀ (s : Shared) (G : Gh) (vs : List Value), K.In s.heap → vs.length = F.argc → ∃ exv, VRs G F.extra exv ∧ BindsTo s (fnOf name qual params F.body F.scope dV kV doc pm an cdv ct) ⟨vs, []⟩ (F.params.zip (vs ++ exv))
  len : F.params.length = F.argc + F.extra.length
  kinds : ∀ x ∈ F.params, F.scope.names.lookup x = some .local ∨ F.scope.names.lookup x = some .cell
  co : F.scope.isCoroutine = false
  gen : F.scope.isGenerator = false
  kind : F.scope.kind = .function
  nodup : ((cellsFrom 0 F.scope.names []).map (·.1)).Nodup
  cells : ∀ y ∈ F.scope.names, y.2 = .cell → F.scope.names.lookup y.1 = some .cell
structure ClsOk (K : Frag) (C : Nat) (F : Fn) : Prop where
  fn : FnOk K F
  makes : makesIn K C = true
  init : findIn K (.ref C) "__init__" = some (some (.ref F.addr))
  isfn : PySem.W.isFn K (.ref F.addr) = true

section
variable {prog : Program} {w : World} {c : Cx} {G : Gh} {st : St} {s : Shared} {m : Str → Option Value} {news : List (Addr × Obj)} {E : Value → Shared → Prop}
  {K : Frag} {p : Program} {loose : List Str} {mean : ExcName → Option Value} {mg mb : Str → Option Value} {n : Nat} {r : Ev}

theorem look_cons {α : Type} (y x : Str) (a : α) (r : List (Str × α)) : look y ((x, a) :: r) = match strEq y x with | true => some a | false => look y r := rfl
theorem binds_ok {nm : Names} {kindOf : Str → Option NameKind} (hk : ∀ x, kindOf x = look x nm) : ∀ (ps : List Str) (as : List AV) (vs : List Value) (acc bs : List (Str × AV)) (m cm : Str → Option Value),
    VRs G as vs → zipRev ps as acc = some bs → FrR G (plainOnes nm acc) m → (∀ x, look x nm = some .cell → CR G (look x acc) (cm x)) →
    FrR G (plainOnes nm bs) (bindL kindOf (ps.zip vs) m) ∧ (∀ x, look x nm = some .cell → CR G (look x bs) (bindC kindOf (ps.zip vs) cm x))
  | [], [], _, acc, bs, m, cm, .nil, e, h1, h2 => by cases e; exact ⟨h1, h2⟩
  | [], _ :: _, _, _, _, _, _, _, e, _, _ => nomatch e
  | _ :: _, [], _, _, _, _, _, _, e, _, _ => nomatch e
  | x :: ps, a :: as, v :: vs, acc, bs, m, cm, .cons h r, e, h1, h2 => by
    unfold zipRev at e
    rw [List.zip_cons_cons]
    refine binds_ok hk ps as vs _ bs _ _ r e ?_ ?_
    · rw [hk x]
      intro y b hb
      unfold plainOnes at hb
      dsimp only at hb
      cases q : look x nm with
      | none => rw [q] at hb; rw [if_neg (by simp)]; exact h1 y b hb
      | some kd =>
        rw [q] at hb
        cases kd <;> try (rw [if_neg (by simp)]; exact h1 y b hb)
        rw [if_pos rfl]
        dsimp only at hb
        rw [look_cons] at hb
        cases q' : strEq y x with
        | true =>
          rw [q'] at hb
          cases hb
          exact ⟨v, by simp [(strEq_iff _ _).mp q'], h⟩
        | false =>
          rw [q'] at hb
          obtain ⟨u, hu, hr⟩ := h1 y b hb
          exact ⟨u, by simp [strEq_false q', hu], hr⟩
    · intro y hy
      rw [hk x]
      have old := h2 y hy
      rw [look_cons]
      cases q' : strEq y x with
      | true =>
        have e2 := (strEq_iff _ _).mp q'
        subst e2
        rw [hy, if_neg (by simp)]
        exact ⟨v, by simp, h⟩
      | false =>
        have ne := strEq_false q'
        dsimp only
        cases q : look y acc with
        | none => trivial
        | some b =>
          rw [q] at old
          obtain ⟨u, hu, hr⟩ := old
          refine ⟨u, ?_, hr⟩
          split
          · exact hu
          · simp [ne, hu]
theorem mkCells_ok {bs : List (Str × AV)} {cm : Str → Option Value} : ∀ {cs : List (Str × Addr)} {cells : List (Addr × Obj)}, CellsAre cm cs cells → ∀ {G : Gh} {st : St} {s : Shared} {news : List (Addr × Obj)} {k : List (Str × Nat) → St → Dt},
    RelAt prog w c G st s m news → (∀ q ∈ cells, q ∈ cells → s.heap.get? q.1 = some q.2 ∧ q.1 ≠ c.L ∧ c.h₀.get? q.1 = none) → (cs.map (·.2)).Nodup → (∀ y ∈ cs, ∀ q ∈ news, q.1 ≠ y.2) → (∀ y ∈ cs, ∀ G', G.Le G' → CR G' (look y.1 bs) (cm y.1)) →
    (mkCells bs (cs.map (·.1)) st k).Tr → ∃ G' st' cl news', G.Le G' ∧ RelAt prog w c G' st' s m news' ∧ CellsR G' cl cs ∧ st'.fr = st.fr ∧ st'.cl = st.cl ∧ st'.cf = st.cf ∧ (k cl st').Tr
  | _, _, .nil, G, st, s, news, k, R, N, nd, ne, hr, t => ⟨G, st, [], news, .refl G, R, .nil, rfl, rfl, rfl, t⟩
  | _, _, .cons (n := x) (c := D) (o := o) (cs := cs) (cells := cells) h1 h2, G, st, s, news, k, R, N, nd, ne, hr, t => by
    rw [List.map_cons] at t
    unfold mkCells at t
    rw [allocK_eq] at t
    have h0 := N (D, o) (.head _) (.head _)
    have N' : News c.h₀ c.L s.heap ((D, o) :: news) := fun q hq => by
      rcases List.mem_cons.mp hq with rfl | hq
      · exact h0
      · exact R.N q hq
    obtain ⟨R', le, hD⟩ := R.alloc (o := .cell (look x bs)) s.toks R.F N' (fun q hq => ne (x, D) (.head _) q hq) (show OR prog w (G.push D) (.cell _) _ _ from ⟨cm x, h1, hr (x, D) (.head _) _ (G.le_push D)⟩)
    rw [List.map_cons] at nd
    obtain ⟨nd1, nd2⟩ := List.nodup_cons.mp nd
    obtain ⟨G', st', cl, news', le', R2, hcl, e1, e2, e3, t'⟩ := mkCells_ok h2 R' (fun q hq _ => N q (.tail _ hq) (.tail _ hq)) nd2 (fun y hy q hq => by
      rcases List.mem_cons.mp hq with rfl | hq
      · intro e
        exact nd1 (List.mem_map.mpr ⟨y, hy, e.symm⟩)
      · exact ne y (.tail _ hy) q hq) (fun y hy G' le' => hr y (.tail _ hy) G' (le.trans le')) t
    exact ⟨G', st', (x, st.n) :: cl, news', le.trans le', R2, .cons ⟨rfl, pre_get le'.r hD⟩ hcl, e1, e2, e3, t'⟩
theorem cells_names : ∀ (l : Names) (a : Nat) (acc : List (Str × Addr)) (acc' : List Str), acc.map (·.1) = acc' → (cellsFrom a l acc).map (·.1) = cellOnes l acc'
  | [], _, _, _, e => e
  | q :: r, a, acc, acc', e => by
    obtain ⟨q1, q2⟩ := q
    unfold cellsFrom cellOnes
    cases q2 <;> first
      | exact cells_names r a acc acc' e
      | exact cells_names r (a + 1) ((q1, a) :: acc) (q1 :: acc') (by rw [List.map_cons, e])
theorem cells_kind : ∀ (l l0 : Names) (a : Nat) (acc : List (Str × Addr)), (∀ y ∈ acc, (y.1, NameKind.cell) ∈ l0) → (∀ y ∈ l, y ∈ l0) → ∀ y ∈ cellsFrom a l acc, (y.1, NameKind.cell) ∈ l0
  | [], _, _, _, h, _ => h
  | q :: r, l0, a, acc, h, hl => by
    obtain ⟨q1, q2⟩ := q
    unfold cellsFrom
    cases q2 <;> first
      | exact cells_kind r l0 a acc h (fun y hy => hl y (.tail _ hy))
      | exact cells_kind r l0 (a + 1) _ (fun y hy => by
          rcases List.mem_cons.mp hy with rfl | hy
          · exact hl _ (.head _)
          · exact h y hy) (fun y hy => hl y (.tail _ hy))
theorem cells_addr : ∀ (l : Names) (a b : Nat) (acc : List (Str × Addr)), (∀ y ∈ acc, b < y.2 ∧ y.2 < a) → (acc.map (·.2)).Nodup → b < a → (∀ y ∈ cellsFrom a l acc, b < y.2) ∧ ((cellsFrom a l acc).map (·.2)).Nodup
  | [], _, _, _, h, nd, _ => ⟨fun y hy => (h y hy).1, nd⟩
  | q :: r, a, b, acc, h, nd, hb => by
    obtain ⟨q1, q2⟩ := q
    unfold cellsFrom
    cases q2 <;> first
      | exact cells_addr r a b acc h nd hb
      | refine cells_addr r (a + 1) b _ (fun y hy => ?_) ?_ (by omega)
    · rcases List.mem_cons.mp hy with rfl | hy
      · exact ⟨hb, Nat.lt_succ_self _⟩
      · exact ⟨(h y hy).1, Nat.lt_succ_of_lt (h y hy).2⟩
    · rw [List.map_cons]
      refine List.nodup_cons.mpr ⟨fun hm => ?_, nd⟩
      obtain ⟨y, hy, e⟩ := List.mem_map.mp hm
      have := (h y hy).2
      rw [e] at this
      exact Nat.lt_irrefl a this

/-- a call of one of the text's own functions -/
theorem callFn_ok (S : Snd prog w K p loose mean mg mb n r) (C : CxOk K p loose mean mg mb c (n + 1)) {A : Around} (hA : A.frames = c.A.frames) (hh : A.handled = none) (hd : A.depth ≤ c.A.depth + 1) (hu : A.units ≤ c.A.units + 5) {F : Fn} (ok : FnOk K F) {args : List AV} {vs : List Value}
    {k : K1} {Q : Value → Shared → Prop} (R : Rel prog w c G st s) (rv : VRs G args vs) (t : (callFn r F args st k).Tr) (post : Post prog w c G k Q) {RR : Result → Shared → Prop} (hRR : ∀ v s', Q v s' → RR (.ok (.ret v)) s') :
    codeAny (model prog w) A (.call (.ref F.addr) ⟨vs, []⟩) RR s := by
  obtain ⟨m, news, R⟩ := R
  unfold callFn at t
  cases h1 : Nat.beq (lenL args) F.argc with
  | false => rw [h1] at t; exact t.elim
  | true =>
    rw [h1] at t
    have h1 := Nat.eq_of_beq_eq_true h1
    rw [lenL_eq] at h1
    dsimp only at t
    rw [appK_eq] at t
    cases h2 : zipRev F.params (args ++ F.extra) [] with
    | none => rw [h2] at t; exact t.elim
    | some bs =>
      rw [h2] at t
      obtain ⟨name, qual, params, dV, kV, doc, pm, cdv, ct, oc, an, od, osl, hlook, hcode, hb⟩ := ok.at_
      obtain ⟨exv, hex, hbinds⟩ := hb s G vs (C.X.keeps R.F.keep) (by rw [← rv.length, h1])
      have hl1 := rv.length
      have hl2 := hex.length
      have hlen : F.params.length = (vs ++ exv).length := by rw [List.length_append, ok.len]; omega
      refine code_defC C.B R.F C.X R.N C.T (hA.trans C.hA) C.hf C.hk hlook hcode (by have := C.dep; omega) hbinds ?_ ok.nodup ?_ ok.co ok.gen ok.kind
      · rw [List.all_eq_true]
        intro y hy
        have hm : y.1 ∈ F.params := (List.of_mem_zip hy).1
        rcases ok.kinds _ hm with e | e <;> rw [e] <;> rfl
      · intro g L' h₁ tk cells FG F' N' Y B' XG TG l
        have hk : ∀ x, (envOfC qual F.scope L' F.addr cdv).kindOf x = look x F.scope.names := fun x => (look_eq _ _).symm
        obtain ⟨b1, b2⟩ := binds_ok hk F.params (args ++ F.extra) (vs ++ exv) [] bs (fun _ => none) (fun _ => none) (rv.append hex) h2 (fun y a e => nomatch e) (fun _ _ => trivial)
        obtain ⟨n0, hp0, nS0, nT0, fr0, cl0, cf0⟩ := st
        dsimp only at t
        have c1 : (cellsFrom (L' + 1) F.scope.names []).map (·.1) = cellOnes F.scope.names [] := cells_names _ _ _ _ rfl
        obtain ⟨a1, a2⟩ := cells_addr F.scope.names (L' + 1) L' [] (fun _ h => nomatch h) List.nodup_nil (Nat.lt_succ_self _)
        rw [← c1] at t
        have R0 : RelAt prog w { A := A.deeper (envOfC qual F.scope L' F.addr cdv), A₀ := A, base := c.base, h₀ := g, outer := c.fenv :: c.outer, fenv := envOfC qual F.scope L' F.addr cdv, L := L', env := envOfC qual F.scope L' F.addr cdv, gens := c.gens, drawn := c.drawn, os := c.os } G
            ⟨n0, hp0, nS0, nT0, plainOnes F.scope.names bs, [], none⟩ { s with heap := h₁, toks := tk } (bindL (envOfC qual F.scope L' F.addr cdv).kindOf (F.params.zip (vs ++ exv)) fun _ => none) news :=
          ⟨F', fun q hq => N' q (List.mem_append.mpr (.inr hq)), R.nd, R.n, R.nS, R.nT, b1, R.hp, R.inj, (fun x h e => nomatch e), ⟨rfl, qual, F.scope, F.addr, cdv, _, rfl⟩, R.gens, R.drawn, R.os⟩
        obtain ⟨G1, st1, cl1, news1, le1, R1, hcl, e1, e2, e3, t1⟩ := mkCells_ok Y R0 (fun q hq _ => N' q (List.mem_append.mpr (.inl hq))) a2 (fun y hy q hq => Nat.ne_of_lt (Nat.lt_trans (l q hq) (a1 y hy)))
          (fun y hy G' le' => by
            have hc := cells_kind F.scope.names F.scope.names (L' + 1) [] (fun _ h => nomatch h) (fun y hy => hy) y hy
            have hc := ok.cells _ hc rfl
            rw [← look_eq] at hc
            exact (b2 y.1 hc).mono le') t
        obtain ⟨n1, hp1, nS1, nT1, fr1, cl1', cf1⟩ := st1
        dsimp only at t1 e1 e2 e3
        have R2 : RelAt prog w { A := A.deeper (envOfC qual F.scope L' F.addr cdv), A₀ := A, base := c.base, h₀ := g, outer := c.fenv :: c.outer, fenv := envOfC qual F.scope L' F.addr cdv, L := L', env := envOfC qual F.scope L' F.addr cdv, gens := c.gens, drawn := c.drawn, os := c.os } G1
            ⟨n1, hp1, nS1, nT1, fr1, cl1, none⟩ { s with heap := h₁, toks := tk } (bindL (envOfC qual F.scope L' F.addr cdv).kindOf (F.params.zip (vs ++ exv)) fun _ => none) news1 :=
          ⟨R1.F, R1.N, R1.nd, R1.n, R1.nS, R1.nT, R1.fr, R1.hp, R1.inj, cells_look hcl, ⟨rfl, qual, F.scope, F.addr, cdv, _, rfl⟩, R1.gens, R1.drawn, R1.os⟩
        have C2 : CxOk K p loose mean mg mb { A := A.deeper (envOfC qual F.scope L' F.addr cdv), A₀ := A, base := c.base, h₀ := g, outer := c.fenv :: c.outer, fenv := envOfC qual F.scope L' F.addr cdv, L := L', env := envOfC qual F.scope L' F.addr cdv, gens := c.gens, drawn := c.drawn, os := c.os } n :=
          ⟨B', XG, TG, Around.frames_deeper (hA.trans C.hA), rfl, rfl, ok.kind, hh, by have := C.dep; show A.depth + 1 + 2 * n + 8 < recursionLimit; omega, by have := C.uni; show A.units + 3 + 8 * n + 80 < cLine; omega, ok.kind, rfl⟩
        refine evSs_ok S C2 F.body R2.rel t1 fun G3 st3 s3 fl f le3 ⟨m3, news3, R3⟩ hf t3 => ?_
        obtain ⟨n3, hp3, nS3, nT3, fr3, cl3, cf3⟩ := st3
        have leA := le1.trans le3
        have back : Fr c.h₀ c.L s3.heap m → News c.h₀ c.L s3.heap news3 → Rel prog w c G3 ⟨n3, hp3, nS3, nT3, fr0, cl0, cf0⟩ s3 := fun F3 N3 =>
          ⟨m, news3, F3, N3, R3.nd, R3.n, R3.nS, R3.nT, R.fr.mono leA, R3.hp, R3.inj, fun x h e => let ⟨a, e1, e2⟩ := R.cl x h e; ⟨a, e1, pre_get leA.r e2⟩, by
            have := R.cf
            dsimp only at this ⊢
            cases cf0 with
            | none => exact this
            | some hC => obtain ⟨a, e1, e2⟩ := this; exact ⟨a, pre_get leA.r e1, e2⟩, R3.gens, R3.drawn, R3.os⟩
        cases fl with
        | next =>
          cases hf
          exact leaveK_ R3.F R3.N fun F3 N3 => hRR _ _ (post G3 _ s3 .none .none leA (back F3 N3) rfl t3)
        | ret a =>
          obtain ⟨v, rfl, hv⟩ := hf
          exact leaveK_ R3.F R3.N fun F3 N3 => hRR _ _ (post G3 _ s3 a v leA (back F3 N3) hv t3)
        | brk => exact t3.elim
        | cont => exact t3.elim
end
end Mine

namespace Mine
open PySem PySem.W PyProof.Rows

structure KOk2 (K : Frag) : Prop where
  base : KOk K
  fns : ∀ a F, lookF a = some (.fn F) → F.addr = a ∧ FnOk K F
  cls : ∀ a F, lookF a = some (.cls F) → ClsOk K a F
  pick : ∀ a, lookF a = some .pick → a = 482
section
variable (prog : Program) (w : World) (K : Frag) (p : Program) (loose : List Str) (mean : ExcName → Option Value) (mg mb : Str → Option Value)
noncomputable def PickOk : Prop := ∀ {n : Nat} {c : Cx} {G : Gh} {st : St} {s : Shared} {args : List AV} {vs : List Value} {k : K1} {Q : Value → Shared → Prop} {E : Value → Shared → Prop}, CxOk K p loose mean mg mb c (n + 1) → Rel prog w c G st s → VRs G args vs → (opPick args st k).Tr → Post prog w c G k Q →
    wpAny (model prog w) c.A (call (.ref 482) vs) Q E s
end
theorem under_type (A : Around) (C : Addr) (vs : List Value) : (A.under (.builtin "type.__call__" ⟨.ref C :: vs, []⟩)).frames = A.frames ∧ (A.under (.builtin "type.__call__" ⟨.ref C :: vs, []⟩)).handled = A.handled ∧
    (A.under (.builtin "type.__call__" ⟨.ref C :: vs, []⟩)).depth = A.depth + 1 ∧ (A.under (.builtin "type.__call__" ⟨.ref C :: vs, []⟩)).units = A.units + 1 := by
  have hg : (Code.builtin "type.__call__" ⟨.ref C :: vs, []⟩).isGuard = false := by
    show guardIds.contains "type.__call__" = false
    decide +kernel
  refine ⟨rfl, rfl, ?_, rfl⟩
  unfold Around.under Code.weight
  rw [hg]
  rfl

section
variable {prog : Program} {w : World} {c : Cx} {G : Gh} {st : St} {s : Shared} {m : Str → Option Value} {news : List (Addr × Obj)} {E : Value → Shared → Prop}
  {K : Frag} {p : Program} {loose : List Str} {mean : ExcName → Option Value} {mg mb : Str → Option Value} {n : Nat} {r : Ev}

theorem evApply_ok (KO : KOk2 K) (P : PickOk prog w K p loose mean mg mb) (S : Snd prog w K p loose mean mg mb n r) (C : CxOk K p loose mean mg mb c (n + 1)) {f : AV} {args : List AV} {fv : Value} {vs : List Value} {k : K1} {Q : Value → Shared → Prop}
    (R : Rel prog w c G st s) (hf : VR G f fv) (rv : VRs G args vs) (t : (evApply r f args st k).Tr) (post : Post prog w c G k Q) : wpAny (model prog w) c.A (call fv vs) Q E s := by
  unfold evApply at t
  cases f <;> try exact t.elim
  case bi b =>
    cases hf
    exact opBi_ok C.hh C.X KO.base.isi R rv t post
  case old a =>
    cases hf
    dsimp only at t
    cases h : lookF a with
    | none => rw [h] at t; exact t.elim
    | some g =>
      rw [h] at t
      cases g with
      | fn F =>
        obtain ⟨ha, ok⟩ := KO.fns a F h
        subst ha
        exact wpAny_call (callFn_ok S C rfl C.hh (Nat.le_succ _) (Nat.le_add_right _ _) ok R rv t post fun v s' h => h)
      | cls F =>
        have ok := KO.cls a F h
        dsimp only at t
        obtain ⟨m, news, R⟩ := R
        refine call_cls R.F C.X R.N ok.makes ok.init ok.isfn fun x dx h' F' N' hlt hxd => ?_
        have N1 : News c.h₀ c.L h' ((dx, dictOf [] 0) :: news) := fun q hq => N' q (.tail _ hq)
        refine allocK_ok R s.toks F' N1 (fun q hq => Nat.ne_of_lt (hlt q hq)) (show OR prog w (G.push dx) (.dict []) _ _ from ⟨[], 0, rfl, .nil⟩) t fun G1 st1 d le1 hd _ R1 t1 => ?_
        refine allocK_ok (s := { s with heap := h' }) R1 s.toks F' N' (fun q hq => ?_) (show OR prog w (G1.push x) (.inst a d) _ _ from ⟨dx, pre_get (G1.le_push x).r hd, rfl⟩) t1 fun G2 st2 hx le2 hxx _ R2 t2 => ?_
        · rcases List.mem_cons.mp hq with rfl | hq
          · exact Nat.ne_of_lt hxd
          · exact Nat.ne_of_lt (Nat.lt_trans (hlt q hq) hxd)
        · obtain ⟨u1, u2, u3, u4⟩ := under_type c.A a vs
          exact callFn_ok (Q := fun v s' => v = .none ∧ Q (.ref x) s') S C u1 (u2.trans C.hh) (by omega) (by omega) ok.fn R2.rel (.cons (VR.mk_ref hxx) (VRs.mono (le1.trans le2) rv)) t2 (fun G3 st3 s3 b v le3 R3 hv t3 => by
            cases b <;> try exact t3.elim
            cases hv
            exact ⟨rfl, post _ _ _ _ _ ((le1.trans le2).trans le3) R3 (VR.mk_ref (pre_get le3.r hxx)) t3⟩) fun v s' h => h
      | pick =>
        have := KO.pick a h
        subst this
        exact P C R rv t post

theorem snd_all (KO : KOk2 K) (P : PickOk prog w K p loose mean mg mb) : ∀ n, Snd prog w K p loose mean mg mb n (run n) := by
  intro n
  induction n using Nat.strongRecOn with
  | ind n H =>
    cases n with
    | zero =>
      exact ⟨fun _ _ t _ => t.elim, fun _ _ t _ => t.elim, fun _ _ t _ => t.elim, fun _ _ _ _ t _ => t.elim, fun _ _ t _ => t.elim, fun _ _ _ t _ => t.elim, fun _ _ _ _ t _ => t.elim⟩
    | succ n =>
      have S := H n (Nat.lt_succ_self n)
      exact {
        xe := fun C R t post => evE_ok KO.base S (C.mono (Nat.le_succ n)) (fun R t post => ListComp_ok S (C.mono (Nat.le_succ n)) R t post) R t post
        xt := fun C R t post => evT_ok S (C.mono (Nat.le_succ n)) R t post
        xs := fun C R t post => evStmt_ok KO.base S (C.mono (Nat.le_succ n)) (fun R hx hl t post => AssignComp_ok S (C.mono (Nat.le_succ n)) R hx hl t post) R t post
        xc := fun C R hf rv t post => evApply_ok KO P S C R hf rv t post
        xw := fun C R t post => while_ok H C R t post
        xf := fun C R hi t post => for_ok H C R hi t post
        xl := fun C R hi ha t post => comp_ok KO.base H C R hi ha t post }
end
end Mine

namespace Mine
open PySem PySem.W PyProof.Rows

/-! the tables hold in the part of the top -/
noncomputable def glbOkB (K : Frag) (x : Str) : AV → Bool
  | .old a => match nsIn K mainGlobals x with
    | some (some (.ref b)) => Nat.beq a b
    | _ => false
  | .bi _ => match nsIn K mainGlobals x with
    | some none => true
    | _ => false
  | _ => false
noncomputable def glbsB (K : Frag) : List (Str × AV) → Bool
  | [] => true
  | p :: r => match glbOkB K p.1 p.2 with
    | true => glbsB K r
    | false => false
noncomputable def noneB : Option (Option Value) → Bool
  | some none => true
  | _ => false
noncomputable def setB : Option (Option Value) → Bool
  | some (some (.builtin s)) => s == "object.__setattr__"
  | _ => false
noncomputable def refB (f : Nat) : Option (Option Value) → Bool
  | some (some (.ref b)) => Nat.beq f b
  | _ => false
noncomputable def fldB (K : Frag) (C : Nat) (a : Str) : Bool := match plainGet K C a with
  | true => match hasDictIn K C with
    | true => match noneB (findIn K (.ref C) a) with
      | true => match setB (findIn K (.ref C) "__setattr__") with
        | true => match plainOver K C with
          | true => noneB (takerIn K C a)
          | false => false
        | false => false
      | false => false
    | false => false
  | false => false
noncomputable def fldsB (K : Frag) (C : Nat) : List (Str × Unit) → Bool
  | [] => true
  | p :: r => match fldB K C p.1 with
    | true => fldsB K C r
    | false => false
noncomputable def fieldsB (K : Frag) : List (Nat × List (Str × Unit)) → Bool
  | [] => true
  | p :: r => match fldsB K p.1 p.2 with
    | true => fieldsB K r
    | false => false
noncomputable def mthB (K : Frag) (C : Nat) (m : Str) (f : Nat) : Bool := match plainGet K C m with
  | true => match refB f (findIn K (.ref C) m) with
    | true => PySem.W.isFn K (.ref f)
    | false => false
  | false => false
noncomputable def mthsB (K : Frag) (C : Nat) : List (Str × Nat) → Bool
  | [] => true
  | p :: r => match mthB K C p.1 p.2 with
    | true => mthsB K C r
    | false => false
noncomputable def methsB (K : Frag) : List (Nat × List (Str × Nat)) → Bool
  | [] => true
  | p :: r => match mthsB K p.1 p.2 with
    | true => methsB K r
    | false => false
noncomputable def keepB (K : Frag) : List (Nat × GF) → Bool
  | [] => true
  | p :: r => match keepIn K (.ref p.1) with
    | true => keepB K r
    | false => false
theorem glbs_ok (P : Params) : glbsB (KF P) globs = true := by kernel_rfl
theorem flds_ok (P : Params) : fieldsB (KF P) fields = true := by kernel_rfl
theorem mths_ok (P : Params) : methsB (KF P) meths = true := by kernel_rfl
theorem keep_ok (P : Params) : keepB (KF P) gfs = true := by kernel_rfl
theorem isi_ok (P : Params) : isIn (KF P) (.ref 147) 147 = true := by kernel_rfl
end Mine

namespace Mine
open PySem PySem.W PyProof.Rows
noncomputable def noFd : FuncData := fnOf "" "" ⟨[], [], none, [], [], none, []⟩ [] ⟨.function, [], false, false, []⟩ .none .none .none .none none .none .none
noncomputable def getFd (o : Option Obj) : FuncData := match o with
  | some ⟨_, _, .func fd, _⟩ => fd
  | _ => noFd
noncomputable def isFd (o : Option Obj) : Bool := match o with
  | some ⟨_, _, .func _, _⟩ => true
  | _ => false
/-- the function's record in its one form -/
noncomputable def FormOk (fd : FuncData) (F : Fn) : Prop := fd = fnOf fd.name fd.qualname fd.params F.body F.scope fd.defaults fd.kwdefaults fd.doc fd.pyModule fd.annotations fd.code fd.closureTuple
noncomputable abbrev fdAt (P : Params) (a : Nat) : FuncData := getFd (List.lookup a (KF P))
structure Checks (F : Fn) : Prop where
  len : F.params.length = F.argc + F.extra.length
  kinds : ∀ x ∈ F.params, F.scope.names.lookup x = some .local ∨ F.scope.names.lookup x = some .cell
  co : F.scope.isCoroutine = false
  gen : F.scope.isGenerator = false
  kind : F.scope.kind = .function
  nodup : ((cellsFrom 0 F.scope.names []).map (·.1)).Nodup
  cells : ∀ y ∈ F.scope.names, y.2 = .cell → F.scope.names.lookup y.1 = some .cell
noncomputable def kindB : ScopeKind → Bool
  | .function => true
  | _ => false
noncomputable def nodupB : List Str → Bool
  | [] => true
  | x :: r => match r.any (strEq x) with
    | true => false
    | false => nodupB r
noncomputable def kindAt (F : Fn) (x : Str) : Bool := match look x F.scope.names with
  | some .local => true
  | some .cell => true
  | _ => false
noncomputable def cellAt (F : Fn) (y : Str × NameKind) : Bool := match y.2 with
  | .cell => match look y.1 F.scope.names with
    | some .cell => true
    | _ => false
  | _ => true
noncomputable def chkB (F : Fn) : Bool := match Nat.beq F.params.length (F.argc + F.extra.length) with
  | true => match F.params.all (kindAt F) with
    | true => match F.scope.isCoroutine with
      | false => match F.scope.isGenerator with
        | false => match kindB F.scope.kind with
          | true => match nodupB ((cellsFrom 0 F.scope.names []).map (·.1)) with
            | true => F.scope.names.all (cellAt F)
            | false => false
          | false => false
        | true => false
      | true => false
    | false => false
  | false => false
theorem nodupB_ok : ∀ {l : List Str}, nodupB l = true → l.Nodup
  | [], _ => List.nodup_nil
  | x :: r, h => by
    unfold nodupB at h
    cases e : r.any (strEq x) with
    | true => rw [e] at h; cases h
    | false =>
      rw [e] at h
      refine List.nodup_cons.mpr ⟨fun hm => ?_, nodupB_ok h⟩
      have := List.any_eq_false.mp e x hm
      rw [strEq_self] at this
      exact this rfl
theorem kindAt_ok {F : Fn} {x : Str} (h : kindAt F x = true) : F.scope.names.lookup x = some .local ∨ F.scope.names.lookup x = some .cell := by
  unfold kindAt at h
  rw [look_eq] at h
  split at h
  · rename_i e; exact .inl e
  · rename_i e; exact .inr e
  · cases h
theorem cellAt_ok {F : Fn} {y : Str × NameKind} (h : cellAt F y = true) (hy : y.2 = .cell) : F.scope.names.lookup y.1 = some .cell := by
  unfold cellAt at h
  rw [hy, look_eq] at h
  dsimp only at h
  split at h
  · assumption
  · cases h
theorem chkB_ok {F : Fn} (h : chkB F = true) : Checks F := by
  unfold chkB at h
  cases h1 : Nat.beq F.params.length (F.argc + F.extra.length) with
  | false => rw [h1] at h; cases h
  | true =>
    rw [h1] at h
    cases h2 : F.params.all (kindAt F) with
    | false => rw [h2] at h; cases h
    | true =>
      rw [h2] at h
      cases h3 : F.scope.isCoroutine with
      | true => rw [h3] at h; cases h
      | false =>
        rw [h3] at h
        cases h4 : F.scope.isGenerator with
        | true => rw [h4] at h; cases h
        | false =>
          rw [h4] at h
          cases h5 : kindB F.scope.kind with
          | false => rw [h5] at h; cases h
          | true =>
            rw [h5] at h
            cases h6 : nodupB ((cellsFrom 0 F.scope.names []).map (·.1)) with
            | false => rw [h6] at h; cases h
            | true =>
              rw [h6] at h
              refine ⟨Nat.eq_of_beq_eq_true h1, fun x hx => kindAt_ok (List.all_eq_true.mp h2 x hx), h3, h4, ?_, nodupB_ok h6, fun y hy => cellAt_ok (List.all_eq_true.mp h y hy)⟩
              cases e : F.scope.kind <;> rw [e] at h5 <;> first | rfl | cases h5
theorem fnOk_of (P : Params) {F : Fn} {a n : Nat} {ex : List AV} (ha : F.addr = a) (hn : F.argc = n) (he : F.extra = ex) (h1 : isFd (List.lookup a (KF P)) = true) (h2 : FormOk (fdAt P a) F) (h3 : codeIn (KF P) (fdAt P a).code (fdAt P a).qualname = true)
    (h4 : ∀ (s : Shared) (G : Gh) (vs : List Value), (KF P).In s.heap → vs.length = n → ∃ exv, VRs G ex exv ∧ BindsTo s (fdAt P a) ⟨vs, []⟩ (F.params.zip (vs ++ exv))) (c : Checks F) : FnOk (KF P) F := by
  subst ha hn he
  refine ⟨?_, c.len, c.kinds, c.co, c.gen, c.kind, c.nodup, c.cells⟩
  unfold fdAt at h2 h3 h4
  generalize List.lookup F.addr (KF P) = o at h1 h2 h3 h4 ⊢
  cases o with
  | none => cases h1
  | some o =>
    obtain ⟨oc, od, dat, osl⟩ := o
    cases dat <;> try (cases h1; done)
    rename_i fd
    have h2 : fd = fnOf fd.name fd.qualname fd.params F.body F.scope fd.defaults fd.kwdefaults fd.doc fd.pyModule fd.annotations fd.code fd.closureTuple := h2
    refine ⟨fd.name, fd.qualname, fd.params, fd.defaults, fd.kwdefaults, fd.doc, fd.pyModule, fd.code, fd.closureTuple, oc, fd.annotations, od, osl, ?_, h3, ?_⟩
    · rw [← h2]
    · rw [← h2]; exact h4
theorem len0 {vs : List Value} (h : vs.length = 0) : vs = [] := List.length_eq_zero_iff.mp h
theorem len1 {vs : List Value} (h : vs.length = 1) : ∃ a, vs = [a] := by
  cases vs with
  | nil => cases h
  | cons a r => obtain rfl := len0 (vs := r) (by simpa using h); exact ⟨a, rfl⟩
theorem len2 {vs : List Value} (h : vs.length = 2) : ∃ a b, vs = [a, b] := by
  cases vs with
  | nil => cases h
  | cons a r => obtain ⟨b, e⟩ := len1 (vs := r) (by simpa using h); exact ⟨a, b, by rw [e]⟩
theorem len3 {vs : List Value} (h : vs.length = 3) : ∃ a b c, vs = [a, b, c] := by
  cases vs with
  | nil => cases h
  | cons a r => obtain ⟨b, c, e⟩ := len2 (vs := r) (by simpa using h); exact ⟨a, b, c, by rw [e]⟩
theorem len4 {vs : List Value} (h : vs.length = 4) : ∃ a b c d, vs = [a, b, c, d] := by
  cases vs with
  | nil => cases h
  | cons a r => obtain ⟨b, c, d, e⟩ := len3 (vs := r) (by simpa using h); exact ⟨a, b, c, d, by rw [e]⟩
theorem len5 {vs : List Value} (h : vs.length = 5) : ∃ a b c d f, vs = [a, b, c, d, f] := by
  cases vs with
  | nil => cases h
  | cons a r => obtain ⟨b, c, d, f, e⟩ := len4 (vs := r) (by simpa using h); exact ⟨a, b, c, d, f, by rw [e]⟩
noncomputable def argsOf (fd : FuncData) : Arguments := fd.params
noncomputable def fdAt_body (fd : FuncData) : List Stmt := match fd.body with
  | .stmts b => b
  | _ => []
theorem bindsD {s : Shared} {qual name : Str} {params : Arguments} {body : List Stmt} {scope : Scope} {dV kV doc pm cdv ct : Value} {an : Option Addr} : True := trivial

theorem form_322 (P : Params) : FormOk (fdAt P 322) (mkFn 322 (inCls 31 2) 2 []) := by unfold FormOk; kernel_rfl
theorem addr_322 : (mkFn 322 (inCls 31 2) 2 []).addr = 322 := by kernel_rfl
theorem argc_322 : (mkFn 322 (inCls 31 2) 2 []).argc = 2 := by kernel_rfl
theorem extra_322 : (mkFn 322 (inCls 31 2) 2 []).extra = [] := by kernel_rfl
theorem isfd_322 (P : Params) : isFd (List.lookup 322 (KF P)) = true := by kernel_rfl
theorem code_322 (P : Params) : codeIn (KF P) (fdAt P 322).code (fdAt P 322).qualname = true := by kernel_rfl
theorem bind_322 (P : Params) (a b : Value) : bindArgs (fdAt P 322) ⟨[a, b], []⟩ = pure ((mkFn 322 (inCls 31 2) 2 []).params.zip ([a, b] ++ [])) := by kernel_rfl
theorem chk_322 : Checks (mkFn 322 (inCls 31 2) 2 []) := chkB_ok (by kernel_rfl)
theorem ok_322 (P : Params) : FnOk (KF P) (mkFn 322 (inCls 31 2) 2 []) := fnOk_of P (F := mkFn 322 (inCls 31 2) 2 []) addr_322 argc_322 extra_322 (isfd_322 P) (form_322 P) (code_322 P) (fun s G vs X h => ⟨[], .nil, by obtain ⟨a, b, rfl⟩ := len2 h; have h1 := bind_322 P a b; generalize (mkFn 322 (inCls 31 2) 2 []).params.zip ([a, b] ++ []) = bs at h1 ⊢; generalize fdAt P 322 = fd at h1 ⊢; exact BindsTo.of_eq h1⟩) chk_322
theorem form_336 (P : Params) : FormOk (fdAt P 336) (mkFn 336 (inCls 31 4) 2 []) := by unfold FormOk; kernel_rfl
theorem addr_336 : (mkFn 336 (inCls 31 4) 2 []).addr = 336 := by kernel_rfl
theorem argc_336 : (mkFn 336 (inCls 31 4) 2 []).argc = 2 := by kernel_rfl
theorem extra_336 : (mkFn 336 (inCls 31 4) 2 []).extra = [] := by kernel_rfl
theorem isfd_336 (P : Params) : isFd (List.lookup 336 (KF P)) = true := by kernel_rfl
theorem code_336 (P : Params) : codeIn (KF P) (fdAt P 336).code (fdAt P 336).qualname = true := by kernel_rfl
theorem bind_336 (P : Params) (a b : Value) : bindArgs (fdAt P 336) ⟨[a, b], []⟩ = pure ((mkFn 336 (inCls 31 4) 2 []).params.zip ([a, b] ++ [])) := by kernel_rfl
theorem chk_336 : Checks (mkFn 336 (inCls 31 4) 2 []) := chkB_ok (by kernel_rfl)
theorem ok_336 (P : Params) : FnOk (KF P) (mkFn 336 (inCls 31 4) 2 []) := fnOk_of P (F := mkFn 336 (inCls 31 4) 2 []) addr_336 argc_336 extra_336 (isfd_336 P) (form_336 P) (code_336 P) (fun s G vs X h => ⟨[], .nil, by obtain ⟨a, b, rfl⟩ := len2 h; have h1 := bind_336 P a b; generalize (mkFn 336 (inCls 31 4) 2 []).params.zip ([a, b] ++ []) = bs at h1 ⊢; generalize fdAt P 336 = fd at h1 ⊢; exact BindsTo.of_eq h1⟩) chk_336
theorem form_82 (P : Params) : FormOk (fdAt P 82) (mkFn 82 (top 9) 1 []) := by unfold FormOk; kernel_rfl
theorem addr_82 : (mkFn 82 (top 9) 1 []).addr = 82 := by kernel_rfl
theorem argc_82 : (mkFn 82 (top 9) 1 []).argc = 1 := by kernel_rfl
theorem extra_82 : (mkFn 82 (top 9) 1 []).extra = [] := by kernel_rfl
theorem isfd_82 (P : Params) : isFd (List.lookup 82 (KF P)) = true := by kernel_rfl
theorem code_82 (P : Params) : codeIn (KF P) (fdAt P 82).code (fdAt P 82).qualname = true := by kernel_rfl
theorem bind_82 (P : Params) (a : Value) : bindArgs (fdAt P 82) ⟨[a], []⟩ = pure ((mkFn 82 (top 9) 1 []).params.zip ([a] ++ [])) := by kernel_rfl
theorem chk_82 : Checks (mkFn 82 (top 9) 1 []) := chkB_ok (by kernel_rfl)
theorem ok_82 (P : Params) : FnOk (KF P) (mkFn 82 (top 9) 1 []) := fnOk_of P (F := mkFn 82 (top 9) 1 []) addr_82 argc_82 extra_82 (isfd_82 P) (form_82 P) (code_82 P) (fun s G vs X h => ⟨[], .nil, by obtain ⟨a, rfl⟩ := len1 h; have h1 := bind_82 P a; generalize (mkFn 82 (top 9) 1 []).params.zip ([a] ++ []) = bs at h1 ⊢; generalize fdAt P 82 = fd at h1 ⊢; exact BindsTo.of_eq h1⟩) chk_82
theorem form_223 (P : Params) : FormOk (fdAt P 223) (mkFn 223 (top 21) 1 []) := by unfold FormOk; kernel_rfl
theorem addr_223 : (mkFn 223 (top 21) 1 []).addr = 223 := by kernel_rfl
theorem argc_223 : (mkFn 223 (top 21) 1 []).argc = 1 := by kernel_rfl
theorem extra_223 : (mkFn 223 (top 21) 1 []).extra = [] := by kernel_rfl
theorem isfd_223 (P : Params) : isFd (List.lookup 223 (KF P)) = true := by kernel_rfl
theorem code_223 (P : Params) : codeIn (KF P) (fdAt P 223).code (fdAt P 223).qualname = true := by kernel_rfl
theorem bind_223 (P : Params) (a : Value) : bindArgs (fdAt P 223) ⟨[a], []⟩ = pure ((mkFn 223 (top 21) 1 []).params.zip ([a] ++ [])) := by kernel_rfl
theorem chk_223 : Checks (mkFn 223 (top 21) 1 []) := chkB_ok (by kernel_rfl)
theorem ok_223 (P : Params) : FnOk (KF P) (mkFn 223 (top 21) 1 []) := fnOk_of P (F := mkFn 223 (top 21) 1 []) addr_223 argc_223 extra_223 (isfd_223 P) (form_223 P) (code_223 P) (fun s G vs X h => ⟨[], .nil, by obtain ⟨a, rfl⟩ := len1 h; have h1 := bind_223 P a; generalize (mkFn 223 (top 21) 1 []).params.zip ([a] ++ []) = bs at h1 ⊢; generalize fdAt P 223 = fd at h1 ⊢; exact BindsTo.of_eq h1⟩) chk_223
theorem form_165 (P : Params) : FormOk (fdAt P 165) (mkFn 165 (inCls 16 0) 2 []) := by unfold FormOk; kernel_rfl
theorem addr_165 : (mkFn 165 (inCls 16 0) 2 []).addr = 165 := by kernel_rfl
theorem argc_165 : (mkFn 165 (inCls 16 0) 2 []).argc = 2 := by kernel_rfl
theorem extra_165 : (mkFn 165 (inCls 16 0) 2 []).extra = [] := by kernel_rfl
theorem isfd_165 (P : Params) : isFd (List.lookup 165 (KF P)) = true := by kernel_rfl
theorem code_165 (P : Params) : codeIn (KF P) (fdAt P 165).code (fdAt P 165).qualname = true := by kernel_rfl
theorem bind_165 (P : Params) (a b : Value) : bindArgs (fdAt P 165) ⟨[a, b], []⟩ = pure ((mkFn 165 (inCls 16 0) 2 []).params.zip ([a, b] ++ [])) := by kernel_rfl
theorem chk_165 : Checks (mkFn 165 (inCls 16 0) 2 []) := chkB_ok (by kernel_rfl)
theorem ok_165 (P : Params) : FnOk (KF P) (mkFn 165 (inCls 16 0) 2 []) := fnOk_of P (F := mkFn 165 (inCls 16 0) 2 []) addr_165 argc_165 extra_165 (isfd_165 P) (form_165 P) (code_165 P) (fun s G vs X h => ⟨[], .nil, by obtain ⟨a, b, rfl⟩ := len2 h; have h1 := bind_165 P a b; generalize (mkFn 165 (inCls 16 0) 2 []).params.zip ([a, b] ++ []) = bs at h1 ⊢; generalize fdAt P 165 = fd at h1 ⊢; exact BindsTo.of_eq h1⟩) chk_165
theorem mk_168 (P : Params) : makesIn (KF P) 168 = true := by kernel_rfl
theorem ini_168 (P : Params) : refB 165 (findIn (KF P) (.ref 168) "__init__") = true := by kernel_rfl
theorem isf_168 (P : Params) : PySem.W.isFn (KF P) (.ref 165) = true := by kernel_rfl
theorem form_28 (P : Params) : FormOk (fdAt P 28) (mkFn 28 (top 2) 1 []) := by unfold FormOk; kernel_rfl
theorem addr_28 : (mkFn 28 (top 2) 1 []).addr = 28 := by kernel_rfl
theorem argc_28 : (mkFn 28 (top 2) 1 []).argc = 1 := by kernel_rfl
theorem extra_28 : (mkFn 28 (top 2) 1 []).extra = [] := by kernel_rfl
theorem isfd_28 (P : Params) : isFd (List.lookup 28 (KF P)) = true := by kernel_rfl
theorem code_28 (P : Params) : codeIn (KF P) (fdAt P 28).code (fdAt P 28).qualname = true := by kernel_rfl
theorem bind_28 (P : Params) (a : Value) : bindArgs (fdAt P 28) ⟨[a], []⟩ = pure ((mkFn 28 (top 2) 1 []).params.zip ([a] ++ [])) := by kernel_rfl
theorem chk_28 : Checks (mkFn 28 (top 2) 1 []) := chkB_ok (by kernel_rfl)
theorem ok_28 (P : Params) : FnOk (KF P) (mkFn 28 (top 2) 1 []) := fnOk_of P (F := mkFn 28 (top 2) 1 []) addr_28 argc_28 extra_28 (isfd_28 P) (form_28 P) (code_28 P) (fun s G vs X h => ⟨[], .nil, by obtain ⟨a, rfl⟩ := len1 h; have h1 := bind_28 P a; generalize (mkFn 28 (top 2) 1 []).params.zip ([a] ++ []) = bs at h1 ⊢; generalize fdAt P 28 = fd at h1 ⊢; exact BindsTo.of_eq h1⟩) chk_28
theorem form_230 (P : Params) : FormOk (fdAt P 230) (mkFn 230 (top 22) 2 []) := by unfold FormOk; kernel_rfl
theorem addr_230 : (mkFn 230 (top 22) 2 []).addr = 230 := by kernel_rfl
theorem argc_230 : (mkFn 230 (top 22) 2 []).argc = 2 := by kernel_rfl
theorem extra_230 : (mkFn 230 (top 22) 2 []).extra = [] := by kernel_rfl
theorem isfd_230 (P : Params) : isFd (List.lookup 230 (KF P)) = true := by kernel_rfl
theorem code_230 (P : Params) : codeIn (KF P) (fdAt P 230).code (fdAt P 230).qualname = true := by kernel_rfl
theorem bind_230 (P : Params) (a b : Value) : bindArgs (fdAt P 230) ⟨[a, b], []⟩ = pure ((mkFn 230 (top 22) 2 []).params.zip ([a, b] ++ [])) := by kernel_rfl
theorem chk_230 : Checks (mkFn 230 (top 22) 2 []) := chkB_ok (by kernel_rfl)
theorem ok_230 (P : Params) : FnOk (KF P) (mkFn 230 (top 22) 2 []) := fnOk_of P (F := mkFn 230 (top 22) 2 []) addr_230 argc_230 extra_230 (isfd_230 P) (form_230 P) (code_230 P) (fun s G vs X h => ⟨[], .nil, by obtain ⟨a, b, rfl⟩ := len2 h; have h1 := bind_230 P a b; generalize (mkFn 230 (top 22) 2 []).params.zip ([a, b] ++ []) = bs at h1 ⊢; generalize fdAt P 230 = fd at h1 ⊢; exact BindsTo.of_eq h1⟩) chk_230
theorem form_216 (P : Params) : FormOk (fdAt P 216) (mkFn 216 (top 20) 1 [.int 1]) := by unfold FormOk; kernel_rfl
theorem addr_216 : (mkFn 216 (top 20) 1 [.int 1]).addr = 216 := by kernel_rfl
theorem argc_216 : (mkFn 216 (top 20) 1 [.int 1]).argc = 1 := by kernel_rfl
theorem extra_216 : (mkFn 216 (top 20) 1 [.int 1]).extra = [.int 1] := by kernel_rfl
theorem isfd_216 (P : Params) : isFd (List.lookup 216 (KF P)) = true := by kernel_rfl
theorem code_216 (P : Params) : codeIn (KF P) (fdAt P 216).code (fdAt P 216).qualname = true := by kernel_rfl
theorem bindd_216 {s : Shared} {qual : Str} {body : List Stmt} {scope : Scope} {kV doc pm cdv ct : Value} {an : Option Addr} {T : Addr} {o : Obj} {v : Value} {n : Nat} {a0 a1 : Option Expr} {p0 p1 : Pos} {ds : List Expr} (ho : s.heap.get? T = some o) (hs : o.data = .seq #[v] n) (a : Value) :
    BindsTo s (fnOf "number" qual ⟨[], [⟨"n", a0, p0⟩, ⟨"d", a1, p1⟩], none, [], [], none, ds⟩ body scope (.ref T) kV doc pm an cdv ct) ⟨[a], []⟩ [("n", a), ("d", v)] :=
  BindsTo.of_defaults rfl ho hs rfl rfl
theorem dflt_216 (P : Params) : List.lookup 209 (KF P) = some { cls := .type "tuple", data := .seq #[.int 1 457] 0 } := by kernel_rfl
theorem bind_216 (P : Params) {s : Shared} (X : (KF P).In s.heap) (a : Value) : BindsTo s (fdAt P 216) ⟨[a], []⟩ ((mkFn 216 (top 20) 1 [.int 1]).params.zip ([a] ++ [.int 1 457])) := by
  have e : fdAt P 216 = fnOf "number" (fdAt P 216).qualname (argsOf (fdAt P 216)) (fdAt_body (fdAt P 216)) (fdAt P 216).scope (.ref 209) (fdAt P 216).kwdefaults (fdAt P 216).doc (fdAt P 216).pyModule (fdAt P 216).annotations (fdAt P 216).code (fdAt P 216).closureTuple := by kernel_rfl
  rw [e]
  exact bindd_216 (X _ _ (dflt_216 P)) rfl a
theorem chk_216 : Checks (mkFn 216 (top 20) 1 [.int 1]) := chkB_ok (by kernel_rfl)
theorem ok_216 (P : Params) : FnOk (KF P) (mkFn 216 (top 20) 1 [.int 1]) := fnOk_of P (F := mkFn 216 (top 20) 1 [.int 1]) addr_216 argc_216 extra_216 (isfd_216 P) (form_216 P) (code_216 P) (fun s G vs X h => ⟨[.int 1 457], .cons ⟨457, rfl⟩ .nil, by obtain ⟨a, rfl⟩ := len1 h; exact bind_216 P X a⟩) chk_216
theorem form_137 (P : Params) : FormOk (fdAt P 137) (mkFn 137 (inCls 15 0) 3 [.none]) := by unfold FormOk; kernel_rfl
theorem addr_137 : (mkFn 137 (inCls 15 0) 3 [.none]).addr = 137 := by kernel_rfl
theorem argc_137 : (mkFn 137 (inCls 15 0) 3 [.none]).argc = 3 := by kernel_rfl
theorem extra_137 : (mkFn 137 (inCls 15 0) 3 [.none]).extra = [.none] := by kernel_rfl
theorem isfd_137 (P : Params) : isFd (List.lookup 137 (KF P)) = true := by kernel_rfl
theorem code_137 (P : Params) : codeIn (KF P) (fdAt P 137).code (fdAt P 137).qualname = true := by kernel_rfl
theorem bindd_137 {s : Shared} {qual : Str} {body : List Stmt} {scope : Scope} {kV doc pm cdv ct : Value} {an : Option Addr} {T : Addr} {o : Obj} {v : Value} {n : Nat} {a0 a1 a2 a3 : Option Expr} {p0 p1 p2 p3 : Pos} {ds : List Expr} (ho : s.heap.get? T = some o) (hs : o.data = .seq #[v] n) (a b c : Value) :
    BindsTo s (fnOf "__init__" qual ⟨[], [⟨"self", a0, p0⟩, ⟨"kind", a1, p1⟩, ⟨"items", a2, p2⟩, ⟨"attrs", a3, p3⟩], none, [], [], none, ds⟩ body scope (.ref T) kV doc pm an cdv ct) ⟨[a, b, c], []⟩ [("self", a), ("kind", b), ("items", c), ("attrs", v)] :=
  BindsTo.of_defaults rfl ho hs rfl rfl
theorem dflt_137 (P : Params) : List.lookup 130 (KF P) = some { cls := .type "tuple", data := .seq #[.none] 0 } := by kernel_rfl
theorem bind_137 (P : Params) {s : Shared} (X : (KF P).In s.heap) (a b c : Value) : BindsTo s (fdAt P 137) ⟨[a, b, c], []⟩ ((mkFn 137 (inCls 15 0) 3 [.none]).params.zip ([a, b, c] ++ [.none])) := by
  have e : fdAt P 137 = fnOf "__init__" (fdAt P 137).qualname (argsOf (fdAt P 137)) (fdAt_body (fdAt P 137)) (fdAt P 137).scope (.ref 130) (fdAt P 137).kwdefaults (fdAt P 137).doc (fdAt P 137).pyModule (fdAt P 137).annotations (fdAt P 137).code (fdAt P 137).closureTuple := by kernel_rfl
  rw [e]
  exact bindd_137 (X _ _ (dflt_137 P)) rfl a b c
theorem chk_137 : Checks (mkFn 137 (inCls 15 0) 3 [.none]) := chkB_ok (by kernel_rfl)
theorem ok_137 (P : Params) : FnOk (KF P) (mkFn 137 (inCls 15 0) 3 [.none]) := fnOk_of P (F := mkFn 137 (inCls 15 0) 3 [.none]) addr_137 argc_137 extra_137 (isfd_137 P) (form_137 P) (code_137 P) (fun s G vs X h => ⟨[.none], .cons rfl .nil, by obtain ⟨a, b, c, rfl⟩ := len3 h; exact bind_137 P X a b c⟩) chk_137
theorem mk_147 (P : Params) : makesIn (KF P) 147 = true := by kernel_rfl
theorem ini_147 (P : Params) : refB 137 (findIn (KF P) (.ref 147) "__init__") = true := by kernel_rfl
theorem isf_147 (P : Params) : PySem.W.isFn (KF P) (.ref 137) = true := by kernel_rfl
theorem form_187 (P : Params) : FormOk (fdAt P 187) (mkFn 187 (inCls 17 0) 3 [.none]) := by unfold FormOk; kernel_rfl
theorem addr_187 : (mkFn 187 (inCls 17 0) 3 [.none]).addr = 187 := by kernel_rfl
theorem argc_187 : (mkFn 187 (inCls 17 0) 3 [.none]).argc = 3 := by kernel_rfl
theorem extra_187 : (mkFn 187 (inCls 17 0) 3 [.none]).extra = [.none] := by kernel_rfl
theorem isfd_187 (P : Params) : isFd (List.lookup 187 (KF P)) = true := by kernel_rfl
theorem code_187 (P : Params) : codeIn (KF P) (fdAt P 187).code (fdAt P 187).qualname = true := by kernel_rfl
theorem bindd_187 {s : Shared} {qual : Str} {body : List Stmt} {scope : Scope} {kV doc pm cdv ct : Value} {an : Option Addr} {T : Addr} {o : Obj} {v : Value} {n : Nat} {a0 a1 a2 a3 : Option Expr} {p0 p1 p2 p3 : Pos} {ds : List Expr} (ho : s.heap.get? T = some o) (hs : o.data = .seq #[v] n) (a b c : Value) :
    BindsTo s (fnOf "__init__" qual ⟨[], [⟨"self", a0, p0⟩, ⟨"items", a1, p1⟩, ⟨"tags", a2, p2⟩, ⟨"attrs", a3, p3⟩], none, [], [], none, ds⟩ body scope (.ref T) kV doc pm an cdv ct) ⟨[a, b, c], []⟩ [("self", a), ("items", b), ("tags", c), ("attrs", v)] :=
  BindsTo.of_defaults rfl ho hs rfl rfl
theorem dflt_187 (P : Params) : List.lookup 180 (KF P) = some { cls := .type "tuple", data := .seq #[.none] 0 } := by kernel_rfl
theorem bind_187 (P : Params) {s : Shared} (X : (KF P).In s.heap) (a b c : Value) : BindsTo s (fdAt P 187) ⟨[a, b, c], []⟩ ((mkFn 187 (inCls 17 0) 3 [.none]).params.zip ([a, b, c] ++ [.none])) := by
  have e : fdAt P 187 = fnOf "__init__" (fdAt P 187).qualname (argsOf (fdAt P 187)) (fdAt_body (fdAt P 187)) (fdAt P 187).scope (.ref 180) (fdAt P 187).kwdefaults (fdAt P 187).doc (fdAt P 187).pyModule (fdAt P 187).annotations (fdAt P 187).code (fdAt P 187).closureTuple := by kernel_rfl
  rw [e]
  exact bindd_187 (X _ _ (dflt_187 P)) rfl a b c
theorem chk_187 : Checks (mkFn 187 (inCls 17 0) 3 [.none]) := chkB_ok (by kernel_rfl)
theorem ok_187 (P : Params) : FnOk (KF P) (mkFn 187 (inCls 17 0) 3 [.none]) := fnOk_of P (F := mkFn 187 (inCls 17 0) 3 [.none]) addr_187 argc_187 extra_187 (isfd_187 P) (form_187 P) (code_187 P) (fun s G vs X h => ⟨[.none], .cons rfl .nil, by obtain ⟨a, b, c, rfl⟩ := len3 h; exact bind_187 P X a b c⟩) chk_187
theorem mk_190 (P : Params) : makesIn (KF P) 190 = true := by kernel_rfl
theorem ini_190 (P : Params) : refB 187 (findIn (KF P) (.ref 190) "__init__") = true := by kernel_rfl
theorem isf_190 (P : Params) : PySem.W.isFn (KF P) (.ref 187) = true := by kernel_rfl
theorem form_33 (P : Params) : FormOk (fdAt P 33) (mkFn 33 (top 3) 5 []) := by unfold FormOk; kernel_rfl
theorem addr_33 : (mkFn 33 (top 3) 5 []).addr = 33 := by kernel_rfl
theorem argc_33 : (mkFn 33 (top 3) 5 []).argc = 5 := by kernel_rfl
theorem extra_33 : (mkFn 33 (top 3) 5 []).extra = [] := by kernel_rfl
theorem isfd_33 (P : Params) : isFd (List.lookup 33 (KF P)) = true := by kernel_rfl
theorem code_33 (P : Params) : codeIn (KF P) (fdAt P 33).code (fdAt P 33).qualname = true := by kernel_rfl
theorem bind_33 (P : Params) (a b c d f : Value) : bindArgs (fdAt P 33) ⟨[a, b, c, d, f], []⟩ = pure ((mkFn 33 (top 3) 5 []).params.zip ([a, b, c, d, f] ++ [])) := by kernel_rfl
theorem chk_33 : Checks (mkFn 33 (top 3) 5 []) := chkB_ok (by kernel_rfl)
theorem ok_33 (P : Params) : FnOk (KF P) (mkFn 33 (top 3) 5 []) := fnOk_of P (F := mkFn 33 (top 3) 5 []) addr_33 argc_33 extra_33 (isfd_33 P) (form_33 P) (code_33 P) (fun s G vs X h => ⟨[], .nil, by obtain ⟨a, b, c, d, f, rfl⟩ := len5 h; have h1 := bind_33 P a b c d f; generalize (mkFn 33 (top 3) 5 []).params.zip ([a, b, c, d, f] ++ []) = bs at h1 ⊢; generalize fdAt P 33 = fd at h1 ⊢; exact BindsTo.of_eq h1⟩) chk_33
theorem form_61 (P : Params) : FormOk (fdAt P 61) (mkFn 61 (top 6) 1 []) := by unfold FormOk; kernel_rfl
theorem addr_61 : (mkFn 61 (top 6) 1 []).addr = 61 := by kernel_rfl
theorem argc_61 : (mkFn 61 (top 6) 1 []).argc = 1 := by kernel_rfl
theorem extra_61 : (mkFn 61 (top 6) 1 []).extra = [] := by kernel_rfl
theorem isfd_61 (P : Params) : isFd (List.lookup 61 (KF P)) = true := by kernel_rfl
theorem code_61 (P : Params) : codeIn (KF P) (fdAt P 61).code (fdAt P 61).qualname = true := by kernel_rfl
theorem bind_61 (P : Params) (a : Value) : bindArgs (fdAt P 61) ⟨[a], []⟩ = pure ((mkFn 61 (top 6) 1 []).params.zip ([a] ++ [])) := by kernel_rfl
theorem chk_61 : Checks (mkFn 61 (top 6) 1 []) := chkB_ok (by kernel_rfl)
theorem ok_61 (P : Params) : FnOk (KF P) (mkFn 61 (top 6) 1 []) := fnOk_of P (F := mkFn 61 (top 6) 1 []) addr_61 argc_61 extra_61 (isfd_61 P) (form_61 P) (code_61 P) (fun s G vs X h => ⟨[], .nil, by obtain ⟨a, rfl⟩ := len1 h; have h1 := bind_61 P a; generalize (mkFn 61 (top 6) 1 []).params.zip ([a] ++ []) = bs at h1 ⊢; generalize fdAt P 61 = fd at h1 ⊢; exact BindsTo.of_eq h1⟩) chk_61
theorem form_68 (P : Params) : FormOk (fdAt P 68) (mkFn 68 (top 7) 2 []) := by unfold FormOk; kernel_rfl
theorem addr_68 : (mkFn 68 (top 7) 2 []).addr = 68 := by kernel_rfl
theorem argc_68 : (mkFn 68 (top 7) 2 []).argc = 2 := by kernel_rfl
theorem extra_68 : (mkFn 68 (top 7) 2 []).extra = [] := by kernel_rfl
theorem isfd_68 (P : Params) : isFd (List.lookup 68 (KF P)) = true := by kernel_rfl
theorem code_68 (P : Params) : codeIn (KF P) (fdAt P 68).code (fdAt P 68).qualname = true := by kernel_rfl
theorem bind_68 (P : Params) (a b : Value) : bindArgs (fdAt P 68) ⟨[a, b], []⟩ = pure ((mkFn 68 (top 7) 2 []).params.zip ([a, b] ++ [])) := by kernel_rfl
theorem chk_68 : Checks (mkFn 68 (top 7) 2 []) := chkB_ok (by kernel_rfl)
theorem ok_68 (P : Params) : FnOk (KF P) (mkFn 68 (top 7) 2 []) := fnOk_of P (F := mkFn 68 (top 7) 2 []) addr_68 argc_68 extra_68 (isfd_68 P) (form_68 P) (code_68 P) (fun s G vs X h => ⟨[], .nil, by obtain ⟨a, b, rfl⟩ := len2 h; have h1 := bind_68 P a b; generalize (mkFn 68 (top 7) 2 []).params.zip ([a, b] ++ []) = bs at h1 ⊢; generalize fdAt P 68 = fd at h1 ⊢; exact BindsTo.of_eq h1⟩) chk_68
theorem form_75 (P : Params) : FormOk (fdAt P 75) (mkFn 75 (top 8) 1 []) := by unfold FormOk; kernel_rfl
theorem addr_75 : (mkFn 75 (top 8) 1 []).addr = 75 := by kernel_rfl
theorem argc_75 : (mkFn 75 (top 8) 1 []).argc = 1 := by kernel_rfl
theorem extra_75 : (mkFn 75 (top 8) 1 []).extra = [] := by kernel_rfl
theorem isfd_75 (P : Params) : isFd (List.lookup 75 (KF P)) = true := by kernel_rfl
theorem code_75 (P : Params) : codeIn (KF P) (fdAt P 75).code (fdAt P 75).qualname = true := by kernel_rfl
theorem bind_75 (P : Params) (a : Value) : bindArgs (fdAt P 75) ⟨[a], []⟩ = pure ((mkFn 75 (top 8) 1 []).params.zip ([a] ++ [])) := by kernel_rfl
theorem chk_75 : Checks (mkFn 75 (top 8) 1 []) := chkB_ok (by kernel_rfl)
theorem ok_75 (P : Params) : FnOk (KF P) (mkFn 75 (top 8) 1 []) := fnOk_of P (F := mkFn 75 (top 8) 1 []) addr_75 argc_75 extra_75 (isfd_75 P) (form_75 P) (code_75 P) (fun s G vs X h => ⟨[], .nil, by obtain ⟨a, rfl⟩ := len1 h; have h1 := bind_75 P a; generalize (mkFn 75 (top 8) 1 []).params.zip ([a] ++ []) = bs at h1 ⊢; generalize fdAt P 75 = fd at h1 ⊢; exact BindsTo.of_eq h1⟩) chk_75
theorem form_89 (P : Params) : FormOk (fdAt P 89) (mkFn 89 (top 10) 1 []) := by unfold FormOk; kernel_rfl
theorem addr_89 : (mkFn 89 (top 10) 1 []).addr = 89 := by kernel_rfl
theorem argc_89 : (mkFn 89 (top 10) 1 []).argc = 1 := by kernel_rfl
theorem extra_89 : (mkFn 89 (top 10) 1 []).extra = [] := by kernel_rfl
theorem isfd_89 (P : Params) : isFd (List.lookup 89 (KF P)) = true := by kernel_rfl
theorem code_89 (P : Params) : codeIn (KF P) (fdAt P 89).code (fdAt P 89).qualname = true := by kernel_rfl
theorem bind_89 (P : Params) (a : Value) : bindArgs (fdAt P 89) ⟨[a], []⟩ = pure ((mkFn 89 (top 10) 1 []).params.zip ([a] ++ [])) := by kernel_rfl
theorem chk_89 : Checks (mkFn 89 (top 10) 1 []) := chkB_ok (by kernel_rfl)
theorem ok_89 (P : Params) : FnOk (KF P) (mkFn 89 (top 10) 1 []) := fnOk_of P (F := mkFn 89 (top 10) 1 []) addr_89 argc_89 extra_89 (isfd_89 P) (form_89 P) (code_89 P) (fun s G vs X h => ⟨[], .nil, by obtain ⟨a, rfl⟩ := len1 h; have h1 := bind_89 P a; generalize (mkFn 89 (top 10) 1 []).params.zip ([a] ++ []) = bs at h1 ⊢; generalize fdAt P 89 = fd at h1 ⊢; exact BindsTo.of_eq h1⟩) chk_89
theorem form_94 (P : Params) : FormOk (fdAt P 94) (mkFn 94 (top 11) 3 []) := by unfold FormOk; kernel_rfl
theorem addr_94 : (mkFn 94 (top 11) 3 []).addr = 94 := by kernel_rfl
theorem argc_94 : (mkFn 94 (top 11) 3 []).argc = 3 := by kernel_rfl
theorem extra_94 : (mkFn 94 (top 11) 3 []).extra = [] := by kernel_rfl
theorem isfd_94 (P : Params) : isFd (List.lookup 94 (KF P)) = true := by kernel_rfl
theorem code_94 (P : Params) : codeIn (KF P) (fdAt P 94).code (fdAt P 94).qualname = true := by kernel_rfl
theorem bind_94 (P : Params) (a b c : Value) : bindArgs (fdAt P 94) ⟨[a, b, c], []⟩ = pure ((mkFn 94 (top 11) 3 []).params.zip ([a, b, c] ++ [])) := by kernel_rfl
theorem chk_94 : Checks (mkFn 94 (top 11) 3 []) := chkB_ok (by kernel_rfl)
theorem ok_94 (P : Params) : FnOk (KF P) (mkFn 94 (top 11) 3 []) := fnOk_of P (F := mkFn 94 (top 11) 3 []) addr_94 argc_94 extra_94 (isfd_94 P) (form_94 P) (code_94 P) (fun s G vs X h => ⟨[], .nil, by obtain ⟨a, b, c, rfl⟩ := len3 h; have h1 := bind_94 P a b c; generalize (mkFn 94 (top 11) 3 []).params.zip ([a, b, c] ++ []) = bs at h1 ⊢; generalize fdAt P 94 = fd at h1 ⊢; exact BindsTo.of_eq h1⟩) chk_94
theorem form_101 (P : Params) : FormOk (fdAt P 101) (mkFn 101 (top 12) 1 []) := by unfold FormOk; kernel_rfl
theorem addr_101 : (mkFn 101 (top 12) 1 []).addr = 101 := by kernel_rfl
theorem argc_101 : (mkFn 101 (top 12) 1 []).argc = 1 := by kernel_rfl
theorem extra_101 : (mkFn 101 (top 12) 1 []).extra = [] := by kernel_rfl
theorem isfd_101 (P : Params) : isFd (List.lookup 101 (KF P)) = true := by kernel_rfl
theorem code_101 (P : Params) : codeIn (KF P) (fdAt P 101).code (fdAt P 101).qualname = true := by kernel_rfl
theorem bind_101 (P : Params) (a : Value) : bindArgs (fdAt P 101) ⟨[a], []⟩ = pure ((mkFn 101 (top 12) 1 []).params.zip ([a] ++ [])) := by kernel_rfl
theorem chk_101 : Checks (mkFn 101 (top 12) 1 []) := chkB_ok (by kernel_rfl)
theorem ok_101 (P : Params) : FnOk (KF P) (mkFn 101 (top 12) 1 []) := fnOk_of P (F := mkFn 101 (top 12) 1 []) addr_101 argc_101 extra_101 (isfd_101 P) (form_101 P) (code_101 P) (fun s G vs X h => ⟨[], .nil, by obtain ⟨a, rfl⟩ := len1 h; have h1 := bind_101 P a; generalize (mkFn 101 (top 12) 1 []).params.zip ([a] ++ []) = bs at h1 ⊢; generalize fdAt P 101 = fd at h1 ⊢; exact BindsTo.of_eq h1⟩) chk_101
theorem form_47 (P : Params) : FormOk (fdAt P 47) (mkFn 47 (inCls 5 0) 2 []) := by unfold FormOk; kernel_rfl
theorem addr_47 : (mkFn 47 (inCls 5 0) 2 []).addr = 47 := by kernel_rfl
theorem argc_47 : (mkFn 47 (inCls 5 0) 2 []).argc = 2 := by kernel_rfl
theorem extra_47 : (mkFn 47 (inCls 5 0) 2 []).extra = [] := by kernel_rfl
theorem isfd_47 (P : Params) : isFd (List.lookup 47 (KF P)) = true := by kernel_rfl
theorem code_47 (P : Params) : codeIn (KF P) (fdAt P 47).code (fdAt P 47).qualname = true := by kernel_rfl
theorem bind_47 (P : Params) (a b : Value) : bindArgs (fdAt P 47) ⟨[a, b], []⟩ = pure ((mkFn 47 (inCls 5 0) 2 []).params.zip ([a, b] ++ [])) := by kernel_rfl
theorem chk_47 : Checks (mkFn 47 (inCls 5 0) 2 []) := chkB_ok (by kernel_rfl)
theorem ok_47 (P : Params) : FnOk (KF P) (mkFn 47 (inCls 5 0) 2 []) := fnOk_of P (F := mkFn 47 (inCls 5 0) 2 []) addr_47 argc_47 extra_47 (isfd_47 P) (form_47 P) (code_47 P) (fun s G vs X h => ⟨[], .nil, by obtain ⟨a, b, rfl⟩ := len2 h; have h1 := bind_47 P a b; generalize (mkFn 47 (inCls 5 0) 2 []).params.zip ([a, b] ++ []) = bs at h1 ⊢; generalize fdAt P 47 = fd at h1 ⊢; exact BindsTo.of_eq h1⟩) chk_47
theorem mk_50 (P : Params) : makesIn (KF P) 50 = true := by kernel_rfl
theorem ini_50 (P : Params) : refB 47 (findIn (KF P) (.ref 50) "__init__") = true := by kernel_rfl
theorem isf_50 (P : Params) : PySem.W.isFn (KF P) (.ref 47) = true := by kernel_rfl
theorem form_208 (P : Params) : FormOk (fdAt P 208) (mkFn 208 (top 19) 1 []) := by unfold FormOk; kernel_rfl
theorem addr_208 : (mkFn 208 (top 19) 1 []).addr = 208 := by kernel_rfl
theorem argc_208 : (mkFn 208 (top 19) 1 []).argc = 1 := by kernel_rfl
theorem extra_208 : (mkFn 208 (top 19) 1 []).extra = [] := by kernel_rfl
theorem isfd_208 (P : Params) : isFd (List.lookup 208 (KF P)) = true := by kernel_rfl
theorem code_208 (P : Params) : codeIn (KF P) (fdAt P 208).code (fdAt P 208).qualname = true := by kernel_rfl
theorem bind_208 (P : Params) (a : Value) : bindArgs (fdAt P 208) ⟨[a], []⟩ = pure ((mkFn 208 (top 19) 1 []).params.zip ([a] ++ [])) := by kernel_rfl
theorem chk_208 : Checks (mkFn 208 (top 19) 1 []) := chkB_ok (by kernel_rfl)
theorem ok_208 (P : Params) : FnOk (KF P) (mkFn 208 (top 19) 1 []) := fnOk_of P (F := mkFn 208 (top 19) 1 []) addr_208 argc_208 extra_208 (isfd_208 P) (form_208 P) (code_208 P) (fun s G vs X h => ⟨[], .nil, by obtain ⟨a, rfl⟩ := len1 h; have h1 := bind_208 P a; generalize (mkFn 208 (top 19) 1 []).params.zip ([a] ++ []) = bs at h1 ⊢; generalize fdAt P 208 = fd at h1 ⊢; exact BindsTo.of_eq h1⟩) chk_208
theorem form_237 (P : Params) : FormOk (fdAt P 237) (mkFn 237 (top 23) 1 []) := by unfold FormOk; kernel_rfl
theorem addr_237 : (mkFn 237 (top 23) 1 []).addr = 237 := by kernel_rfl
theorem argc_237 : (mkFn 237 (top 23) 1 []).argc = 1 := by kernel_rfl
theorem extra_237 : (mkFn 237 (top 23) 1 []).extra = [] := by kernel_rfl
theorem isfd_237 (P : Params) : isFd (List.lookup 237 (KF P)) = true := by kernel_rfl
theorem code_237 (P : Params) : codeIn (KF P) (fdAt P 237).code (fdAt P 237).qualname = true := by kernel_rfl
theorem bind_237 (P : Params) (a : Value) : bindArgs (fdAt P 237) ⟨[a], []⟩ = pure ((mkFn 237 (top 23) 1 []).params.zip ([a] ++ [])) := by kernel_rfl
theorem chk_237 : Checks (mkFn 237 (top 23) 1 []) := chkB_ok (by kernel_rfl)
theorem ok_237 (P : Params) : FnOk (KF P) (mkFn 237 (top 23) 1 []) := fnOk_of P (F := mkFn 237 (top 23) 1 []) addr_237 argc_237 extra_237 (isfd_237 P) (form_237 P) (code_237 P) (fun s G vs X h => ⟨[], .nil, by obtain ⟨a, rfl⟩ := len1 h; have h1 := bind_237 P a; generalize (mkFn 237 (top 23) 1 []).params.zip ([a] ++ []) = bs at h1 ⊢; generalize fdAt P 237 = fd at h1 ⊢; exact BindsTo.of_eq h1⟩) chk_237
theorem form_244 (P : Params) : FormOk (fdAt P 244) (mkFn 244 (top 25) 0 []) := by unfold FormOk; kernel_rfl
theorem addr_244 : (mkFn 244 (top 25) 0 []).addr = 244 := by kernel_rfl
theorem argc_244 : (mkFn 244 (top 25) 0 []).argc = 0 := by kernel_rfl
theorem extra_244 : (mkFn 244 (top 25) 0 []).extra = [] := by kernel_rfl
theorem isfd_244 (P : Params) : isFd (List.lookup 244 (KF P)) = true := by kernel_rfl
theorem code_244 (P : Params) : codeIn (KF P) (fdAt P 244).code (fdAt P 244).qualname = true := by kernel_rfl
theorem bind_244 (P : Params) : bindArgs (fdAt P 244) ⟨[], []⟩ = pure ((mkFn 244 (top 25) 0 []).params.zip ([] ++ [])) := by kernel_rfl
theorem chk_244 : Checks (mkFn 244 (top 25) 0 []) := chkB_ok (by kernel_rfl)
theorem ok_244 (P : Params) : FnOk (KF P) (mkFn 244 (top 25) 0 []) := fnOk_of P (F := mkFn 244 (top 25) 0 []) addr_244 argc_244 extra_244 (isfd_244 P) (form_244 P) (code_244 P) (fun s G vs X h => ⟨[], .nil, by rw [len0 h]; have h1 := bind_244 P; generalize (mkFn 244 (top 25) 0 []).params.zip ([] ++ []) = bs at h1 ⊢; generalize fdAt P 244 = fd at h1 ⊢; exact BindsTo.of_eq h1⟩) chk_244
theorem form_272 (P : Params) : FormOk (fdAt P 272) (mkFn 272 (top 29) 1 []) := by unfold FormOk; kernel_rfl
theorem addr_272 : (mkFn 272 (top 29) 1 []).addr = 272 := by kernel_rfl
theorem argc_272 : (mkFn 272 (top 29) 1 []).argc = 1 := by kernel_rfl
theorem extra_272 : (mkFn 272 (top 29) 1 []).extra = [] := by kernel_rfl
theorem isfd_272 (P : Params) : isFd (List.lookup 272 (KF P)) = true := by kernel_rfl
theorem code_272 (P : Params) : codeIn (KF P) (fdAt P 272).code (fdAt P 272).qualname = true := by kernel_rfl
theorem bind_272 (P : Params) (a : Value) : bindArgs (fdAt P 272) ⟨[a], []⟩ = pure ((mkFn 272 (top 29) 1 []).params.zip ([a] ++ [])) := by kernel_rfl
theorem chk_272 : Checks (mkFn 272 (top 29) 1 []) := chkB_ok (by kernel_rfl)
theorem ok_272 (P : Params) : FnOk (KF P) (mkFn 272 (top 29) 1 []) := fnOk_of P (F := mkFn 272 (top 29) 1 []) addr_272 argc_272 extra_272 (isfd_272 P) (form_272 P) (code_272 P) (fun s G vs X h => ⟨[], .nil, by obtain ⟨a, rfl⟩ := len1 h; have h1 := bind_272 P a; generalize (mkFn 272 (top 29) 1 []).params.zip ([a] ++ []) = bs at h1 ⊢; generalize fdAt P 272 = fd at h1 ⊢; exact BindsTo.of_eq h1⟩) chk_272
theorem form_308 (P : Params) : FormOk (fdAt P 308) (mkFn 308 (inCls 31 0) 2 []) := by unfold FormOk; kernel_rfl
theorem addr_308 : (mkFn 308 (inCls 31 0) 2 []).addr = 308 := by kernel_rfl
theorem argc_308 : (mkFn 308 (inCls 31 0) 2 []).argc = 2 := by kernel_rfl
theorem extra_308 : (mkFn 308 (inCls 31 0) 2 []).extra = [] := by kernel_rfl
theorem isfd_308 (P : Params) : isFd (List.lookup 308 (KF P)) = true := by kernel_rfl
theorem code_308 (P : Params) : codeIn (KF P) (fdAt P 308).code (fdAt P 308).qualname = true := by kernel_rfl
theorem bindd_308 {s : Shared} {qual : Str} {body : List Stmt} {scope : Scope} {kV doc pm cdv ct : Value} {an : Option Addr} {T : Addr} {o : Obj} {v : Value} {n : Nat} {a0 a1 : Option Expr} {p0 p1 : Pos} {ds : List Expr} (ho : s.heap.get? T = some o) (hs : o.data = .seq #[v] n) (a b : Value) :
    BindsTo s (fnOf "__init__" qual ⟨[], [⟨"self", a0, p0⟩, ⟨"folder", a1, p1⟩], none, [], [], none, ds⟩ body scope (.ref T) kV doc pm an cdv ct) ⟨[a, b], []⟩ [("self", a), ("folder", b)] :=
  BindsTo.of_defaults rfl ho hs rfl rfl
theorem dflt_308 (P : Params) : List.lookup 301 (KF P) = some { cls := .type "tuple", data := .seq #[.none] 0 } := by kernel_rfl
theorem bind_308 (P : Params) {s : Shared} (X : (KF P).In s.heap) (a b : Value) : BindsTo s (fdAt P 308) ⟨[a, b], []⟩ ((mkFn 308 (inCls 31 0) 2 []).params.zip ([a, b] ++ [])) := by
  have e : fdAt P 308 = fnOf "__init__" (fdAt P 308).qualname (argsOf (fdAt P 308)) (fdAt_body (fdAt P 308)) (fdAt P 308).scope (.ref 301) (fdAt P 308).kwdefaults (fdAt P 308).doc (fdAt P 308).pyModule (fdAt P 308).annotations (fdAt P 308).code (fdAt P 308).closureTuple := by kernel_rfl
  rw [e]
  exact bindd_308 (X _ _ (dflt_308 P)) rfl a b
theorem chk_308 : Checks (mkFn 308 (inCls 31 0) 2 []) := chkB_ok (by kernel_rfl)
theorem ok_308 (P : Params) : FnOk (KF P) (mkFn 308 (inCls 31 0) 2 []) := fnOk_of P (F := mkFn 308 (inCls 31 0) 2 []) addr_308 argc_308 extra_308 (isfd_308 P) (form_308 P) (code_308 P) (fun s G vs X h => ⟨[], .nil, by obtain ⟨a, b, rfl⟩ := len2 h; exact bind_308 P X a b⟩) chk_308
theorem mk_456 (P : Params) : makesIn (KF P) 456 = true := by kernel_rfl
theorem ini_456 (P : Params) : refB 308 (findIn (KF P) (.ref 456) "__init__") = true := by kernel_rfl
theorem isf_456 (P : Params) : PySem.W.isFn (KF P) (.ref 308) = true := by kernel_rfl
theorem form_468 (P : Params) : FormOk (fdAt P 468) (mkFn 468 (top 32) 1 [.none]) := by unfold FormOk; kernel_rfl
theorem addr_468 : (mkFn 468 (top 32) 1 [.none]).addr = 468 := by kernel_rfl
theorem argc_468 : (mkFn 468 (top 32) 1 [.none]).argc = 1 := by kernel_rfl
theorem extra_468 : (mkFn 468 (top 32) 1 [.none]).extra = [.none] := by kernel_rfl
theorem isfd_468 (P : Params) : isFd (List.lookup 468 (KF P)) = true := by kernel_rfl
theorem code_468 (P : Params) : codeIn (KF P) (fdAt P 468).code (fdAt P 468).qualname = true := by kernel_rfl
theorem bindd_468 {s : Shared} {qual : Str} {body : List Stmt} {scope : Scope} {kV doc pm cdv ct : Value} {an : Option Addr} {T : Addr} {o : Obj} {v : Value} {n : Nat} {a0 a1 : Option Expr} {p0 p1 : Pos} {ds : List Expr} (ho : s.heap.get? T = some o) (hs : o.data = .seq #[v] n) (a : Value) :
    BindsTo s (fnOf "compile_expr" qual ⟨[], [⟨"e", a0, p0⟩, ⟨"folder", a1, p1⟩], none, [], [], none, ds⟩ body scope (.ref T) kV doc pm an cdv ct) ⟨[a], []⟩ [("e", a), ("folder", v)] :=
  BindsTo.of_defaults rfl ho hs rfl rfl
theorem dflt_468 (P : Params) : List.lookup 461 (KF P) = some { cls := .type "tuple", data := .seq #[.none] 0 } := by kernel_rfl
theorem bind_468 (P : Params) {s : Shared} (X : (KF P).In s.heap) (a : Value) : BindsTo s (fdAt P 468) ⟨[a], []⟩ ((mkFn 468 (top 32) 1 [.none]).params.zip ([a] ++ [.none])) := by
  have e : fdAt P 468 = fnOf "compile_expr" (fdAt P 468).qualname (argsOf (fdAt P 468)) (fdAt_body (fdAt P 468)) (fdAt P 468).scope (.ref 461) (fdAt P 468).kwdefaults (fdAt P 468).doc (fdAt P 468).pyModule (fdAt P 468).annotations (fdAt P 468).code (fdAt P 468).closureTuple := by kernel_rfl
  rw [e]
  exact bindd_468 (X _ _ (dflt_468 P)) rfl a
theorem chk_468 : Checks (mkFn 468 (top 32) 1 [.none]) := chkB_ok (by kernel_rfl)
theorem ok_468 (P : Params) : FnOk (KF P) (mkFn 468 (top 32) 1 [.none]) := fnOk_of P (F := mkFn 468 (top 32) 1 [.none]) addr_468 argc_468 extra_468 (isfd_468 P) (form_468 P) (code_468 P) (fun s G vs X h => ⟨[.none], .cons rfl .nil, by obtain ⟨a, rfl⟩ := len1 h; exact bind_468 P X a⟩) chk_468
theorem form_315 (P : Params) : FormOk (fdAt P 315) (mkFn 315 (inCls 31 1) 2 []) := by unfold FormOk; kernel_rfl
theorem addr_315 : (mkFn 315 (inCls 31 1) 2 []).addr = 315 := by kernel_rfl
theorem argc_315 : (mkFn 315 (inCls 31 1) 2 []).argc = 2 := by kernel_rfl
theorem extra_315 : (mkFn 315 (inCls 31 1) 2 []).extra = [] := by kernel_rfl
theorem isfd_315 (P : Params) : isFd (List.lookup 315 (KF P)) = true := by kernel_rfl
theorem code_315 (P : Params) : codeIn (KF P) (fdAt P 315).code (fdAt P 315).qualname = true := by kernel_rfl
theorem bind_315 (P : Params) (a b : Value) : bindArgs (fdAt P 315) ⟨[a, b], []⟩ = pure ((mkFn 315 (inCls 31 1) 2 []).params.zip ([a, b] ++ [])) := by kernel_rfl
theorem chk_315 : Checks (mkFn 315 (inCls 31 1) 2 []) := chkB_ok (by kernel_rfl)
theorem ok_315 (P : Params) : FnOk (KF P) (mkFn 315 (inCls 31 1) 2 []) := fnOk_of P (F := mkFn 315 (inCls 31 1) 2 []) addr_315 argc_315 extra_315 (isfd_315 P) (form_315 P) (code_315 P) (fun s G vs X h => ⟨[], .nil, by obtain ⟨a, b, rfl⟩ := len2 h; have h1 := bind_315 P a b; generalize (mkFn 315 (inCls 31 1) 2 []).params.zip ([a, b] ++ []) = bs at h1 ⊢; generalize fdAt P 315 = fd at h1 ⊢; exact BindsTo.of_eq h1⟩) chk_315
theorem form_329 (P : Params) : FormOk (fdAt P 329) (mkFn 329 (inCls 31 3) 2 []) := by unfold FormOk; kernel_rfl
theorem addr_329 : (mkFn 329 (inCls 31 3) 2 []).addr = 329 := by kernel_rfl
theorem argc_329 : (mkFn 329 (inCls 31 3) 2 []).argc = 2 := by kernel_rfl
theorem extra_329 : (mkFn 329 (inCls 31 3) 2 []).extra = [] := by kernel_rfl
theorem isfd_329 (P : Params) : isFd (List.lookup 329 (KF P)) = true := by kernel_rfl
theorem code_329 (P : Params) : codeIn (KF P) (fdAt P 329).code (fdAt P 329).qualname = true := by kernel_rfl
theorem bind_329 (P : Params) (a b : Value) : bindArgs (fdAt P 329) ⟨[a, b], []⟩ = pure ((mkFn 329 (inCls 31 3) 2 []).params.zip ([a, b] ++ [])) := by kernel_rfl
theorem chk_329 : Checks (mkFn 329 (inCls 31 3) 2 []) := chkB_ok (by kernel_rfl)
theorem ok_329 (P : Params) : FnOk (KF P) (mkFn 329 (inCls 31 3) 2 []) := fnOk_of P (F := mkFn 329 (inCls 31 3) 2 []) addr_329 argc_329 extra_329 (isfd_329 P) (form_329 P) (code_329 P) (fun s G vs X h => ⟨[], .nil, by obtain ⟨a, b, rfl⟩ := len2 h; have h1 := bind_329 P a b; generalize (mkFn 329 (inCls 31 3) 2 []).params.zip ([a, b] ++ []) = bs at h1 ⊢; generalize fdAt P 329 = fd at h1 ⊢; exact BindsTo.of_eq h1⟩) chk_329
theorem form_343 (P : Params) : FormOk (fdAt P 343) (mkFn 343 (inCls 31 5) 2 []) := by unfold FormOk; kernel_rfl
theorem addr_343 : (mkFn 343 (inCls 31 5) 2 []).addr = 343 := by kernel_rfl
theorem argc_343 : (mkFn 343 (inCls 31 5) 2 []).argc = 2 := by kernel_rfl
theorem extra_343 : (mkFn 343 (inCls 31 5) 2 []).extra = [] := by kernel_rfl
theorem isfd_343 (P : Params) : isFd (List.lookup 343 (KF P)) = true := by kernel_rfl
theorem code_343 (P : Params) : codeIn (KF P) (fdAt P 343).code (fdAt P 343).qualname = true := by kernel_rfl
theorem bind_343 (P : Params) (a b : Value) : bindArgs (fdAt P 343) ⟨[a, b], []⟩ = pure ((mkFn 343 (inCls 31 5) 2 []).params.zip ([a, b] ++ [])) := by kernel_rfl
theorem chk_343 : Checks (mkFn 343 (inCls 31 5) 2 []) := chkB_ok (by kernel_rfl)
theorem ok_343 (P : Params) : FnOk (KF P) (mkFn 343 (inCls 31 5) 2 []) := fnOk_of P (F := mkFn 343 (inCls 31 5) 2 []) addr_343 argc_343 extra_343 (isfd_343 P) (form_343 P) (code_343 P) (fun s G vs X h => ⟨[], .nil, by obtain ⟨a, b, rfl⟩ := len2 h; have h1 := bind_343 P a b; generalize (mkFn 343 (inCls 31 5) 2 []).params.zip ([a, b] ++ []) = bs at h1 ⊢; generalize fdAt P 343 = fd at h1 ⊢; exact BindsTo.of_eq h1⟩) chk_343
theorem form_350 (P : Params) : FormOk (fdAt P 350) (mkFn 350 (inCls 31 6) 2 []) := by unfold FormOk; kernel_rfl
theorem addr_350 : (mkFn 350 (inCls 31 6) 2 []).addr = 350 := by kernel_rfl
theorem argc_350 : (mkFn 350 (inCls 31 6) 2 []).argc = 2 := by kernel_rfl
theorem extra_350 : (mkFn 350 (inCls 31 6) 2 []).extra = [] := by kernel_rfl
theorem isfd_350 (P : Params) : isFd (List.lookup 350 (KF P)) = true := by kernel_rfl
theorem code_350 (P : Params) : codeIn (KF P) (fdAt P 350).code (fdAt P 350).qualname = true := by kernel_rfl
theorem bind_350 (P : Params) (a b : Value) : bindArgs (fdAt P 350) ⟨[a, b], []⟩ = pure ((mkFn 350 (inCls 31 6) 2 []).params.zip ([a, b] ++ [])) := by kernel_rfl
theorem chk_350 : Checks (mkFn 350 (inCls 31 6) 2 []) := chkB_ok (by kernel_rfl)
theorem ok_350 (P : Params) : FnOk (KF P) (mkFn 350 (inCls 31 6) 2 []) := fnOk_of P (F := mkFn 350 (inCls 31 6) 2 []) addr_350 argc_350 extra_350 (isfd_350 P) (form_350 P) (code_350 P) (fun s G vs X h => ⟨[], .nil, by obtain ⟨a, b, rfl⟩ := len2 h; have h1 := bind_350 P a b; generalize (mkFn 350 (inCls 31 6) 2 []).params.zip ([a, b] ++ []) = bs at h1 ⊢; generalize fdAt P 350 = fd at h1 ⊢; exact BindsTo.of_eq h1⟩) chk_350
theorem form_357 (P : Params) : FormOk (fdAt P 357) (mkFn 357 (inCls 31 7) 3 []) := by unfold FormOk; kernel_rfl
theorem addr_357 : (mkFn 357 (inCls 31 7) 3 []).addr = 357 := by kernel_rfl
theorem argc_357 : (mkFn 357 (inCls 31 7) 3 []).argc = 3 := by kernel_rfl
theorem extra_357 : (mkFn 357 (inCls 31 7) 3 []).extra = [] := by kernel_rfl
theorem isfd_357 (P : Params) : isFd (List.lookup 357 (KF P)) = true := by kernel_rfl
theorem code_357 (P : Params) : codeIn (KF P) (fdAt P 357).code (fdAt P 357).qualname = true := by kernel_rfl
theorem bind_357 (P : Params) (a b c : Value) : bindArgs (fdAt P 357) ⟨[a, b, c], []⟩ = pure ((mkFn 357 (inCls 31 7) 3 []).params.zip ([a, b, c] ++ [])) := by kernel_rfl
theorem chk_357 : Checks (mkFn 357 (inCls 31 7) 3 []) := chkB_ok (by kernel_rfl)
theorem ok_357 (P : Params) : FnOk (KF P) (mkFn 357 (inCls 31 7) 3 []) := fnOk_of P (F := mkFn 357 (inCls 31 7) 3 []) addr_357 argc_357 extra_357 (isfd_357 P) (form_357 P) (code_357 P) (fun s G vs X h => ⟨[], .nil, by obtain ⟨a, b, c, rfl⟩ := len3 h; have h1 := bind_357 P a b c; generalize (mkFn 357 (inCls 31 7) 3 []).params.zip ([a, b, c] ++ []) = bs at h1 ⊢; generalize fdAt P 357 = fd at h1 ⊢; exact BindsTo.of_eq h1⟩) chk_357
theorem form_362 (P : Params) : FormOk (fdAt P 362) (mkFn 362 (inCls 31 8) 5 []) := by unfold FormOk; kernel_rfl
theorem addr_362 : (mkFn 362 (inCls 31 8) 5 []).addr = 362 := by kernel_rfl
theorem argc_362 : (mkFn 362 (inCls 31 8) 5 []).argc = 5 := by kernel_rfl
theorem extra_362 : (mkFn 362 (inCls 31 8) 5 []).extra = [] := by kernel_rfl
theorem isfd_362 (P : Params) : isFd (List.lookup 362 (KF P)) = true := by kernel_rfl
theorem code_362 (P : Params) : codeIn (KF P) (fdAt P 362).code (fdAt P 362).qualname = true := by kernel_rfl
theorem bind_362 (P : Params) (a b c d f : Value) : bindArgs (fdAt P 362) ⟨[a, b, c, d, f], []⟩ = pure ((mkFn 362 (inCls 31 8) 5 []).params.zip ([a, b, c, d, f] ++ [])) := by kernel_rfl
theorem chk_362 : Checks (mkFn 362 (inCls 31 8) 5 []) := chkB_ok (by kernel_rfl)
theorem ok_362 (P : Params) : FnOk (KF P) (mkFn 362 (inCls 31 8) 5 []) := fnOk_of P (F := mkFn 362 (inCls 31 8) 5 []) addr_362 argc_362 extra_362 (isfd_362 P) (form_362 P) (code_362 P) (fun s G vs X h => ⟨[], .nil, by obtain ⟨a, b, c, d, f, rfl⟩ := len5 h; have h1 := bind_362 P a b c d f; generalize (mkFn 362 (inCls 31 8) 5 []).params.zip ([a, b, c, d, f] ++ []) = bs at h1 ⊢; generalize fdAt P 362 = fd at h1 ⊢; exact BindsTo.of_eq h1⟩) chk_362
theorem form_369 (P : Params) : FormOk (fdAt P 369) (mkFn 369 (inCls 31 9) 4 []) := by unfold FormOk; kernel_rfl
theorem addr_369 : (mkFn 369 (inCls 31 9) 4 []).addr = 369 := by kernel_rfl
theorem argc_369 : (mkFn 369 (inCls 31 9) 4 []).argc = 4 := by kernel_rfl
theorem extra_369 : (mkFn 369 (inCls 31 9) 4 []).extra = [] := by kernel_rfl
theorem isfd_369 (P : Params) : isFd (List.lookup 369 (KF P)) = true := by kernel_rfl
theorem code_369 (P : Params) : codeIn (KF P) (fdAt P 369).code (fdAt P 369).qualname = true := by kernel_rfl
theorem bind_369 (P : Params) (a b c d : Value) : bindArgs (fdAt P 369) ⟨[a, b, c, d], []⟩ = pure ((mkFn 369 (inCls 31 9) 4 []).params.zip ([a, b, c, d] ++ [])) := by kernel_rfl
theorem chk_369 : Checks (mkFn 369 (inCls 31 9) 4 []) := chkB_ok (by kernel_rfl)
theorem ok_369 (P : Params) : FnOk (KF P) (mkFn 369 (inCls 31 9) 4 []) := fnOk_of P (F := mkFn 369 (inCls 31 9) 4 []) addr_369 argc_369 extra_369 (isfd_369 P) (form_369 P) (code_369 P) (fun s G vs X h => ⟨[], .nil, by obtain ⟨a, b, c, d, rfl⟩ := len4 h; have h1 := bind_369 P a b c d; generalize (mkFn 369 (inCls 31 9) 4 []).params.zip ([a, b, c, d] ++ []) = bs at h1 ⊢; generalize fdAt P 369 = fd at h1 ⊢; exact BindsTo.of_eq h1⟩) chk_369
theorem form_446 (P : Params) : FormOk (fdAt P 446) (mkFn 446 (inCls 31 20) 3 []) := by unfold FormOk; kernel_rfl
theorem addr_446 : (mkFn 446 (inCls 31 20) 3 []).addr = 446 := by kernel_rfl
theorem argc_446 : (mkFn 446 (inCls 31 20) 3 []).argc = 3 := by kernel_rfl
theorem extra_446 : (mkFn 446 (inCls 31 20) 3 []).extra = [] := by kernel_rfl
theorem isfd_446 (P : Params) : isFd (List.lookup 446 (KF P)) = true := by kernel_rfl
theorem code_446 (P : Params) : codeIn (KF P) (fdAt P 446).code (fdAt P 446).qualname = true := by kernel_rfl
theorem bind_446 (P : Params) (a b c : Value) : bindArgs (fdAt P 446) ⟨[a, b, c], []⟩ = pure ((mkFn 446 (inCls 31 20) 3 []).params.zip ([a, b, c] ++ [])) := by kernel_rfl
theorem chk_446 : Checks (mkFn 446 (inCls 31 20) 3 []) := chkB_ok (by kernel_rfl)
theorem ok_446 (P : Params) : FnOk (KF P) (mkFn 446 (inCls 31 20) 3 []) := fnOk_of P (F := mkFn 446 (inCls 31 20) 3 []) addr_446 argc_446 extra_446 (isfd_446 P) (form_446 P) (code_446 P) (fun s G vs X h => ⟨[], .nil, by obtain ⟨a, b, c, rfl⟩ := len3 h; have h1 := bind_446 P a b c; generalize (mkFn 446 (inCls 31 20) 3 []).params.zip ([a, b, c] ++ []) = bs at h1 ⊢; generalize fdAt P 446 = fd at h1 ⊢; exact BindsTo.of_eq h1⟩) chk_446
theorem form_453 (P : Params) : FormOk (fdAt P 453) (mkFn 453 (inCls 31 21) 3 []) := by unfold FormOk; kernel_rfl
theorem addr_453 : (mkFn 453 (inCls 31 21) 3 []).addr = 453 := by kernel_rfl
theorem argc_453 : (mkFn 453 (inCls 31 21) 3 []).argc = 3 := by kernel_rfl
theorem extra_453 : (mkFn 453 (inCls 31 21) 3 []).extra = [] := by kernel_rfl
theorem isfd_453 (P : Params) : isFd (List.lookup 453 (KF P)) = true := by kernel_rfl
theorem code_453 (P : Params) : codeIn (KF P) (fdAt P 453).code (fdAt P 453).qualname = true := by kernel_rfl
theorem bind_453 (P : Params) (a b c : Value) : bindArgs (fdAt P 453) ⟨[a, b, c], []⟩ = pure ((mkFn 453 (inCls 31 21) 3 []).params.zip ([a, b, c] ++ [])) := by kernel_rfl
theorem chk_453 : Checks (mkFn 453 (inCls 31 21) 3 []) := chkB_ok (by kernel_rfl)
theorem ok_453 (P : Params) : FnOk (KF P) (mkFn 453 (inCls 31 21) 3 []) := fnOk_of P (F := mkFn 453 (inCls 31 21) 3 []) addr_453 argc_453 extra_453 (isfd_453 P) (form_453 P) (code_453 P) (fun s G vs X h => ⟨[], .nil, by obtain ⟨a, b, c, rfl⟩ := len3 h; have h1 := bind_453 P a b c; generalize (mkFn 453 (inCls 31 21) 3 []).params.zip ([a, b, c] ++ []) = bs at h1 ⊢; generalize fdAt P 453 = fd at h1 ⊢; exact BindsTo.of_eq h1⟩) chk_453
theorem form_489 (P : Params) : FormOk (fdAt P 489) (mkFn 489 (top 36) 1 []) := by unfold FormOk; kernel_rfl
theorem addr_489 : (mkFn 489 (top 36) 1 []).addr = 489 := by kernel_rfl
theorem argc_489 : (mkFn 489 (top 36) 1 []).argc = 1 := by kernel_rfl
theorem extra_489 : (mkFn 489 (top 36) 1 []).extra = [] := by kernel_rfl
theorem isfd_489 (P : Params) : isFd (List.lookup 489 (KF P)) = true := by kernel_rfl
theorem code_489 (P : Params) : codeIn (KF P) (fdAt P 489).code (fdAt P 489).qualname = true := by kernel_rfl
theorem bind_489 (P : Params) (a : Value) : bindArgs (fdAt P 489) ⟨[a], []⟩ = pure ((mkFn 489 (top 36) 1 []).params.zip ([a] ++ [])) := by kernel_rfl
theorem chk_489 : Checks (mkFn 489 (top 36) 1 []) := chkB_ok (by kernel_rfl)
theorem ok_489 (P : Params) : FnOk (KF P) (mkFn 489 (top 36) 1 []) := fnOk_of P (F := mkFn 489 (top 36) 1 []) addr_489 argc_489 extra_489 (isfd_489 P) (form_489 P) (code_489 P) (fun s G vs X h => ⟨[], .nil, by obtain ⟨a, rfl⟩ := len1 h; have h1 := bind_489 P a; generalize (mkFn 489 (top 36) 1 []).params.zip ([a] ++ []) = bs at h1 ⊢; generalize fdAt P 489 = fd at h1 ⊢; exact BindsTo.of_eq h1⟩) chk_489
theorem form_482 (P : Params) : FormOk (fdAt P 482) (mkFn 482 (top 35) 2 []) := by unfold FormOk; kernel_rfl
theorem addr_482 : (mkFn 482 (top 35) 2 []).addr = 482 := by kernel_rfl
theorem argc_482 : (mkFn 482 (top 35) 2 []).argc = 2 := by kernel_rfl
theorem extra_482 : (mkFn 482 (top 35) 2 []).extra = [] := by kernel_rfl
theorem isfd_482 (P : Params) : isFd (List.lookup 482 (KF P)) = true := by kernel_rfl
theorem code_482 (P : Params) : codeIn (KF P) (fdAt P 482).code (fdAt P 482).qualname = true := by kernel_rfl
theorem bind_482 (P : Params) (a b : Value) : bindArgs (fdAt P 482) ⟨[a, b], []⟩ = pure ((mkFn 482 (top 35) 2 []).params.zip ([a, b] ++ [])) := by kernel_rfl
theorem chk_482 : Checks (mkFn 482 (top 35) 2 []) := chkB_ok (by kernel_rfl)
theorem ok_482 (P : Params) : FnOk (KF P) (mkFn 482 (top 35) 2 []) := fnOk_of P (F := mkFn 482 (top 35) 2 []) addr_482 argc_482 extra_482 (isfd_482 P) (form_482 P) (code_482 P) (fun s G vs X h => ⟨[], .nil, by obtain ⟨a, b, rfl⟩ := len2 h; have h1 := bind_482 P a b; generalize (mkFn 482 (top 35) 2 []).params.zip ([a, b] ++ []) = bs at h1 ⊢; generalize fdAt P 482 = fd at h1 ⊢; exact BindsTo.of_eq h1⟩) chk_482
theorem ref_of {f : Nat} {o : Option (Option Value)} (h : refB f o = true) : o = some (some (.ref f)) := by
  unfold refB at h
  split at h
  · rw [Nat.eq_of_beq_eq_true h]
  · cases h
end Mine

namespace Mine
open PySem PySem.W PyProof.Rows
inductive All1 {α : Type} (R : α → Prop) : List α → Prop
  | nil : All1 R []
  | cons {a l} : R a → All1 R l → All1 R (a :: l)
theorem All1.mem {α : Type} {R : α → Prop} : ∀ {l : List α}, All1 R l → ∀ x ∈ l, R x
  | _, .cons h r, x, hx => by
    rcases List.mem_cons.mp hx with rfl | hx
    · exact h
    · exact r.mem x hx
theorem findA_mem {α : Type} {a : Nat} {v : α} : ∀ {l : List (Nat × α)}, findA a l = some v → (a, v) ∈ l
  | p :: r, h => by
    unfold findA at h
    cases e : Nat.beq a p.1 with
    | true =>
      rw [e] at h
      cases h
      rw [Nat.eq_of_beq_eq_true e]
      exact .head _
    | false => rw [e] at h; exact .tail _ (findA_mem h)
theorem look_mem {α : Type} {x : Str} {v : α} : ∀ {l : List (Str × α)}, look x l = some v → (x, v) ∈ l
  | p :: r, h => by
    unfold look at h
    cases e : strEq x p.1 with
    | true =>
      rw [e] at h
      cases h
      rw [(strEq_iff _ _).mp e]
      exact .head _
    | false => rw [e] at h; exact .tail _ (look_mem h)
noncomputable def GfOk (K : Frag) (p : Nat × GF) : Prop := match p.2 with
  | .fn F => F.addr = p.1 ∧ FnOk K F
  | .cls F => ClsOk K p.1 F
  | .pick => p.1 = 482
theorem init_of {K : Frag} {C a b : Nat} (h : a = b) (e : findIn K (.ref C) "__init__" = some (some (.ref b))) : findIn K (.ref C) "__init__" = some (some (.ref a)) := h ▸ e
theorem isfn_of {K : Frag} {a b : Nat} (h : a = b) (e : PySem.W.isFn K (.ref b) = true) : PySem.W.isFn K (.ref a) = true := h ▸ e
theorem gfs_ok (P : Params) : All1 (GfOk (KF P)) gfs :=
  (.cons rfl (.cons ⟨addr_322, ok_322 P⟩ (.cons ⟨addr_336, ok_336 P⟩ (.cons ⟨addr_82, ok_82 P⟩ (.cons ⟨addr_223, ok_223 P⟩ (.cons ⟨ok_165 P, mk_168 P, init_of addr_165 (ref_of (ini_168 P)), isfn_of addr_165 (isf_168 P)⟩ (.cons ⟨addr_28, ok_28 P⟩ (.cons ⟨addr_230, ok_230 P⟩ (.cons ⟨addr_216, ok_216 P⟩ (.cons ⟨ok_137 P, mk_147 P, init_of addr_137 (ref_of (ini_147 P)), isfn_of addr_137 (isf_147 P)⟩ (.cons ⟨ok_187 P, mk_190 P, init_of addr_187 (ref_of (ini_190 P)), isfn_of addr_187 (isf_190 P)⟩ (.cons ⟨addr_33, ok_33 P⟩ (.cons ⟨addr_61, ok_61 P⟩ (.cons ⟨addr_68, ok_68 P⟩ (.cons ⟨addr_75, ok_75 P⟩ (.cons ⟨addr_89, ok_89 P⟩ (.cons ⟨addr_94, ok_94 P⟩ (.cons ⟨addr_101, ok_101 P⟩ (.cons ⟨ok_47 P, mk_50 P, init_of addr_47 (ref_of (ini_50 P)), isfn_of addr_47 (isf_50 P)⟩ (.cons ⟨addr_208, ok_208 P⟩ (.cons ⟨addr_237, ok_237 P⟩ (.cons ⟨addr_244, ok_244 P⟩ (.cons ⟨addr_272, ok_272 P⟩ (.cons ⟨ok_308 P, mk_456 P, init_of addr_308 (ref_of (ini_456 P)), isfn_of addr_308 (isf_456 P)⟩ (.cons ⟨addr_468, ok_468 P⟩ (.cons ⟨addr_315, ok_315 P⟩ (.cons ⟨addr_329, ok_329 P⟩ (.cons ⟨addr_343, ok_343 P⟩ (.cons ⟨addr_350, ok_350 P⟩ (.cons ⟨addr_357, ok_357 P⟩ (.cons ⟨addr_362, ok_362 P⟩ (.cons ⟨addr_369, ok_369 P⟩ (.cons ⟨addr_446, ok_446 P⟩ (.cons ⟨addr_453, ok_453 P⟩ (.cons ⟨addr_489, ok_489 P⟩ .nil)))))))))))))))))))))))))))))))))))
theorem noneB_eq {o : Option (Option Value)} (h : noneB o = true) : o = some none := by
  unfold noneB at h
  split at h
  · rfl
  · cases h
theorem setB_eq {o : Option (Option Value)} (h : setB o = true) : o = some (some (.builtin "object.__setattr__")) := by
  unfold setB at h
  split at h
  · rw [eq_of_beq h]
  · cases h
theorem fldB_ok {K : Frag} {C : Nat} {a : Str} (h : fldB K C a = true) : FldOk K C a := by
  unfold fldB at h
  cases h1 : plainGet K C a with
  | false => rw [h1] at h; cases h
  | true =>
    rw [h1] at h
    cases h2 : hasDictIn K C with
    | false => rw [h2] at h; cases h
    | true =>
      rw [h2] at h
      cases h3 : noneB (findIn K (.ref C) a) with
      | false => rw [h3] at h; cases h
      | true =>
        rw [h3] at h
        cases h4 : setB (findIn K (.ref C) "__setattr__") with
        | false => rw [h4] at h; cases h
        | true =>
          rw [h4] at h
          cases h5 : plainOver K C with
          | false => rw [h5] at h; cases h
          | true =>
            rw [h5] at h
            exact ⟨h1, h2, ⟨none, noneB_eq h3, rfl⟩, setB_eq h4, h5, noneB_eq h⟩
theorem fldsB_ok {K : Frag} {C : Nat} : ∀ {l : List (Str × Unit)}, fldsB K C l = true → ∀ p ∈ l, fldB K C p.1 = true
  | p :: r, h, q, hq => by
    unfold fldsB at h
    cases e : fldB K C p.1 with
    | false => rw [e] at h; cases h
    | true =>
      rw [e] at h
      rcases List.mem_cons.mp hq with rfl | hq
      · exact e
      · exact fldsB_ok h q hq
theorem fieldsB_ok {K : Frag} : ∀ {l : List (Nat × List (Str × Unit))}, fieldsB K l = true → ∀ p ∈ l, fldsB K p.1 p.2 = true
  | p :: r, h, q, hq => by
    unfold fieldsB at h
    cases e : fldsB K p.1 p.2 with
    | false => rw [e] at h; cases h
    | true =>
      rw [e] at h
      rcases List.mem_cons.mp hq with rfl | hq
      · exact e
      · exact fieldsB_ok h q hq
theorem fld_of {K : Frag} (h : fieldsB K fields = true) (C : Nat) (a : Str) (e : fieldOk C a = true) : FldOk K C a := by
  unfold fieldOk at e
  cases e1 : findA C fields with
  | none => rw [e1] at e; cases e
  | some l =>
    rw [e1] at e
    dsimp only at e
    cases e2 : look a l with
    | none => rw [e2] at e; cases e
    | some u => exact fldB_ok (fldsB_ok (fieldsB_ok h _ (findA_mem e1)) _ (look_mem e2))
theorem mthB_ok {K : Frag} {C f : Nat} {m : Str} (h : mthB K C m f = true) : MthOk K C m f := by
  unfold mthB at h
  cases h1 : plainGet K C m with
  | false => rw [h1] at h; cases h
  | true =>
    rw [h1] at h
    cases h2 : refB f (findIn K (.ref C) m) with
    | false => rw [h2] at h; cases h
    | true => rw [h2] at h; exact ⟨h1, ref_of h2, h⟩
theorem mthsB_ok {K : Frag} {C : Nat} : ∀ {l : List (Str × Nat)}, mthsB K C l = true → ∀ p ∈ l, mthB K C p.1 p.2 = true
  | p :: r, h, q, hq => by
    unfold mthsB at h
    cases e : mthB K C p.1 p.2 with
    | false => rw [e] at h; cases h
    | true =>
      rw [e] at h
      rcases List.mem_cons.mp hq with rfl | hq
      · exact e
      · exact mthsB_ok h q hq
theorem methsB_ok {K : Frag} : ∀ {l : List (Nat × List (Str × Nat))}, methsB K l = true → ∀ p ∈ l, mthsB K p.1 p.2 = true
  | p :: r, h, q, hq => by
    unfold methsB at h
    cases e : mthsB K p.1 p.2 with
    | false => rw [e] at h; cases h
    | true =>
      rw [e] at h
      rcases List.mem_cons.mp hq with rfl | hq
      · exact e
      · exact methsB_ok h q hq
theorem mth_of {K : Frag} (h : methsB K meths = true) (C : Nat) (m : Str) (f : Nat) (e : methAt C m = some f) : MthOk K C m f := by
  unfold methAt at e
  cases e1 : findA C meths with
  | none => rw [e1] at e; cases e
  | some l =>
    rw [e1] at e
    exact mthB_ok (mthsB_ok (methsB_ok h _ (findA_mem e1)) _ (look_mem e))
theorem keepB_ok {K : Frag} : ∀ {l : List (Nat × GF)}, keepB K l = true → ∀ p ∈ l, keepIn K (.ref p.1) = true
  | p :: r, h, q, hq => by
    unfold keepB at h
    cases e : keepIn K (.ref p.1) with
    | false => rw [e] at h; cases h
    | true =>
      rw [e] at h
      rcases List.mem_cons.mp hq with rfl | hq
      · exact e
      · exact keepB_ok h q hq
theorem glbsB_ok {K : Frag} : ∀ {l : List (Str × AV)}, glbsB K l = true → ∀ p ∈ l, glbOkB K p.1 p.2 = true
  | p :: r, h, q, hq => by
    unfold glbsB at h
    cases e : glbOkB K p.1 p.2 with
    | false => rw [e] at h; cases h
    | true =>
      rw [e] at h
      rcases List.mem_cons.mp hq with rfl | hq
      · exact e
      · exact glbsB_ok h q hq
noncomputable def BootOk (p : Str × AV) : Prop := match p.2 with
  | .bi b => bootBuiltins p.1 = some b.val ∧ p.1 ≠ "__name__"
  | _ => True
theorem boot_len : bootBuiltins "len" = some (.builtin "len") := by boot_by_name
theorem boot_range : bootBuiltins "range" = some (.type "range") := by boot_by_name
theorem boot_str : bootBuiltins "str" = some (.type "str") := by boot_by_name
theorem boot_list : bootBuiltins "list" = some (.type "list") := by boot_by_name
theorem boot_max : bootBuiltins "max" = some (.builtin "max") := by boot_by_name
theorem boot_abs : bootBuiltins "abs" = some (.builtin "abs") := by boot_by_name
theorem boot_isinstance : bootBuiltins "isinstance" = some (.builtin "isinstance") := by boot_by_name
theorem bootBi {x : Str} {b : BI} (h1 : bootBuiltins x = some b.val) (h2 : x ≠ "__name__") : BootOk (x, .bi b) := ⟨h1, h2⟩
theorem bootOld {x : Str} {a : Nat} : BootOk (x, .old a) := trivial
theorem boot_ok : All1 BootOk globs :=
  (.cons (bootBi boot_len (by decide)) (.cons bootOld (.cons bootOld (.cons bootOld (.cons bootOld (.cons bootOld (.cons bootOld (.cons bootOld (.cons bootOld (.cons bootOld (.cons bootOld (.cons bootOld (.cons bootOld (.cons bootOld (.cons bootOld (.cons bootOld (.cons bootOld (.cons bootOld (.cons bootOld (.cons bootOld (.cons bootOld (.cons bootOld (.cons bootOld (.cons bootOld (.cons bootOld (.cons (bootBi boot_range (by decide)) (.cons (bootBi boot_str (by decide)) (.cons (bootBi boot_list (by decide)) (.cons (bootBi boot_max (by decide)) (.cons (bootBi boot_abs (by decide)) (.cons (bootBi boot_isinstance (by decide)) .nil)))))))))))))))))))))))))))))))
theorem glb_of {K : Frag} (h : glbsB K globs = true) (x : Str) (v : AV) (e : look x globs = some v) : GlbOk K x v := by
  have hm := look_mem e
  have h1 := glbsB_ok h _ hm
  have h2 := boot_ok.mem _ hm
  cases v <;> try (cases h1; done)
  case old a =>
    unfold glbOkB at h1
    dsimp only at h1
    split at h1
    · rename_i b q
      show nsIn K mainGlobals x = _
      rw [q, Nat.eq_of_beq_eq_true h1]
    · cases h1
  case bi b =>
    unfold glbOkB at h1
    dsimp only at h1
    split at h1
    · rename_i q
      exact ⟨q, h2.1, h2.2⟩
    · cases h1
theorem kok (P : Params) : KOk2 (KF P) where
  base := ⟨fld_of (flds_ok P), mth_of (mths_ok P), glb_of (glbs_ok P), isi_ok P, fun a g e => keepB_ok (keep_ok P) _ (findA_mem e)⟩
  fns := fun a F e => (gfs_ok P).mem _ (findA_mem e)
  cls := fun a F e => (gfs_ok P).mem _ (findA_mem e)
  pick := fun a e => (gfs_ok P).mem _ (findA_mem e)
end Mine

namespace Mine
open PySem PySem.W PyProof.Rows

section
variable {prog : Program} {w : World} {c : Cx} {G : Gh} {st : St} {s : Shared} {m : Str → Option Value} {news : List (Addr × Obj)} {E : Value → Shared → Prop}
  {K : Frag} {p : Program} {loose : List Str} {mean : ExcName → Option Value} {mg mb : Str → Option Value} {n : Nat}

/-! by hand: names, `len`, items -/
theorem at_eta (s : Shared) : { s with toks := s.toks } = s := rfl
theorem nameL (C : CxOk K p loose mean mg mb c n) (R : RelAt prog w c G st s m news) (hcf : st.cf = none) {x : Str} {v : Value} {pos : Pos} {Q : Value → Shared → Prop} (hk : c.env.scope.names.lookup x = some .local) (hv : m x = some v) (hd : (x == ("__debug__" : Str)) = false) (h : Q v s) :
    wpAny (model prog w) c.A (eval (.Name x pos) c.env) Q E s := by
  have cf := R.cf
  rw [hcf] at cf
  exact wpAny_Name (wpAny_loadName_local C.ek hk (by rw [cf.1, C.hfl]; exact R.F.ns) hv h) hd
theorem nameB (hG : ∀ x v, look x globs = some v → GlbOk K x v) (C : CxOk K p loose mean mg mb c n) (R : RelAt prog w c G st s m news) (hcf : st.cf = none) {x : Str} {b : BI} {pos : Pos} {Q : Value → Shared → Prop} (hk : c.env.scope.names.lookup x = some .globalImplicit) (hg : look x globs = some (.bi b)) (hd : (x == ("__debug__" : Str)) = false) (h : Q b.val s) :
    wpAny (model prog w) c.A (eval (.Name x pos) c.env) Q E s := by
  have cf := R.cf
  rw [hcf] at cf
  obtain ⟨ee, cn, cs, a, ccd, cl, ef⟩ := cf
  have hv := hG x _ hg
  have hk' : c.env.kindOf x = some .globalImplicit := hk
  have ek' := C.ek
  rw [ee, ef] at hk' ek' ⊢
  exact nameX_B R.F C.X (topRead_of C.T) hv.1 hv.2.1 hv.2.2 h ek' hk' hd
theorem plainSub {i : Expr} {k : Const} {kk : Nat} {pos : Pos} : ∀ a b, subscripted (.Constant k kk pos) false a b = operate [a, b] (getItem a b) := fun _ _ => rfl
/-- an item of a list by a written place -/
theorem itemC (C : CxOk K p loose mean mg mb c n) (R : RelAt prog w c G st s m news) (hcf : st.cf = none) {x : Str} {a : Addr} {its : Array Value} {nn : Nat} {j : Nat} {v : Value} {p1 p2 p3 : Pos} {kk : Nat} {Q : Value → Shared → Prop} (hk : c.env.scope.names.lookup x = some .local) (hv : m x = some (.ref a)) (hd : (x == ("__debug__" : Str)) = false)
    (hm : (a, W.listOf its nn) ∈ news) (hj : its[j]? = some v) (hjs : j < 1000) (h : ∀ tk, Q v { s with toks := tk }) :
    wpAny (model prog w) c.A (eval (.Subscript (.Name x p1) (.Constant (.int (j : Int)) kk p2) p3) c.env) Q E s := by
  refine Subscript_ (nameL C R hcf hk hv hd (wpAny_Constant_int ?_))
  have il := isList_at (R.toks (s.toks + 1)) hm
  exact tail_any il.typeIs slot_list_getitem.lookup (wpAny_getItem_list il (Int.natCast_nonneg j) (by omega) (by rw [Int.toNat_natCast]; exact hj) (h _)) rfl
theorem lenC (hG : ∀ x v, look x globs = some v → GlbOk K x v) (C : CxOk K p loose mean mg mb c n) (R : RelAt prog w c G st s m news) (hcf : st.cf = none) (hl : c.env.scope.names.lookup ("len" : Str) = some .globalImplicit) {e : Expr} {vs : List Value} {fa : Addr} {nn : Nat} {q1 q2 : Pos} {Q : Value → Shared → Prop} (hstar : isStar e = false) (hm : (fa, W.listOf vs.toArray nn) ∈ news) (hlen : vs.length ≤ 16384)
    (he : ∀ Q', (∀ tk, Q' (.ref fa) { s with toks := tk }) → wpAny (model prog w) c.A (eval e c.env) Q' E s) (h : ∀ t tk, Q (.int (vs.length : Int) t) { s with toks := tk }) :
    wpAny (model prog w) c.A (eval (.Call (.Name "len" q1) [e] [] q2) c.env) Q E s := by
  refine Call_ (nameB hG C R hcf hl rfl (by decide) ?_) rfl
  refine PyProof.Rows.callWith_builtin1 (PyProof.Rows.spliced_more (he _ fun tk => ?_) (star_eq [] c.env hstar)) (star_eq [] c.env hstar) rfl
  refine spliced_none ?_
  exact kun_lenL (isList_at (R.toks tk) hm) (k := (vs.length : Int)) (by rw [List.size_toArray]) (by omega) (h _ _)

noncomputable def pickNames : Names := [("pool", .local), ("bound", .local), ("figure", .local), ("len", .globalImplicit)]
theorem listOf_set {its : Array Value} (j : Nat) (v : Value) (nn : Nat) : (if (its.setIfInBounds j v).size == its.size then nn else nn + 1) = nn := by simp
/-- an item of the pool is stored -/
theorem poolSet (R : RelAt prog w c G st s m news) {h g : Nat} {pa fa : Addr} {k x : Int} {t u t' : Tok} {nn : Nat} {j : Nat} {v : Value} {A : Around} {Q : Unit → Shared → Prop} (hi : HAt G st news h pa (W.listOf #[.ref fa, .int k t, .int x u] nn)) (ho : objAt h st = some (.pool g)) (hf : G.ρ[g]? = some fa) (hj : j < 3)
    (hor : OR prog w G (.pool g) pa (W.listOf ((#[.ref fa, .int k t, .int x u] : Array Value).setIfInBounds j v) nn)) (h' : ∀ s' news', RelAt prog w c G st s' m news' → (pa, W.listOf ((#[.ref fa, .int k t, .int x u] : Array Value).setIfInBounds j v) nn) ∈ news' → Q () s') :
    wpAny (model prog w) A (setItem (.ref pa) (.int (j : Int) t') v) Q E s := by
  obtain ⟨pre, pst, en, en', h1, h2⟩ := (R.upd (W.listOf ((#[.ref fa, .int k t, .int x u] : Array Value).setIfInBounds j v) nn) hi).split
  have hnews := R.N _ hi.mem
  refine ki_setAt hnews.1 (Int.natCast_nonneg j) (by omega) (by simp; omega) ?_
  refine h' _ _ (R.putSame s.toks hi ho (R.F.change (Heap.SameBut.update ..) hnews.2.1 hnews.2.2) ?_ hor) ?_
  · rw [en']
    have N := R.N
    rw [en] at N
    exact ki_turn _ N h1 h2 (by rw [Int.toNat_natCast]) (listOf_set j v nn)
  · rw [en']; exact List.mem_append.mpr (.inr (.head _))

theorem ints_at {vs : List Value} {ns : List Int} (h : IntsAre vs ns) : ∀ {i : Nat}, i < ns.length → ∃ k t, vs[i]? = some (.int k t) ∧ k ∈ ns := by
  induction h with
  | nil => intro i hi; exact absurd hi (Nat.not_lt_zero _)
  | cons k t r ih =>
    intro i hi
    cases i with
    | zero => exact ⟨k, t, rfl, .head _⟩
    | succ i =>
      obtain ⟨k', t', h1, h2⟩ := ih (i := i) (by simpa using hi)
      exact ⟨k', t', h1, .tail _ h2⟩
theorem storeL (C : CxOk K p loose mean mg mb c n) (R : RelAt prog w c G st s m news) (hcf : st.cf = none) {x : Str} {v : Value} {Q : Unit → Shared → Prop} (hk : c.env.kindOf x = some .local)
    (h : ∀ h' tk, RelAt prog w c G { st with fr := [] } { s with heap := h', toks := tk } (fun y => if y = x then some v else m y) news → Q () { s with heap := h', toks := tk }) :
    wpAny (model prog w) c.A (storeName c.env x v) Q E s := by
  have cfe := R.cf
  rw [hcf] at cfe
  obtain ⟨ee, cn, cs, ad, ccd, cl, ef⟩ := cfe
  have hk' := hk
  have ek' := C.ek
  rw [ee, ef] at hk' ek' ⊢
  exact storeX_L R.F R.N (fun h' F' N' => h h' _ (R.frame (s.toks + 1) F' N' (fun y a e => nomatch e))) ek' hk'
theorem pick_if (hG : ∀ x v, look x globs = some v → GlbOk K x v) (C : CxOk K p loose mean mg mb c n) (hnm : c.env.scope.names = pickNames) (R : RelAt prog w c G st s m news) (hcf : st.cf = none) {h g : Nat} {pa fa : Addr}
    (hp : m ("pool" : Str) = some (.ref pa)) (hh : G.ρ[h]? = some pa) (ho : objAt h st = some (.pool g)) (hg : G.ρ[g]? = some fa) (hof : objAt g st = some .figs)
    {Q : Flow → Shared → Prop} (post : ∀ s' m' news' (i : Nat) t, RelAt prog w c G { st with fr := [] } s' m' news' → m' = (fun (y : Str) => if y = ("figure" : Str) then some (.int (i : Int) t) else m y) → i < 1009 → Q .next s')
    {p1 p2 p3 p4 p5 p6 p7 p8 p9 p10 p11 p12 p13 p14 p15 p16 p17 p18 p19 p20 p21 p22 p23 p24 p25 p26 p27 p28 p29 p30 p31 p32 p33 p34 p35 p36 p37 p38 p39 p40 p41 p42 p43 p44 p45 p46 p47 p48 p49 p50 p51 p52 p53 : Pos} :
    wpAny (model prog w) c.A (exec (.If (.Compare (.Subscript (.Name "pool" p1) (.Constant (.int 1) 0 p2) p3) [.Lt] [.Call (.Name "len" p4) [.Subscript (.Name "pool" p5) (.Constant (.int 0) 0 p6) p7] [] p8] p9)
      [.Assign [.Name "figure" p10] (.Subscript (.Subscript (.Name "pool" p11) (.Constant (.int 0) 0 p12) p13) (.Subscript (.Name "pool" p14) (.Constant (.int 1) 0 p15) p16) p17) p18,
       .AugAssign (.Subscript (.Name "pool" p19) (.Constant (.int 1) 0 p20) p21) .Add (.Constant (.int 1) 0 p22) p23]
      [.If (.Compare (.Call (.Name "len" p24) [.Subscript (.Name "pool" p25) (.Constant (.int 0) 0 p26) p27] [] p28) [.Lt] [.Constant (.int 3) 0 p29] p30)
        [.Assign [.Name "figure" p31] (.Constant (.int 0) 0 p32) p33]
        [.Assign [.Subscript (.Name "pool" p34) (.Constant (.int 2) 0 p35) p36] (.BinOp (.BinOp (.BinOp (.Subscript (.Name "pool" p37) (.Constant (.int 2) 0 p38) p39) .Mult (.Constant (.int 37) 0 p40) p41) .Add (.Constant (.int 11) 0 p42) p43) .Mod (.Constant (.int 1009) 0 p44) p45) p46,
         .Assign [.Name "figure" p47] (.Subscript (.Name "pool" p48) (.Constant (.int 2) 0 p49) p50) p51] p52] p53) c.env) Q E s := by
  have hkp : c.env.scope.names.lookup ("pool" : Str) = some .local := by rw [hnm]; rfl
  have hkl : c.env.scope.names.lookup ("len" : Str) = some .globalImplicit := by rw [hnm]; rfl
  have hkf : c.env.kindOf ("figure" : Str) = some .local := by unfold Env.kindOf; rw [hnm]; rfl
  obtain ⟨co, hi, ma, fa', k, x, t, u, nn, e1, rfl, k0, k1, x0, x1⟩ := R.obj hh ho
  rw [hg] at e1
  cases e1
  obtain ⟨co, hif, mf, vs, ns, n2, rfl, hia, hnl, hnr⟩ := R.obj hg hof
  have hvl : vs.length = ns.length := hia.length
  -- the two reads
  have rd0 : ∀ {tk0 : Nat} {q1 q2 q3 : Pos} (Q' : Value → Shared → Prop), (∀ tk, Q' (.ref fa) { s with toks := tk }) → wpAny (model prog w) c.A (eval (.Subscript (.Name "pool" q1) (.Constant (.int 0) 0 q2) q3) c.env) Q' E { s with toks := tk0 } :=
    fun {tk0} {q1 q2 q3} Q' hQ => itemC (j := 0) C (R.toks tk0) hcf hkp hp (by decide) ma rfl (by omega) hQ
  have rd1 : ∀ {tk0 : Nat} {q1 q2 q3 : Pos} (Q' : Value → Shared → Prop), (∀ tk, Q' (.int k t) { s with toks := tk }) → wpAny (model prog w) c.A (eval (.Subscript (.Name "pool" q1) (.Constant (.int 1) 0 q2) q3) c.env) Q' E { s with toks := tk0 } :=
    fun {tk0} {q1 q2 q3} Q' hQ => itemC (j := 1) C (R.toks tk0) hcf hkp hp (by decide) ma rfl (by omega) hQ
  have rdl : ∀ {tk0 : Nat} {q1 q2 q3 q4 q5 : Pos} (Q' : Value → Shared → Prop), (∀ t tk, Q' (.int (vs.length : Int) t) { s with toks := tk }) → wpAny (model prog w) c.A (eval (.Call (.Name "len" q1) [.Subscript (.Name "pool" q2) (.Constant (.int 0) 0 q3) q4] [] q5) c.env) Q' E { s with toks := tk0 } :=
    fun {tk0} {q1 q2 q3 q4 q5} Q' hQ => lenC hG C (R.toks tk0) hcf hkl rfl mf (by omega) (fun Q'' hQ'' => rd0 Q'' hQ'') hQ
  have hst0 : ∀ (st' : St), objAt h { st with fr := [] } = some (.pool g) ∧ objAt g { st with fr := [] } = some .figs := fun _ => ⟨ho, hof⟩
  refine PySem.wpAny_If (wpAny_isTrue_Compare1 (rd1 (tk0 := s.toks) _ fun tk => rdl _ fun tl tk2 => ?_) rfl)
  refine lt_int (wpAny_truthy_bool ?_)
  cases hlt : decide (k < (vs.length : Int)) with
  | true =>
    rw [if_pos rfl]
    have hlt := of_decide_eq_true hlt
    obtain ⟨j, rfl⟩ := Int.eq_ofNat_of_zero_le k0
    have hj : j < ns.length := by omega
    obtain ⟨fi, ft, hfi, hmem⟩ := ints_at hia hj
    obtain ⟨f0, f1⟩ := hnr fi hmem
    obtain ⟨fn, rfl⟩ := Int.eq_ofNat_of_zero_le f0
    refine wpAny_execs_cons (PySem.wpAny_Assign_Name (Subscript_ (rd0 _ fun tk3 => rd1 _ fun tk4 => ?_)) rfl)
    have il := isList_at (R.toks tk4) mf
    refine tail_any il.typeIs slot_list_getitem.lookup (wpAny_getItem_list il (Int.natCast_nonneg j) (by omega) (x := .int (fn : Int) ft) (by rw [Int.toNat_natCast, List.getElem?_toArray]; exact hfi) ?_) rfl
    refine storeL C (R.toks tk4) hcf hkf fun h1 tk5 R1 => ?_
    refine wpAny_execs_cons ?_
    have hp1 : (fun (y : Str) => if y = ("figure" : Str) then some (Value.int (fn : Int) ft) else m y) ("pool" : Str) = some (.ref pa) := by
      show (if ("pool" : Str) = ("figure" : Str) then _ else _) = _
      rw [if_neg (by decide)]; exact hp
    refine wpAny_AugAssign_SubscriptAny (nameL C R1 hcf hkp hp1 (by decide) (wpAny_Constant_int ?_)) (by intros; rfl)
    have R2 := R1.toks (tk5 + 1)
    have il2 := isList_at R2 ma
    refine wpAny_getItem_list il2 (by omega) (by omega) (x := .int (j : Int) t) rfl (wpAny_Constant_int (wpAny_iadd_int ?_))
    have hi2 : HAt G { st with fr := [] } news h pa (W.listOf #[.ref fa, .int (j : Int) t, .int x u] nn) := ⟨hi.rho, hi.mem, hi.live⟩
    refine poolSet (j := 1) (R2.toks (tk5 + 1 + 1 + 1)) hi2 ho hg (by omega) ⟨fa, (j : Int) + 1, x, _, _, _, hg, rfl, by omega, by omega, x0, x1⟩ fun s' news' R3 _ => ?_
    exact wpAny_execs_nil (post s' _ news' fn ft R3 rfl (by omega))
  | false =>
    rw [if_neg (by simp)]
    refine wpAny_execs_cons ?_
    refine PySem.wpAny_If (wpAny_isTrue_Compare1 (rdl _ fun tl tk3 => wpAny_Constant_int ?_) rfl)
    refine lt_int (wpAny_truthy_bool ?_)
    cases hlt3 : decide ((vs.length : Int) < 3) with
    | true =>
      rw [if_pos rfl]
      refine wpAny_execs_cons (PySem.wpAny_Assign_Name (wpAny_Constant_int ?_) rfl)
      refine storeL C (R.toks (tk3 + 1 + 1)) hcf hkf fun h1 tk5 R1 => ?_
      exact wpAny_execs_nil (wpAny_execs_nil (post _ _ _ 0 _ R1 rfl (by omega)))
    | false =>
      rw [if_neg (by simp)]
      obtain ⟨xj, rfl⟩ := Int.eq_ofNat_of_zero_le x0
      have rd2 : ∀ {tk0 : Nat} {q1 q2 q3 : Pos} (Q' : Value → Shared → Prop), (∀ tk, Q' (.int (xj : Int) u) { s with toks := tk }) → wpAny (model prog w) c.A (eval (.Subscript (.Name "pool" q1) (.Constant (.int 2) 0 q2) q3) c.env) Q' E { s with toks := tk0 } :=
        fun {tk0} {q1 q2 q3} Q' hQ => itemC (j := 2) C (R.toks tk0) hcf hkp hp (by decide) ma rfl (by omega) hQ
      refine wpAny_execs_cons (PySem.wpAny_Assign_Subscript (wpAny_BinOp (wpAny_BinOp (wpAny_BinOp (rd2 _ fun tk4 => wpAny_Constant_int (PyProof.Rows.mul_int (wpAny_Constant_int (add_int (wpAny_Constant_int (mod_int' (by omega) ?_)))) (IntMulOk.of_right (by decide +kernel)))))) ) rfl)
      have hfm : Int.fmod ((xj : Int) * 37 + 11) 1009 = (((xj * 37 + 11) % 1009 : Nat) : Int) := by
        rw [Int.fmod_eq_emod_of_nonneg _ (by omega)]; omega
      rw [hfm]
      refine nameL C (R.toks _) hcf hkp hp (by decide) (wpAny_Constant_int ?_)
      have hlt9 : (xj * 37 + 11) % 1009 < 1009 := Nat.mod_lt _ (by omega)
      refine poolSet (j := 2) (R.toks _) hi ho hg (by omega) ⟨fa, k, (((xj * 37 + 11) % 1009 : Nat) : Int), _, _, _, hg, rfl, k0, k1, by omega, by omega⟩ fun s' news' R3 hm3 => ?_
      refine wpAny_execs_cons (PySem.wpAny_Assign_Name (itemC (j := 2) C R3 hcf hkp hp (by decide) hm3 rfl (by omega) fun tk6 => ?_) rfl)
      refine storeL C (R3.toks tk6) hcf hkf fun h1 tk7 R4 => ?_
      exact wpAny_execs_nil (wpAny_execs_nil (post _ _ _ _ _ R4 rfl hlt9))
end
end Mine

namespace Mine
open PySem PySem.W PyProof.Rows
noncomputable def stmtAt (i j : Nat) : Stmt := match top i with
  | .FunctionDef _ _ b _ _ _ _ _ _ _ => (Mine.getL b j).getD noStmt
  | _ => noStmt
theorem pickIf_eq : ∃ p1 p2 p3 p4 p5 p6 p7 p8 p9 p10 p11 p12 p13 p14 p15 p16 p17 p18 p19 p20 p21 p22 p23 p24 p25 p26 p27 p28 p29 p30 p31 p32 p33 p34 p35 p36 p37 p38 p39 p40 p41 p42 p43 p44 p45 p46 p47 p48 p49 p50 p51 p52 p53 : Pos, stmtAt 35 0 = (.If (.Compare (.Subscript (.Name "pool" p1) (.Constant (.int 1) 0 p2) p3) [.Lt] [.Call (.Name "len" p4) [.Subscript (.Name "pool" p5) (.Constant (.int 0) 0 p6) p7] [] p8] p9)
      [.Assign [.Name "figure" p10] (.Subscript (.Subscript (.Name "pool" p11) (.Constant (.int 0) 0 p12) p13) (.Subscript (.Name "pool" p14) (.Constant (.int 1) 0 p15) p16) p17) p18,
       .AugAssign (.Subscript (.Name "pool" p19) (.Constant (.int 1) 0 p20) p21) .Add (.Constant (.int 1) 0 p22) p23]
      [.If (.Compare (.Call (.Name "len" p24) [.Subscript (.Name "pool" p25) (.Constant (.int 0) 0 p26) p27] [] p28) [.Lt] [.Constant (.int 3) 0 p29] p30)
        [.Assign [.Name "figure" p31] (.Constant (.int 0) 0 p32) p33]
        [.Assign [.Subscript (.Name "pool" p34) (.Constant (.int 2) 0 p35) p36] (.BinOp (.BinOp (.BinOp (.Subscript (.Name "pool" p37) (.Constant (.int 2) 0 p38) p39) .Mult (.Constant (.int 37) 0 p40) p41) .Add (.Constant (.int 11) 0 p42) p43) .Mod (.Constant (.int 1009) 0 p44) p45) p46,
         .Assign [.Name "figure" p47] (.Subscript (.Name "pool" p48) (.Constant (.int 2) 0 p49) p50) p51] p52] p53) :=
  ⟨_, _, _, _, _, _, _, _, _, _, _, _, _, _, _, _, _, _, _, _, _, _, _, _, _, _, _, _, _, _, _, _, _, _, _, _, _, _, _, _, _, _, _, _, _, _, _, _, _, _, _, _, _, rfl⟩
noncomputable def nameEv : Ev := { evZero with e := fun nm ex st k => match ex with
  | .Name x _ => evName nm x st k
  | _ => .bad }
noncomputable def pickFn : Fn := mkFn 482 (top 35) 2 []
noncomputable def isIfS : Stmt → Bool
  | .If _ _ _ _ => true
  | _ => false
noncomputable def PickAt (nm : Names) (x : Stmt) (st : St) : Prop := nm = pickNames ∧ x = stmtAt 35 0 ∧ st.cf = none ∧ ∃ h g, look "pool" st.fr = some (.ref h) ∧ objAt h st = some (.pool g) ∧ objAt g st = some .figs
open Classical in
noncomputable def pickEv : Ev := { evZero with s := fun nm x st k => if PickAt nm x st then k .next { st with fr := frSet "figure" (.rng 1009) st.fr } else evStmt { evZero with e := evE nameEv } nm x st k }

section
variable {prog : Program} {w : World} {K : Frag} {p : Program} {loose : List Str} {mean : ExcName → Option Value} {mg mb : Str → Option Value}
theorem snd_name (KO : KOk K) (n : Nat) : Snd prog w K p loose mean mg mb n nameEv :=
  ⟨@fun c G st s ex k Q E C R t post => by
      cases ex <;> try exact t.elim
      exact evName_ok KO.glb C R t post,
    fun _ _ t _ => t.elim, fun _ _ t _ => t.elim, fun _ _ _ _ t _ => t.elim, fun _ _ t _ => t.elim, fun _ _ _ t _ => t.elim, fun _ _ _ _ t _ => t.elim⟩
theorem snd_exp (KO : KOk K) (n : Nat) : Snd prog w K p loose mean mg mb n { evZero with e := evE nameEv } :=
  ⟨fun C R t post => evE_ok KO (snd_name KO n) C (fun R t post => ListComp_ok (snd_name KO n) C R t post) R t post,
    fun _ _ t _ => t.elim, fun _ _ t _ => t.elim, fun _ _ _ _ t _ => t.elim, fun _ _ t _ => t.elim, fun _ _ _ t _ => t.elim, fun _ _ _ _ t _ => t.elim⟩
theorem snd_pick (KO : KOk K) (n : Nat) : Snd prog w K p loose mean mg mb n pickEv :=
  ⟨fun _ _ t _ => t.elim, fun _ _ t _ => t.elim, @fun c G st s x k Q E C R t post => by
      unfold pickEv at t
      dsimp only at t
      by_cases h : PickAt c.env.scope.names x st
      · rw [if_pos h] at t
        obtain ⟨h1, rfl, h3, hh, g, h4, h5, h6⟩ := h
        obtain ⟨m, news, R⟩ := R
        obtain ⟨v, hv, pa, hpa, rfl⟩ := R.fr _ _ h4
        obtain ⟨co, hi, ma, fa, k0, x0, t0, u0, nn, hfa, _⟩ := R.obj hpa h5
        obtain ⟨p1, p2, p3, p4, p5, p6, p7, p8, p9, p10, p11, p12, p13, p14, p15, p16, p17, p18, p19, p20, p21, p22, p23, p24, p25, p26, p27, p28, p29, p30, p31, p32, p33, p34, p35, p36, p37, p38, p39, p40, p41, p42, p43, p44, p45, p46, p47, p48, p49, p50, p51, p52, p53, ep⟩ := pickIf_eq
        rw [ep]
        refine pick_if KO.glb C h1 R h3 hv hpa h5 hfa h6 fun s' m' news' i ti R' hm hi' => ?_
        subst hm
        have R2 : RelAt prog w c G { st with fr := frSet ("figure" : Str) (.rng 1009) st.fr } s' (fun (y : Str) => if y = ("figure" : Str) then some (.int (i : Int) ti) else m y) news' :=
          ⟨R'.F, R'.N, R'.nd, R'.n, R'.nS, R'.nT, FrR.set R.fr _ (show VR G (.rng 1009) _ from ⟨i, ti, rfl, hi'⟩), R'.hp, R'.inj, R'.cl, R'.cf, R'.gens, R'.drawn, R'.os⟩
        exact post _ _ _ .next _ (.refl G) R2.rel rfl t
      · rw [if_neg h] at t
        exact evStmt_ok KO (snd_exp KO n) C (fun R hx hl t post => AssignComp_ok (snd_exp KO n) C R hx hl t post) R t post,
    fun _ _ _ _ t _ => t.elim, fun _ _ t _ => t.elim, fun _ _ _ t _ => t.elim, fun _ _ _ _ t _ => t.elim⟩

theorem pickEv_pos {nm : Names} {x : Stmt} {st : St} {k : AF → St → Dt} (h : PickAt nm x st) : pickEv.s nm x st k = k .next { st with fr := frSet "figure" (.rng 1009) st.fr } := by unfold pickEv; exact if_pos h
theorem pickEv_neg {nm : Names} {x : Stmt} {st : St} {k : AF → St → Dt} (h : ¬ PickAt nm x st) : pickEv.s nm x st k = evStmt { evZero with e := evE nameEv } nm x st k := by unfold pickEv; exact if_neg h
theorem pickBody : pickFn.body = [stmtAt 35 0, stmtAt 35 1] := by kernel_rfl
theorem pickScope : pickFn.scope.names = pickNames := by kernel_rfl
theorem pick_call {h q : Nat} {st : St} {k : K1} (hk : ∃ g, objAt h st = some (.pool g) ∧ objAt g st = some .figs) (t : (k (.rng (q + 1)) st).Tr) : (callFn pickEv pickFn [.ref h, .int (.ofNat (q + 1))] st k).Tr := by
  obtain ⟨n, hp, nS, nT, fr, cl, cf⟩ := st
  have e1 : callFn pickEv pickFn [.ref h, .int (.ofNat (q + 1))] ⟨n, hp, nS, nT, fr, cl, cf⟩ k = evSs pickEv pickFn.scope.names pickFn.body ⟨n, hp, nS, nT, [("bound", .int (.ofNat (q + 1))), ("pool", .ref h)], [], none⟩ (fun fl st => match st with
        | ⟨n, hp, nS, nT, _, _, _⟩ => match fl with
          | .ret v => k v ⟨n, hp, nS, nT, fr, cl, cf⟩
          | .next => k .none ⟨n, hp, nS, nT, fr, cl, cf⟩
          | _ => .bad) := by kernel_rfl
  rw [e1, pickBody, pickScope]
  unfold evSs
  have h1 : PickAt pickNames (stmtAt 35 0) ⟨n, hp, nS, nT, [("bound", .int (.ofNat (q + 1))), ("pool", .ref h)], [], none⟩ := by
    obtain ⟨g, a, b⟩ := hk
    exact ⟨rfl, rfl, rfl, h, g, by kernel_rfl, a, b⟩
  rw [pickEv_pos h1]
  dsimp only
  unfold evSs
  have h2 : ¬ PickAt pickNames (stmtAt 35 1) ⟨n, hp, nS, nT, frSet "figure" (.rng 1009) [("bound", .int (.ofNat (q + 1))), ("pool", .ref h)], [], none⟩ := by
    rintro ⟨_, e, _⟩
    have e2 := congrArg isIfS e
    have e3 : isIfS (stmtAt 35 1) = false := by kernel_rfl
    have e4 : isIfS (stmtAt 35 0) = true := by kernel_rfl
    rw [e3, e4] at e2
    cases e2
  rw [pickEv_neg h2]
  have e5 : ∀ kk : AF → St → Dt, evStmt { evZero with e := evE nameEv } pickNames (stmtAt 35 1) ⟨n, hp, nS, nT, frSet "figure" (.rng 1009) [("bound", .int (.ofNat (q + 1))), ("pool", .ref h)], [], none⟩ kk =
      kk (.ret (.rng (q + 1))) ⟨n, hp, nS, nT, frSet "figure" (.rng 1009) [("bound", .int (.ofNat (q + 1))), ("pool", .ref h)], [], none⟩ := fun kk => by kernel_rfl
  rw [e5]
  exact t
theorem pick_ok (P : Params) : PickOk prog w (KF P) p loose mean mg mb := by
  intro n c G st s args vs k Q E C R rv t post
  unfold opPick at t
  cases rv with
  | nil => exact t.elim
  | cons h1 r1 =>
    rename_i a v as us
    cases a <;> try exact t.elim
    case ref h =>
      cases r1 with
      | nil => exact t.elim
      | cons h2 r2 =>
        rename_i b v2 as us
        cases b <;> try exact t.elim
        case int b =>
          cases r2 with
          | cons _ _ => cases b <;> exact t.elim
          | nil =>
            cases b with
            | negSucc _ => exact t.elim
            | ofNat b =>
              dsimp only at t
              cases e1 : objAt h st with
              | none => rw [e1] at t; exact t.elim
              | some o =>
                rw [e1] at t
                cases o <;> try exact t.elim
                case pool g =>
                  dsimp only at t
                  cases e2 : objAt g st with
                  | none => rw [e2] at t; exact t.elim
                  | some o =>
                    rw [e2] at t
                    cases o <;> try exact t.elim
                    case figs =>
                      cases b with
                      | zero => exact t.elim
                      | succ q =>
                        dsimp only at t
                        cases hq : Nat.ble q 100 with
                        | false => rw [hq] at t; exact t.elim
                        | true =>
                          rw [hq] at t
                          have ok : FnOk (KF P) pickFn := ok_482 P
                          have := callFn_ok (F := pickFn) (A := c.A) (snd_pick (prog := prog) (w := w) (p := p) (loose := loose) (mean := mean) (mg := mg) (mb := mb) (kok P).base n) C rfl C.hh (Nat.le_succ _) (Nat.le_add_right _ _) ok R (.cons h1 (.cons h2 .nil)) (pick_call ⟨g, e1, e2⟩ t) post (RR := fun r s' => match r with | .ok (.ret v) => Q v s' | .ok _ => False | .error e => E e s') fun v s' h => h
                          exact wpAny_call this
end
end Mine

namespace Mine
open PySem PySem.W PyProof.Rows

/-! the reader of the script, by hand: a bare state bears the frame and the ledger alone -/
noncomputable def g0 : Gh := ⟨[], [], []⟩
noncomputable def b0 : St := ⟨0, .nil, 0, 0, [], [], none⟩
noncomputable def poolNames : Names := [("script", .local), ("figures", .local), ("mix", .local), ("cell", .local), ("big", .local), ("rest", .local), ("step", .local), ("int", .globalImplicit), ("abs", .globalImplicit), ("range", .globalImplicit), ("len", .globalImplicit)]
theorem pylong_840 (i : Int) : Builtin.divisionGoesByPylong i 840 = false := by
  unfold Builtin.divisionGoesByPylong
  have h : decide (((if ((840 : Int) == 0) = true then 0 else (840 : Int).natAbs.log2 / 30 + 1) : Nat) > 300) = false := by decide +kernel
  dsimp only
  rw [h, Bool.false_and]

section
variable {prog : Program} {w : World} {c : Cx} {s : Shared} {m : Str → Option Value} {news : List (Addr × Obj)} {E : Value → Shared → Prop}
  {K : Frag} {p : Program} {loose : List Str} {mean : ExcName → Option Value} {mg mb : Str → Option Value} {n : Nat}

theorem bare_of {h' : Heap} {m' : Str → Option Value} {news' : List (Addr × Obj)} (R : RelAt prog w c g0 b0 s m news) (tk : Nat) (F : Fr c.h₀ c.L h' m') (N : News c.h₀ c.L h' news') (nd : (news'.map (·.1)).Nodup) :
    RelAt prog w c g0 b0 { s with heap := h', toks := tk } m' news' :=
  ⟨F, N, nd, R.n, R.nS, R.nT, (fun x a e => nomatch e), (fun i o e => nomatch e), (fun i j oi oj a e => nomatch e), R.cl, R.cf, R.gens, R.drawn, R.os⟩
theorem bare_set (R : RelAt prog w c g0 b0 s m news) {h' : Heap} {a : Addr} {co co' : Obj} (tk : Nat) (hm : (a, co) ∈ news) (hs : Heap.ExtBut a s.heap h') (ho : h'.get? a = some co') :
    RelAt prog w c g0 b0 { s with heap := h', toks := tk } m (setN news a co') := by
  have hn := R.N _ hm
  refine bare_of R tk (fr_extIn R.F hs hn.2.1 hn.2.2) (fun q hq => ?_) (setN_keys news a co' ▸ R.nd)
  rcases mem_setN hq with rfl | ⟨hq, ne⟩
  · exact ⟨ho, hn.2⟩
  · exact ⟨hs _ _ ne (R.N q hq).1, (R.N q hq).2⟩
theorem bare_new (R : RelAt prog w c g0 b0 s m news) {h' : Heap} {D : Addr} {co : Obj} (tk : Nat) (F : Fr c.h₀ c.L h' m) (N : News c.h₀ c.L h' ((D, co) :: news)) (hlt : ∀ q ∈ news, q.1 ≠ D) :
    RelAt prog w c g0 b0 { s with heap := h', toks := tk } m ((D, co) :: news) := by
  refine bare_of R tk F N ?_
  rw [List.map_cons]
  refine List.nodup_cons.mpr ⟨fun hm => ?_, R.nd⟩
  obtain ⟨q, hq, e⟩ := List.mem_map.mp hm
  exact hlt q hq e
theorem setN_keep {N0 : List (Addr × Obj)} {a : Addr} {o' : Obj} (h : ∀ q ∈ N0, q ∈ news) (hne : ∀ q ∈ N0, q.1 ≠ a) : ∀ q ∈ N0, q ∈ setN news a o' := fun q hq => setN_mem (h q hq) (hne q hq)

/-- between two turns: the figures so far, at most B; the mix; what must stay -/
structure Tail (prog : Program) (w : World) (c : Cx) (N0 : List (Addr × Obj)) (fa : Addr) (B : Nat) (s : Shared) (m : Str → Option Value) (news : List (Addr × Obj)) : Prop where
  R : RelAt prog w c g0 b0 s m news
  keep : ∀ q ∈ N0, q ∈ news
  fne : ∀ q ∈ N0, q.1 ≠ fa
  fig : ∃ vs ns k, (fa, W.listOf vs.toArray k) ∈ news ∧ IntsAre vs ns ∧ ns.length ≤ B ∧ (∀ i ∈ ns, 0 ≤ i ∧ i < 840)
  mf : m "figures" = some (.ref fa)
  mm : ∃ x t, m "mix" = some (.int x t) ∧ 0 ≤ x ∧ x < 1009
theorem Tail.mono {N0 : List (Addr × Obj)} {fa : Addr} {B B' : Nat} (T : Tail prog w c N0 fa B s m news) (h : B ≤ B') : Tail prog w c N0 fa B' s m news :=
  ⟨T.R, T.keep, T.fne, let ⟨vs, ns, k, a, b, e, d⟩ := T.fig; ⟨vs, ns, k, a, b, Nat.le_trans e h, d⟩, T.mf, T.mm⟩
theorem ints_append {vs : List Value} {ns : List Int} (h : IntsAre vs ns) (k : Int) (t : Tok) : IntsAre (vs ++ [Value.int k t]) (ns ++ [k]) := by
  induction h with
  | nil => exact .cons k t .nil
  | cons k' t' r ih => exact .cons k' t' ih

/-- one turn of the inner loop -/
theorem inner_turn (C : CxOk K p loose mean mg mb c n) (hnm : c.env.scope.names = poolNames) {N0 : List (Addr × Obj)} {fa : Addr} {B : Nat} (T : Tail prog w c N0 fa B s m news) (hB : B ≤ 1000) (hr : ∃ r t, m "rest" = some (.int r t) ∧ 0 ≤ r)
    {Q : Flow → Shared → Prop} (post : ∀ f s' m' news', Tail prog w c N0 fa (B + 1) s' m' news' → (∃ r t, m' "rest" = some (.int r t) ∧ 0 ≤ r) → f = .next ∨ f = .brk → Q f s')
    {p1 p2 p3 p4 p5 p6 p7 p8 p9 p10 p11 p12 p13 p14 p15 : Pos} (hb : methForm (.Name "figures" p1) [Expr.BinOp (.Name "rest" p3) .Mod (.Constant (.int 840) 0 p4) p5] p2.endLine p6.line = true) :
    wpAny (model prog w) c.A (execs [.Expr (.Call (.Attribute (.Name "figures" p1) "append" p2) [.BinOp (.Name "rest" p3) .Mod (.Constant (.int 840) 0 p4) p5] [] p6) p7,
      .AugAssign (.Name "rest" p8) .FloorDiv (.Constant (.int 840) 0 p9) p10,
      .If (.Compare (.Name "rest" p11) [.Eq] [.Constant (.int 0) 0 p12] p13) [.Break p14] [] p15] c.env) Q E s := by
  have kf : c.env.scope.names.lookup ("figures" : Str) = some .local := by rw [hnm]; rfl
  have kr : c.env.scope.names.lookup ("rest" : Str) = some .local := by rw [hnm]; rfl
  obtain ⟨r, t, hr, r0⟩ := hr
  obtain ⟨vs, ns, k, hm, hi, hl, hv⟩ := T.fig
  have hvl : vs.length = ns.length := hi.length
  have R := T.R
  refine wpAny_execs_cons (PySem.wpAny_Expr (MethodCall_ (pl := do return (← importBound (.Name "figures" p1) c.env).getD true) (nameL C R rfl kf T.mf (by decide) (getMethod_append_N R.N hm ?_)) (method_eq c.env rfl hb)) (inter_false C.ek) (swaps_false rfl))
  refine callWith_method1 (PyProof.Rows.spliced_more (wpAny_BinOp (nameL C R rfl kr hr (by decide) (wpAny_Constant_int (mod_int' (by omega) (PyProof.Rows.spliced_none ?_))))) rfl) rfl rfl
  have R1 := R.toks (s.toks + 1 + 1)
  have U : Upd fa (W.listOf vs.toArray k) (W.listOf (vs.toArray.push (.int (Int.fmod r 840) (s.toks + 1))) (k + 1)) news (setN news fa (W.listOf (vs.toArray.push (.int (Int.fmod r 840) (s.toks + 1))) (k + 1))) := by
    obtain ⟨pre, pst, sp, h1, h2⟩ := split_key R.nd hm
    rw [sp, setN_split _ h1 h2]
    exact upd_append h2 h1
  refine append_K R1.F R1.N U (fun h1 F1 N1 => ?_) (sizeLine_ge (by rw [List.size_toArray]; omega))
  have e2 : W.listOf (vs.toArray.push (.int (Int.fmod r 840) (s.toks + 1))) (k + 1) = W.listOf (vs ++ [Value.int (Int.fmod r 840) (s.toks + 1)]).toArray (k + 1) := by simp
  rw [e2] at N1
  have R2 := bare_of R (s.toks + 1 + 1) F1 N1 (setN_keys news fa _ ▸ R.nd)
  have hm2 := setN_self (o' := W.listOf (vs ++ [Value.int (Int.fmod r 840) (s.toks + 1)]).toArray (k + 1)) hm
  have keep2 := setN_keep (o' := W.listOf (vs ++ [Value.int (Int.fmod r 840) (s.toks + 1)]).toArray (k + 1)) T.keep T.fne
  have hm0 : 0 ≤ Int.fmod r 840 ∧ Int.fmod r 840 < 840 := by
    rw [Int.fmod_eq_emod_of_nonneg _ (by omega)]; omega
  have hd0 : 0 ≤ Int.fdiv r 840 := by
    rw [Int.fdiv_eq_ediv_of_nonneg _ (by omega)]; omega
  have cfe := R2.cf
  refine wpAny_execs_cons (wpAny_AugAssign_Name (wpAny_loadName_local C.ek kr (by rw [cfe.1, C.hfl]; exact R2.F.ns) hr (wpAny_Constant_int (ifloordiv_int (by decide) ?_ (.inl (pylong_840 r))))))
  refine storeL C (R2.toks _) rfl (show c.env.scope.names.lookup ("rest" : Str) = some .local from kr) fun h2 tk2 R3 => ?_
  have T3 : Tail prog w c N0 fa (B + 1) { s with heap := h2, toks := tk2 } (fun (y : Str) => if y = ("rest" : Str) then some (.int (Int.fdiv r 840) _) else m y) _ :=
    ⟨R3, keep2, T.fne, ⟨_, _, _, hm2, ints_append hi _ _, by rw [List.length_append]; simp only [List.length_cons, List.length_nil]; omega, fun i hi' => by
      rcases List.mem_append.mp hi' with h | h
      · exact hv i h
      · rw [List.mem_singleton] at h; rw [h]; exact hm0⟩, by
        show (if ("figures" : Str) = ("rest" : Str) then _ else _) = _
        rw [if_neg (by decide)]; exact T.mf, by
        obtain ⟨x, u, h1, h2⟩ := T.mm
        refine ⟨x, u, ?_, h2⟩
        show (if ("mix" : Str) = ("rest" : Str) then _ else _) = _
        rw [if_neg (by decide)]; exact h1⟩
  have hr3 : (fun (y : Str) => if y = ("rest" : Str) then some (Value.int (Int.fdiv r 840) (s.toks + 1 + 1 + 1)) else m y) ("rest" : Str) = some (.int (Int.fdiv r 840) (s.toks + 1 + 1 + 1)) := if_pos rfl
  refine wpAny_execs_cons (PySem.wpAny_If (wpAny_isTrue_Compare1 (nameL C R3 rfl kr hr3 (by decide) (wpAny_Constant_int (eq_int (wpAny_truthy_bool ?_)))) rfl))
  have T4 : Tail prog w c N0 fa (B + 1) { s with heap := h2, toks := tk2 + 1 } _ _ := ⟨T3.R.toks (tk2 + 1), T3.keep, T3.fne, T3.fig, T3.mf, T3.mm⟩
  split
  · exact wpAny_execs_cons (wpAny_Break (post _ _ _ _ T4 ⟨_, _, hr3, hd0⟩ (.inr rfl)))
  · exact wpAny_execs_nil (wpAny_execs_nil (post _ _ _ _ T4 ⟨_, _, hr3, hd0⟩ (.inl rfl)))
end
end Mine

namespace Mine
open PySem PySem.W PyProof.Rows

section
variable {prog : Program} {w : World} {c : Cx} {s : Shared} {m : Str → Option Value} {news : List (Addr × Obj)} {E : Value → Shared → Prop}
  {K : Frag} {p : Program} {loose : List Str} {mean : ExcName → Option Value} {mg mb : Str → Option Value} {n : Nat}

theorem Tail.turn {N0 : List (Addr × Obj)} {it fa : Addr} {o o' : Obj} {B : Nat} {h' : Heap} (T : Tail prog w c ((it, o) :: N0) fa B s m news) (hne : ∀ q ∈ N0, q.1 ≠ it) (hs : Heap.ExtBut it s.heap h') (ho : h'.get? it = some o') (tk : Nat) :
    Tail prog w c ((it, o') :: N0) fa B { s with heap := h', toks := tk } m (setN news it o') := by
  have hi := T.keep _ (.head _)
  have hf : it ≠ fa := T.fne _ (.head _)
  refine ⟨bare_set T.R tk hi hs ho, fun q hq => ?_, fun q hq => ?_, ?_, T.mf, T.mm⟩
  · rcases List.mem_cons.mp hq with rfl | hq
    · exact setN_self hi
    · exact setN_mem (T.keep _ (.tail _ hq)) (hne _ hq)
  · rcases List.mem_cons.mp hq with rfl | hq
    · exact hf
    · exact T.fne _ (.tail _ hq)
  · obtain ⟨vs, ns, k, a, b⟩ := T.fig
    exact ⟨vs, ns, k, setN_mem a hf.symm, b⟩
theorem Tail.lose {N0 : List (Addr × Obj)} {it fa : Addr} {o : Obj} {B : Nat} {h' : Heap} (T : Tail prog w c ((it, o) :: N0) fa B s m news) (hne : ∀ q ∈ N0, q.1 ≠ it) (hs : Heap.ExtBut it s.heap h') (tk : Nat) :
    ∃ news', Tail prog w c N0 fa B { s with heap := h', toks := tk } m news' := by
  have hi := T.keep _ (.head _)
  have hf : it ≠ fa := T.fne _ (.head _)
  have hn := T.R.N _ hi
  have mem : ∀ q, q ∈ news → q.1 ≠ it → q ∈ news.filter (fun q => q.1 != it) := fun q h1 h2 => List.mem_filter.mpr ⟨h1, by simp [h2]⟩
  refine ⟨news.filter (fun q => q.1 != it), bare_of T.R tk (fr_extIn T.R.F hs hn.2.1 hn.2.2) (fun q hq => ?_) ?_, fun q hq => mem _ (T.keep _ (.tail _ hq)) (hne _ hq), fun q hq => T.fne _ (.tail _ hq), ?_, T.mf, T.mm⟩
  · obtain ⟨h1, h2⟩ := List.mem_filter.mp hq
    have h2 : q.1 ≠ it := by simpa using h2
    exact ⟨hs _ _ h2 (T.R.N q h1).1, (T.R.N q h1).2⟩
  · exact T.R.nd.sublist ((List.filter_sublist).map _)
  · obtain ⟨vs, ns, k, a, b⟩ := T.fig
    exact ⟨vs, ns, k, mem _ a hf.symm, b⟩
theorem Tail.drop {N0 : List (Addr × Obj)} {q : Addr × Obj} {fa : Addr} {B : Nat} (T : Tail prog w c (q :: N0) fa B s m news) : Tail prog w c N0 fa B s m news :=
  ⟨T.R, fun q h => T.keep q (.tail _ h), fun q h => T.fne q (.tail _ h), T.fig, T.mf, T.mm⟩
theorem Tail.toks {N0 : List (Addr × Obj)} {fa : Addr} {B : Nat} (T : Tail prog w c N0 fa B s m news) (tk : Nat) : Tail prog w c N0 fa B { s with toks := tk } m news :=
  ⟨T.R.toks tk, T.keep, T.fne, T.fig, T.mf, T.mm⟩
theorem Tail.store {N0 : List (Addr × Obj)} {fa : Addr} {B : Nat} {s' : Shared} {x : Str} {v : Value} (T : Tail prog w c N0 fa B s m news) (R : RelAt prog w c g0 b0 s' (fun y => if y = x then some v else m y) news) (h1 : ("figures" : Str) ≠ x) (h2 : ("mix" : Str) ≠ x) :
    Tail prog w c N0 fa B s' (fun y => if y = x then some v else m y) news :=
  ⟨R, T.keep, T.fne, T.fig, by show (if ("figures" : Str) = x then _ else _) = _; rw [if_neg h1]; exact T.mf, by
    obtain ⟨z, t, e, q⟩ := T.mm
    refine ⟨z, t, ?_, q⟩
    show (if ("mix" : Str) = x then _ else _) = _; rw [if_neg h2]; exact e⟩
theorem Tail.add {N0 : List (Addr × Obj)} {fa D : Addr} {o : Obj} {B : Nat} {h' : Heap} (T : Tail prog w c N0 fa B s m news) (tk : Nat) (F : Fr c.h₀ c.L h' m) (N : News c.h₀ c.L h' ((D, o) :: news)) (hlt : ∀ q ∈ news, q.1 ≠ D) :
    Tail prog w c ((D, o) :: N0) fa B { s with heap := h', toks := tk } m ((D, o) :: news) := by
  obtain ⟨vs, ns, k, a, b⟩ := T.fig
  refine ⟨bare_new T.R tk F N hlt, fun q hq => ?_, fun q hq => ?_, ⟨vs, ns, k, .tail _ a, b⟩, T.mf, T.mm⟩
  · rcases List.mem_cons.mp hq with rfl | hq
    · exact .head _
    · exact .tail _ (T.keep _ hq)
  · rcases List.mem_cons.mp hq with rfl | hq
    · exact (hlt _ a).symm
    · exact T.fne _ hq

noncomputable abbrev riterObj (x l : Int) : Obj := { cls := .type "range_iterator", data := .fields #[rawInt x, rawInt l, rawInt 1] }
/-- the inner loop -/
theorem inner_for (hG : ∀ x v, look x globs = some v → GlbOk K x v) (C : CxOk K p loose mean mg mb c n) (hnm : c.env.scope.names = poolNames) {N0 : List (Addr × Obj)} {fa : Addr} {B : Nat} (T : Tail prog w c N0 fa B s m news) (hB : B ≤ 900) (hr : ∃ r t, m "rest" = some (.int r t) ∧ 0 ≤ r)
    {Q : Flow → Shared → Prop} (post : ∀ s' m' news', Tail prog w c N0 fa (B + 60) s' m' news' → Q .next s')
    {p1 p2 p3 p4 p5 p6 p7 p8 p9 p10 p11 p12 p13 p14 p15 p16 p17 p18 p19 p20 : Pos} (hb : methForm (.Name "figures" p1) [Expr.BinOp (.Name "rest" p3) .Mod (.Constant (.int 840) 0 p4) p5] p2.endLine p6.line = true) :
    wpAny (model prog w) c.A (exec (.For (.Name "step" p16) (.Call (.Name "range" p17) [.Constant (.int 60) 0 p18] [] p19) [.Expr (.Call (.Attribute (.Name "figures" p1) "append" p2) [.BinOp (.Name "rest" p3) .Mod (.Constant (.int 840) 0 p4) p5] [] p6) p7,
      .AugAssign (.Name "rest" p8) .FloorDiv (.Constant (.int 840) 0 p9) p10,
      .If (.Compare (.Name "rest" p11) [.Eq] [.Constant (.int 0) 0 p12] p13) [.Break p14] [] p15] [] p20) c.env) Q E s := by
  have kg : c.env.scope.names.lookup ("range" : Str) = some .globalImplicit := by rw [hnm]; rfl
  have ks : c.env.kindOf ("step" : Str) = some .local := by unfold Env.kindOf; rw [hnm]; rfl
  refine PySem.wpAny_For (Call_ (nameB hG C T.R rfl kg (b := .range) rfl (by decide) ?_) rfl) (fun _ => folded_eq rfl)
  refine PyProof.Rows.callWith_type1 (PyProof.Rows.spliced_more (wpAny_Constant_int (PyProof.Rows.spliced_none ?_)) rfl) rfl rfl
  have T1 := T.toks (s.toks + 1)
  refine range1_rows T1.R.F T1.R.N fun h1 tk1 t1 u1 v1 hr1 F1 N1 hk1 => ?_
  have T2 := T1.add tk1 F1 (fresh_news T1.R.F N1 hr1) T1.R.ne
  refine wpAny_pyIter_range (T2.R.N.get (.head _)) (by decide +kernel) ?_
  have hsz : Builtin.Range.rangeSize 0 60 1 = 60 := by decide +kernel
  rw [hsz]
  have T3 := (T2.drop.add tk1 (T2.R.F.push _) (News.push T2.R.F T2.R.N (riterObj 0 60) rfl) T2.R.ne)
  have hne : ∀ q ∈ N0, q.1 ≠ h1.objs.size := fun q hq => T2.R.ne q (T2.drop.keep q hq)
  have hr3 : ∃ r t, m "rest" = some (.int r t) ∧ 0 ≤ r := hr
  generalize hit : h1.objs.size = it at hne
  refine codeAny_forLoop (fun j s => j ≤ 60 ∧ ∃ m news x, Tail prog w c ((it, riterObj x (j : Int)) :: N0) fa (B + (60 - j)) s m news ∧ ∃ r t, m "rest" = some (.int r t) ∧ 0 ≤ r) ?_ 60 ⟨Nat.le_refl _, m, _, 0, hit ▸ T3, hr3⟩ (fun _ => rfl)
  rintro j s4 ⟨hj, m4, news4, x4, T4, hr4⟩
  have hi4 := T4.R.N _ (T4.keep _ (.head _))
  cases j with
  | zero =>
    refine wpAny_pyNext_range_end (x := x4) (left := 0) (step := 1) C.hh hi4.1 (by omega) fun h5 hx => ?_
    obtain ⟨news5, T5⟩ := T4.lose hne hx s4.toks
    exact wpAny_execs_nil (post _ _ _ (T5.mono (by omega)))
  | succ j =>
    refine wpAny_pyNext_range_item (x := x4) (left := ((j + 1 : Nat) : Int)) (step := 1) hi4.1 (by omega) fun h5 hr5 hx => ?_
    have e5 : ((j + 1 : Nat) : Int) - 1 = (j : Int) := by omega
    rw [e5] at hr5
    have T5 := T4.turn (o' := riterObj (x4 + 1) (j : Int)) hne hx.extBut hr5 (s4.toks + 1)
    refine wpAny_assign_Name (storeL C T5.R rfl ks fun h6 tk6 R6 => ?_)
    have T6 := T5.store R6 (by decide) (by decide)
    obtain ⟨r, t, hr4, r0⟩ := hr4
    refine inner_turn C hnm T6 (by omega) ⟨r, t, ?_, r0⟩ (fun f s7 m7 news7 T7 hr7 hf => ?_) hb
    · show (if ("rest" : Str) = ("step" : Str) then _ else _) = _
      rw [if_neg (by decide)]; exact hr4
    · rcases hf with rfl | rfl
      · exact ⟨j, Nat.lt_succ_self _, by omega, m7, news7, x4 + 1, T7.mono (by omega), hr7⟩
      · exact post _ _ _ (T7.drop.mono (by omega))
end
end Mine

namespace Mine
open PySem PySem.W PyProof.Rows

section
variable {prog : Program} {w : World} {c : Cx} {s : Shared} {m : Str → Option Value} {news : List (Addr × Obj)} {E : Value → Shared → Prop}
  {K : Frag} {p : Program} {loose : List Str} {mean : ExcName → Option Value} {mg mb : Str → Option Value} {n : Nat}

theorem nameInt (hint : nsIn K mainGlobals "int" = some none) (C : CxOk K p loose mean mg mb c n) (R : RelAt prog w c g0 b0 s m news) {pos : Pos} {Q : Value → Shared → Prop} (hk : c.env.scope.names.lookup ("int" : Str) = some .globalImplicit) (h : Q (.type "int") s) :
    wpAny (model prog w) c.A (eval (.Name "int" pos) c.env) Q E s := by
  obtain ⟨ee, cn, cs, a, ccd, cl, ef⟩ := R.cf
  have hk' : c.env.kindOf ("int" : Str) = some .globalImplicit := hk
  have ek' := C.ek
  rw [ee, ef] at hk' ek' ⊢
  exact nameX_B R.F C.X (topRead_of C.T) hint PyProof.Rows.boot_int (by decide) h ek' hk' (by decide)
theorem Tail.storeMix {N0 : List (Addr × Obj)} {fa : Addr} {B : Nat} {s' : Shared} {x : Int} {t : Tok} (T : Tail prog w c N0 fa B s m news) (R : RelAt prog w c g0 b0 s' (fun y => if y = ("mix" : Str) then some (.int x t) else m y) news) (h0 : 0 ≤ x) (h1 : x < 1009) :
    Tail prog w c N0 fa B s' (fun y => if y = ("mix" : Str) then some (.int x t) else m y) news :=
  ⟨R, T.keep, T.fne, T.fig, by show (if ("figures" : Str) = ("mix" : Str) then _ else _) = _; rw [if_neg (by decide)]; exact T.mf, ⟨x, t, if_pos rfl, h0, h1⟩⟩

theorem mset_other {m : Str → Option Value} {x y : Str} {v u : Value} (h : y ≠ x) (e : m y = some u) : (fun z => if z = x then some v else m z) y = some u := by
  show (if y = x then _ else _) = _
  rw [if_neg h]; exact e
/-- one turn of the outer loop -/
theorem outer_turn (hG : ∀ x v, look x globs = some v → GlbOk K x v) (hint : nsIn K mainGlobals "int" = some none) (C : CxOk K p loose mean mg mb c n) (hnm : c.env.scope.names = poolNames) {N0 : List (Addr × Obj)} {fa : Addr} (T : Tail prog w c N0 fa 400 s m news) (hc : ∃ z t, m "cell" = some (.int z t))
    {Q : Flow → Shared → Prop} (post : ∀ f s' m' news', (f = .next ∧ Tail prog w c N0 fa 400 s' m' news') ∨ (f = .brk ∧ Tail prog w c N0 fa 460 s' m' news') → Q f s')
    {p1 p2 p3 p4 p5 p6 p7 p8 p9 p10 p11 p12 p13 p14 p15 p16 p17 p18 p19 p20 p21 p22 p23 p24 p25 p26 p27 p28 p29 p30 p31 p32 p33 p34 p35 p36 p37 p38 p39 p40 p41 p42 p43 p44 p45 p46 : Pos}
    (hb : methForm (.Name "figures" p1) [Expr.BinOp (.Name "rest" p3) .Mod (.Constant (.int 840) 0 p4) p5] p2.endLine p6.line = true) :
    wpAny (model prog w) c.A (execs [
      .Assign [.Name "big" p21] (.Call (.Name "int" p22) [.Name "cell" p23] [] p24) p25,
      .Assign [.Name "mix" p26] (.BinOp (.BinOp (.BinOp (.Name "mix" p27) .Mult (.Constant (.int 31) 0 p28) p29) .Add (.Name "big" p30) p31) .Mod (.Constant (.int 1009) 0 p32) p33) p34,
      .Assign [.Name "rest" p35] (.Call (.Name "abs" p36) [.Name "big" p37] [] p38) p39,
      .For (.Name "step" p16) (.Call (.Name "range" p17) [.Constant (.int 60) 0 p18] [] p19) [.Expr (.Call (.Attribute (.Name "figures" p1) "append" p2) [.BinOp (.Name "rest" p3) .Mod (.Constant (.int 840) 0 p4) p5] [] p6) p7,
        .AugAssign (.Name "rest" p8) .FloorDiv (.Constant (.int 840) 0 p9) p10,
        .If (.Compare (.Name "rest" p11) [.Eq] [.Constant (.int 0) 0 p12] p13) [.Break p14] [] p15] [] p20,
      .If (.Compare (.Call (.Name "len" p40) [.Name "figures" p41] [] p42) [.Gt] [.Constant (.int 400) 0 p43] p44) [.Break p45] [] p46] c.env) Q E s := by
  have kc : c.env.scope.names.lookup ("cell" : Str) = some .local := by rw [hnm]; rfl
  have kb : c.env.scope.names.lookup ("big" : Str) = some .local := by rw [hnm]; rfl
  have km : c.env.scope.names.lookup ("mix" : Str) = some .local := by rw [hnm]; rfl
  have kr : c.env.scope.names.lookup ("rest" : Str) = some .local := by rw [hnm]; rfl
  have kf : c.env.scope.names.lookup ("figures" : Str) = some .local := by rw [hnm]; rfl
  have ki : c.env.scope.names.lookup ("int" : Str) = some .globalImplicit := by rw [hnm]; rfl
  have ka : c.env.scope.names.lookup ("abs" : Str) = some .globalImplicit := by rw [hnm]; rfl
  have kl : c.env.scope.names.lookup ("len" : Str) = some .globalImplicit := by rw [hnm]; rfl
  obtain ⟨z, tz, hz⟩ := hc
  -- big = int(cell)
  refine wpAny_execs_cons (PySem.wpAny_Assign_Name (Call_ (nameInt hint C T.R ki ?_) rfl) rfl)
  refine PyProof.Rows.callWith_type1 (PyProof.Rows.spliced_more (nameL C T.R rfl kc hz (by decide) (PyProof.Rows.spliced_none (call_int_int ?_))) rfl) rfl rfl
  refine storeL C T.R rfl (show c.env.scope.names.lookup ("big" : Str) = some .local from kb) fun h1 tk1 R1 => ?_
  have T1 := T.store R1 (by decide) (by decide)
  have hb1 : (fun (y : Str) => if y = ("big" : Str) then some (Value.int z tz) else m y) ("big" : Str) = some (.int z tz) := if_pos rfl
  generalize (fun (y : Str) => if y = ("big" : Str) then some (Value.int z tz) else m y) = m1 at T1 hb1 R1
  -- mix
  obtain ⟨x, tx, hx, x0, x1⟩ := T1.mm
  refine wpAny_execs_cons (PySem.wpAny_Assign_Name (wpAny_BinOp (wpAny_BinOp (wpAny_BinOp (nameL C T1.R rfl km hx (by decide) (wpAny_Constant_int (PyProof.Rows.mul_int ?_ ?_)))))) rfl)
  rotate_left
  · mul_fits
  refine nameL C (T1.R.toks _) rfl kb hb1 (by decide) (add_int (wpAny_Constant_int (mod_int' (by omega) ?_)))
  refine storeL C (T1.R.toks _) rfl (show c.env.scope.names.lookup ("mix" : Str) = some .local from km) fun h2 tk2 R2 => ?_
  have hfm : 0 ≤ Int.fmod (x * 31 + z) 1009 ∧ Int.fmod (x * 31 + z) 1009 < 1009 := by
    rw [Int.fmod_eq_emod_of_nonneg _ (by omega)]; omega
  have T2 := (T1.toks 0).storeMix R2 hfm.1 hfm.2
  -- rest = abs(big)
  refine wpAny_execs_cons (PySem.wpAny_Assign_Name (Call_ (nameB hG C T2.R rfl ka (b := .abs) rfl (by decide) ?_) rfl) rfl)
  refine PyProof.Rows.callWith_builtin1 (PyProof.Rows.spliced_more (nameL C T2.R rfl kb (mset_other (by decide) hb1) (by decide) (PyProof.Rows.spliced_none (call_abs_int fun u tk3 => ?_))) rfl) rfl rfl
  refine storeL C (T2.R.toks tk3) rfl (show c.env.scope.names.lookup ("rest" : Str) = some .local from kr) fun h3 tk4 R3 => ?_
  have T3 := (T2.toks tk3).store R3 (by decide) (by decide)
  have habs : 0 ≤ (if z < 0 then -z else z) := by split <;> omega
  -- the figures
  refine wpAny_execs_cons (inner_for hG C hnm T3 (by omega) ⟨_, _, if_pos rfl, habs⟩ (fun s4 m4 news4 T4 => ?_) hb)
  obtain ⟨vs, ns, k, hm, hi, hl, hv⟩ := T4.fig
  have hvl : vs.length = ns.length := hi.length
  refine wpAny_execs_cons (PySem.wpAny_If (wpAny_isTrue_Compare1 (lenC hG C T4.R rfl kl rfl hm (by omega) (fun Q' hQ => nameL C T4.R rfl kf T4.mf (by decide) (hQ s4.toks)) fun tl tk5 => wpAny_Constant_int (gt_int (wpAny_truthy_bool ?_))) rfl))
  cases hgt : decide ((vs.length : Int) > 400) with
  | true =>
    rw [if_pos rfl]
    exact wpAny_execs_cons (wpAny_Break (post _ _ _ _ (.inr ⟨rfl, T4.toks _⟩)))
  | false =>
    rw [if_neg (by simp)]
    have hgt := of_decide_eq_false hgt
    have T5 := T4.toks (tk5 + 1)
    exact wpAny_execs_nil (wpAny_execs_nil (post _ _ _ _ (.inl ⟨rfl, T5.R, T5.keep, T5.fne, ⟨vs, ns, k, hm, hi, by omega, hv⟩, T5.mf, T5.mm⟩)))
end
end Mine

namespace Mine
open PySem PySem.W PyProof.Rows

section
variable {prog : Program} {w : World} {c : Cx} {s : Shared} {m : Str → Option Value} {news : List (Addr × Obj)} {E : Value → Shared → Prop}
  {K : Frag} {p : Program} {loose : List Str} {mean : ExcName → Option Value} {mg mb : Str → Option Value} {n : Nat}

noncomputable abbrev liter0 (l : Addr) : Obj := { cls := .type "list_iterator", data := .fields #[.ref l, .int 0 0] }
/-- the outer loop -/
theorem outer_for (hG : ∀ x v, look x globs = some v → GlbOk K x v) (hint : nsIn K mainGlobals "int" = some none) (C : CxOk K p loose mean mg mb c n) (hnm : c.env.scope.names = poolNames) {N0 : List (Addr × Obj)} {fa sa : Addr} (T : Tail prog w c N0 fa 400 s m news)
    (hsc : m "script" = some (.ref sa)) {us : List Value} {is : List Int} (hsl : s.heap.IsList sa us.toArray) (his : IntsAre us is) (hlen : us.length ≤ 100000)
    {Q : Flow → Shared → Prop} (post : ∀ s' m' news', Tail prog w c N0 fa 460 s' m' news' → Q .next s')
    {p1 p2 p3 p4 p5 p6 p7 p8 p9 p10 p11 p12 p13 p14 p15 p16 p17 p18 p19 p20 p21 p22 p23 p24 p25 p26 p27 p28 p29 p30 p31 p32 p33 p34 p35 p36 p37 p38 p39 p40 p41 p42 p43 p44 p45 p46 p47 p48 p49 p50 p51 p52 : Pos}
    (hb : methForm (.Name "figures" p1) [Expr.BinOp (.Name "rest" p3) .Mod (.Constant (.int 840) 0 p4) p5] p2.endLine p6.line = true) :
    wpAny (model prog w) c.A (exec (.For (.Name "cell" p47) (.Subscript (.Name "script" p48) (.Slice none (some (.Constant (.int 40) 0 p49)) none p50) p51) [
      .Assign [.Name "big" p21] (.Call (.Name "int" p22) [.Name "cell" p23] [] p24) p25,
      .Assign [.Name "mix" p26] (.BinOp (.BinOp (.BinOp (.Name "mix" p27) .Mult (.Constant (.int 31) 0 p28) p29) .Add (.Name "big" p30) p31) .Mod (.Constant (.int 1009) 0 p32) p33) p34,
      .Assign [.Name "rest" p35] (.Call (.Name "abs" p36) [.Name "big" p37] [] p38) p39,
      .For (.Name "step" p16) (.Call (.Name "range" p17) [.Constant (.int 60) 0 p18] [] p19) [.Expr (.Call (.Attribute (.Name "figures" p1) "append" p2) [.BinOp (.Name "rest" p3) .Mod (.Constant (.int 840) 0 p4) p5] [] p6) p7,
        .AugAssign (.Name "rest" p8) .FloorDiv (.Constant (.int 840) 0 p9) p10,
        .If (.Compare (.Name "rest" p11) [.Eq] [.Constant (.int 0) 0 p12] p13) [.Break p14] [] p15] [] p20,
      .If (.Compare (.Call (.Name "len" p40) [.Name "figures" p41] [] p42) [.Gt] [.Constant (.int 400) 0 p43] p44) [.Break p45] [] p46] [] p52) c.env) Q E s := by
  have ks : c.env.scope.names.lookup ("script" : Str) = some .local := by rw [hnm]; rfl
  have kc : c.env.kindOf ("cell" : Str) = some .local := by unfold Env.kindOf; rw [hnm]; rfl
  refine PySem.wpAny_For (Subscript_ (nameL C T.R rfl ks hsc (by decide) (wpAny_Slice (wpAny_evalPart_none (wpAny_evalPart_some (wpAny_Constant_int (wpAny_evalPart_none ?_))))))) (fun _ => folded_eq rfl)
  have T1 := T.toks (s.toks + 1)
  refine kmk_slice_ints (s := { s with toks := s.toks + 1 }) T1.R.F T1.R.N hsl .none (.int 40 _) his (kmk_upto his (by omega)) rfl (fun D ws h1 F1 N1 hlt hiw _ _ => ?_) rfl (fun _ => rfl) (sizeLine_ge (by rw [List.size_toArray]; omega))
  have T2 := T1.add (s.toks + 1) F1 N1 (fun q hq => Nat.ne_of_lt (hlt q hq))
  have hD : ∀ q ∈ N0, q.1 ≠ D := fun q hq => Nat.ne_of_lt (hlt q (T1.keep q hq))
  refine wpAny_pyIter_list (News.isList T2.R.N (.head _)) ?_
  have T3 := T2.add (s.toks + 1) (T2.R.F.push _) (News.push T2.R.F T2.R.N (liter0 D) rfl) T2.R.ne
  have hne : ∀ q ∈ (D, W.listOf ws.toArray 0) :: N0, q.1 ≠ h1.objs.size := fun q hq => T2.R.ne q (T2.keep q hq)
  generalize hit : h1.objs.size = it at hne
  refine codeAny_forLoop (fun j s => j ≤ ws.length ∧ ∃ m news o, Tail prog w c ((it, o) :: (D, W.listOf ws.toArray 0) :: N0) fa 400 s m news ∧ o.cls = .type "list_iterator" ∧ o.data = .fields #[.ref D, .int ((ws.length - j : Nat) : Int) 0]) ?_ ws.length
    ⟨Nat.le_refl _, m, _, liter0 D, hit ▸ T3, rfl, by rw [Nat.sub_self]; rfl⟩ (fun _ => rfl)
  rintro j s4 ⟨hj, m4, news4, o4, T4, hc4, hd4⟩
  have hi4 : s4.heap.IsListIter it D (ws.length - j) := ⟨o4, T4.R.N.get (T4.keep _ (.head _)), hc4, hd4⟩
  have hl4 : s4.heap.IsList D ws.toArray := News.isList T4.R.N (T4.keep _ (.tail _ (.head _)))
  cases j with
  | zero =>
    refine wpAny_pyNext_list_end C.hh hi4 hl4 (by simp) fun h5 hx => ?_
    obtain ⟨news5, T5⟩ := T4.lose hne hx s4.toks
    exact wpAny_execs_nil (post _ _ _ (T5.drop.mono (by omega)))
  | succ j =>
    obtain ⟨z, t, hz, _⟩ := ints_at hiw (i := ws.length - (j + 1)) (by rw [← hiw.length]; omega)
    refine wpAny_pyNext_list_item hi4 hl4 (x := .int z t) (by rw [List.getElem?_toArray]; exact hz) fun h5 ⟨o5, ho5, hc5, hd5⟩ hx => ?_
    have T5 := T4.turn (o' := o5) hne hx.extBut ho5 s4.toks
    refine wpAny_assign_Name (storeL C T5.R rfl kc fun h6 tk6 R6 => ?_)
    have T6 := T5.store R6 (by decide) (by decide)
    refine outer_turn hG hint C hnm T6 ⟨z, t, if_pos rfl⟩ (fun f s7 m7 news7 hf => ?_) hb
    rcases hf with ⟨rfl, T7⟩ | ⟨rfl, T7⟩
    · refine ⟨j, Nat.lt_succ_self _, by omega, m7, news7, o5, T7, hc5, ?_⟩
      rw [hd5]
      have : ws.length - (j + 1) + 1 = ws.length - j := by omega
      rw [this]
    · exact post _ _ _ T7.drop.drop
end
end Mine

namespace Mine
open PySem PySem.W PyProof.Rows
theorem form_475 (P : Params) : FormOk (fdAt P 475) (mkFn 475 (top 34) 1 []) := by unfold FormOk; kernel_rfl
theorem addr_475 : (mkFn 475 (top 34) 1 []).addr = 475 := by kernel_rfl
theorem argc_475 : (mkFn 475 (top 34) 1 []).argc = 1 := by kernel_rfl
theorem extra_475 : (mkFn 475 (top 34) 1 []).extra = [] := by kernel_rfl
theorem isfd_475 (P : Params) : isFd (List.lookup 475 (KF P)) = true := by kernel_rfl
theorem code_475 (P : Params) : codeIn (KF P) (fdAt P 475).code (fdAt P 475).qualname = true := by kernel_rfl
theorem bind_475 (P : Params) (a : Value) : bindArgs (fdAt P 475) ⟨[a], []⟩ = pure ((mkFn 475 (top 34) 1 []).params.zip ([a] ++ [])) := by kernel_rfl
theorem chk_475 : Checks (mkFn 475 (top 34) 1 []) := ⟨by decide +kernel, by decide +kernel, by decide +kernel, by decide +kernel, by decide +kernel, by decide +kernel, by decide +kernel⟩
theorem ok_475 (P : Params) : FnOk (KF P) (mkFn 475 (top 34) 1 []) := fnOk_of P (F := mkFn 475 (top 34) 1 []) addr_475 argc_475 extra_475 (isfd_475 P) (form_475 P) (code_475 P) (fun s G vs X h => ⟨[], .nil, by obtain ⟨a, rfl⟩ := len1 h; have h1 := bind_475 P a; generalize (mkFn 475 (top 34) 1 []).params.zip ([a] ++ []) = bs at h1 ⊢; generalize fdAt P 475 = fd at h1 ⊢; exact BindsTo.of_eq h1⟩) chk_475
noncomputable def poolFn : Fn := mkFn 475 (top 34) 1 []
theorem poolBody : poolFn.body = [stmtAt 34 0, stmtAt 34 1, stmtAt 34 2, stmtAt 34 3] := by kernel_rfl
theorem poolScope : poolFn.scope.names = poolNames := by kernel_rfl
theorem poolParams : poolFn.params = [("script" : Str)] := by kernel_rfl
theorem poolS0 : ∃ p1 p2 p3, stmtAt 34 0 = .Assign [.Name "figures" p1] (.List [] p2) p3 := ⟨_, _, _, rfl⟩
theorem poolS1 : ∃ p1 p2 p3, stmtAt 34 1 = .Assign [.Name "mix" p1] (.Constant (.int 5) 0 p2) p3 := ⟨_, _, _, rfl⟩
theorem poolS2 : ∃ p1 p2 p3 p4 p5 p6 p7 p8 p9 p10 p11 p12 p13 p14 p15 p16 p17 p18 p19 p20 p21 p22 p23 p24 p25 p26 p27 p28 p29 p30 p31 p32 p33 p34 p35 p36 p37 p38 p39 p40 p41 p42 p43 p44 p45 p46 p47 p48 p49 p50 p51 p52 : Pos,
    methForm (.Name "figures" p1) [Expr.BinOp (.Name "rest" p3) .Mod (.Constant (.int 840) 0 p4) p5] p2.endLine p6.line = true ∧
    stmtAt 34 2 = (.For (.Name "cell" p47) (.Subscript (.Name "script" p48) (.Slice none (some (.Constant (.int 40) 0 p49)) none p50) p51) [
      .Assign [.Name "big" p21] (.Call (.Name "int" p22) [.Name "cell" p23] [] p24) p25,
      .Assign [.Name "mix" p26] (.BinOp (.BinOp (.BinOp (.Name "mix" p27) .Mult (.Constant (.int 31) 0 p28) p29) .Add (.Name "big" p30) p31) .Mod (.Constant (.int 1009) 0 p32) p33) p34,
      .Assign [.Name "rest" p35] (.Call (.Name "abs" p36) [.Name "big" p37] [] p38) p39,
      .For (.Name "step" p16) (.Call (.Name "range" p17) [.Constant (.int 60) 0 p18] [] p19) [.Expr (.Call (.Attribute (.Name "figures" p1) "append" p2) [.BinOp (.Name "rest" p3) .Mod (.Constant (.int 840) 0 p4) p5] [] p6) p7,
        .AugAssign (.Name "rest" p8) .FloorDiv (.Constant (.int 840) 0 p9) p10,
        .If (.Compare (.Name "rest" p11) [.Eq] [.Constant (.int 0) 0 p12] p13) [.Break p14] [] p15] [] p20,
      .If (.Compare (.Call (.Name "len" p40) [.Name "figures" p41] [] p42) [.Gt] [.Constant (.int 400) 0 p43] p44) [.Break p45] [] p46] [] p52) :=
  ⟨_, _, _, _, _, _, _, _, _, _, _, _, _, _, _, _, _, _, _, _, _, _, _, _, _, _, _, _, _, _, _, _, _, _, _, _, _, _, _, _, _, _, _, _, _, _, _, _, _, _, _, _, rfl, rfl⟩
theorem poolS3 : ∃ p1 p2 p3 p4 p5, stmtAt 34 3 = .Return (some (.List [.Name "figures" p1, .Constant (.int 0) 0 p2, .Name "mix" p3] p4)) p5 := ⟨_, _, _, _, _, rfl⟩
end Mine

namespace Mine
open PySem PySem.W PyProof.Rows

/-- what a pool is, behind the call -/
noncomputable def PoolFacts (N0 news : List (Addr × Obj)) (pa fa : Addr) : Prop := (∀ q ∈ N0, q ∈ news) ∧ (∀ q ∈ N0, q.1 ≠ fa ∧ q.1 ≠ pa) ∧ fa ≠ pa ∧
  (∃ x t u k, (pa, W.listOf #[.ref fa, .int 0 t, .int x u] k) ∈ news ∧ 0 ≤ x ∧ x < 1009) ∧
  (∃ vs ns k, (fa, W.listOf vs.toArray k) ∈ news ∧ IntsAre vs ns ∧ ns.length ≤ 460 ∧ ∀ i ∈ ns, 0 ≤ i ∧ i < 840)
theorem isList_keep {h h' : Heap} {a : Addr} {its : Array Value} (x : h.IsList a its) (k : ∀ b o, h.get? b = some o → h'.get? b = some o) : h'.IsList a its :=
  let ⟨o, ho, r⟩ := x; ⟨o, k _ _ ho, r⟩

section
variable {prog : Program} {w : World} {c : Cx} {s : Shared} {m : Str → Option Value} {news : List (Addr × Obj)} {E : Value → Shared → Prop}
  {K : Frag} {p : Program} {loose : List Str} {mean : ExcName → Option Value} {mg mb : Str → Option Value} {n : Nat}

theorem pool_body (hG : ∀ x v, look x globs = some v → GlbOk K x v) (hint : nsIn K mainGlobals "int" = some none) (C : CxOk K p loose mean mg mb c n) (hnm : c.env.scope.names = poolNames) (R : RelAt prog w c g0 b0 s m news) {sa : Addr}
    (hsc : m "script" = some (.ref sa)) {us : List Value} {is : List Int} (hsl : c.h₀.IsList sa us.toArray) (his : IntsAre us is) (hlen : us.length ≤ 100000)
    {Q : Flow → Shared → Prop} (post : ∀ s' m' news' pa fa, RelAt prog w c g0 b0 s' m' news' → PoolFacts news news' pa fa → Q (.ret (.ref pa)) s') :
    wpAny (model prog w) c.A (execs [stmtAt 34 0, stmtAt 34 1, stmtAt 34 2, stmtAt 34 3] c.env) Q E s := by
  have kf : c.env.scope.names.lookup ("figures" : Str) = some .local := by rw [hnm]; rfl
  have km : c.env.scope.names.lookup ("mix" : Str) = some .local := by rw [hnm]; rfl
  obtain ⟨a1, a2, a3, e0⟩ := poolS0
  obtain ⟨b1, b2, b3, e1⟩ := poolS1
  obtain ⟨p1, p2, p3, p4, p5, p6, p7, p8, p9, p10, p11, p12, p13, p14, p15, p16, p17, p18, p19, p20, p21, p22, p23, p24, p25, p26, p27, p28, p29, p30, p31, p32, p33, p34, p35, p36, p37, p38, p39, p40, p41, p42, p43, p44, p45, p46, p47, p48, p49, p50, p51, p52, hb, e2⟩ := poolS2
  obtain ⟨d1, d2, d3, d4, d5, e3⟩ := poolS3
  rw [e0, e1, e2, e3]
  refine wpAny_execs_cons (PySem.wpAny_Assign_Name (List_ (PyProof.Rows.spliced_none (newList_K R.F R.N (fun D h1 F1 N1 hlt => ?_) (sizeLine_ge (by simp))))) rfl)
  have R1 := bare_new R s.toks F1 N1 (fun q hq => Nat.ne_of_lt (hlt q hq))
  refine storeL C R1 rfl (show c.env.scope.names.lookup ("figures" : Str) = some .local from kf) fun h2 tk2 R2 => ?_
  refine wpAny_execs_cons (PySem.wpAny_Assign_Name (wpAny_Constant_int ?_) rfl)
  refine storeL C (R2.toks _) rfl (show c.env.scope.names.lookup ("mix" : Str) = some .local from km) fun h3 tk3 R3 => ?_
  have T3 : Tail prog w c news D 400 { s with heap := h3, toks := tk3 } _ ((D, W.listOf #[] 0) :: news) :=
    ⟨R3, fun q hq => .tail _ hq, fun q hq => Nat.ne_of_lt (hlt q hq), ⟨[], [], 0, .head _, .nil, by simp, fun i hi => nomatch hi⟩, (by
      show (if ("figures" : Str) = ("mix" : Str) then _ else if ("figures" : Str) = ("figures" : Str) then _ else _) = _
      rw [if_neg (by decide), if_pos rfl]), ⟨5, _, if_pos rfl, by omega, by omega⟩⟩
  refine wpAny_execs_cons (outer_for hG hint C hnm T3 (by
    show (if ("script" : Str) = ("mix" : Str) then _ else if ("script" : Str) = ("figures" : Str) then _ else _) = _
    rw [if_neg (by decide), if_neg (by decide)]; exact hsc) (isList_keep hsl T3.R.F.keep) his hlen (fun s4 m4 news4 T4 => ?_) hb)
  obtain ⟨x, tx, hx, x0, x1⟩ := T4.mm
  refine wpAny_execs_cons (wpAny_Return_some (List_ (PyProof.Rows.spliced_more (nameL C T4.R rfl kf T4.mf (by decide) (PyProof.Rows.spliced_more (wpAny_Constant_int (PyProof.Rows.spliced_more (nameL C (T4.R.toks _) rfl km hx (by decide) (PyProof.Rows.spliced_none ?_)) rfl)) rfl)) rfl)))
  have T5 := T4.toks (s4.toks + 1)
  refine newList_K T5.R.F T5.R.N (fun D' h5 F5 N5 hlt5 => ?_) (sizeLine_ge (by simp))
  obtain ⟨vs, ns, k, hm, hr⟩ := T4.fig
  refine post _ _ _ D' D (bare_new T5.R _ F5 N5 (fun q hq => Nat.ne_of_lt (hlt5 q hq))) ⟨fun q hq => .tail _ (T4.keep q hq), fun q hq => ⟨T4.fne q hq, Nat.ne_of_lt (hlt5 q (T4.keep q hq))⟩, Nat.ne_of_lt (hlt5 _ hm), ⟨x, _, tx, 0, .head _, x0, x1⟩, ⟨vs, ns, k, .tail _ hm, hr⟩⟩
end
end Mine

namespace Mine
open PySem PySem.W PyProof.Rows

section
variable {prog : Program} {w : World} {c : Cx} {s : Shared} {m : Str → Option Value} {news : List (Addr × Obj)} {E : Value → Shared → Prop}
  {p : Program} {loose : List Str} {mean : ExcName → Option Value} {mg mb : Str → Option Value} {n : Nat}

theorem int_ok (P : Params) : nsIn (KF P) mainGlobals "int" = some none := by kernel_rfl
theorem poolG_ok (P : Params) : nsIn (KF P) mainGlobals "_law_pool" = some (some (.ref 475)) := by kernel_rfl
theorem poolK_ok (P : Params) : keepIn (KF P) (.ref 475) = true := by kernel_rfl

/-- the reader's call -/
theorem pool_call (P : Params) (C : CxOk (KF P) p loose mean mg mb c (n + 1)) (R : RelAt prog w c g0 b0 s m news) {sa : Addr} {us : List Value} {is : List Int} (hsl : c.h₀.IsList sa us.toArray) (his : IntsAre us is) (hlen : us.length ≤ 100000)
    {Q : Value → Shared → Prop} (post : ∀ s' news' pa fa, RelAt prog w c g0 b0 s' m news' → PoolFacts news news' pa fa → Q (.ref pa) s') : wpAny (model prog w) c.A (call (.ref 475) [.ref sa]) Q E s := by
  have ok : FnOk (KF P) poolFn := ok_475 P
  refine wpAny_call ?_
  have hadr : poolFn.addr = 475 := by kernel_rfl
  obtain ⟨name, qual, params, dV, kV, doc, pm, cdv, ct, oc, an, od, osl, hlook, hcode, hb⟩ := ok.at_
  rw [hadr] at hlook
  obtain ⟨exv, hex, hbinds⟩ := hb s g0 [.ref sa] (C.X.keeps R.F.keep) (by kernel_rfl)
  have hex0 : exv = [] := by
    have e : poolFn.extra = [] := by kernel_rfl
    rw [e] at hex
    cases hex
    rfl
  subst hex0
  refine code_defC C.B R.F C.X R.N C.T C.hA C.hf C.hk hlook hcode (by have := C.dep; omega) hbinds ?_ ok.nodup ?_ ok.co ok.gen ok.kind
  · rw [List.all_eq_true]
    intro y hy
    have hm : y.1 ∈ poolFn.params := (List.of_mem_zip hy).1
    rcases ok.kinds _ hm with e | e <;> rw [e] <;> rfl
  · intro g L' h₁ tk cells FG F' N' Y B' XG TG l
    have hk : (envOfC qual poolFn.scope L' 475 cdv).kindOf ("script" : Str) = some .local := by
      show poolFn.scope.names.lookup ("script" : Str) = _
      rw [poolScope]; rfl
    rw [poolParams] at F'
    have hF : bindL (envOfC qual poolFn.scope L' 475 cdv).kindOf ([("script" : Str)].zip ([.ref sa] ++ [])) (fun _ => none) = fun y => if y = ("script" : Str) then some (Value.ref sa) else none := by
      show (if (envOfC qual poolFn.scope L' 475 cdv).kindOf ("script" : Str) = some .local then fun (y : Str) => if y = ("script" : Str) then some (Value.ref sa) else none else fun _ => none) = _
      rw [if_pos hk]
    rw [hF] at F'
    have R2 : RelAt prog w { A := c.A.deeper (envOfC qual poolFn.scope L' 475 cdv), A₀ := c.A, base := c.base, h₀ := g, outer := c.fenv :: c.outer, fenv := envOfC qual poolFn.scope L' 475 cdv, L := L', env := envOfC qual poolFn.scope L' 475 cdv, gens := c.gens, drawn := c.drawn, os := c.os } g0 b0 { s with heap := h₁, toks := tk }
        (fun y => if y = ("script" : Str) then some (Value.ref sa) else none) news :=
      ⟨F', fun q hq => N' q (List.mem_append.mpr (.inr hq)), R.nd, R.n, R.nS, R.nT, (fun x a e => nomatch e), (fun i o e => nomatch e), (fun i j oi oj a e => nomatch e), (fun x h e => nomatch e), ⟨rfl, qual, poolFn.scope, 475, cdv, _, rfl⟩, R.gens, R.drawn, R.os⟩
    have C2 : CxOk (KF P) p loose mean mg mb { A := c.A.deeper (envOfC qual poolFn.scope L' 475 cdv), A₀ := c.A, base := c.base, h₀ := g, outer := c.fenv :: c.outer, fenv := envOfC qual poolFn.scope L' 475 cdv, L := L', env := envOfC qual poolFn.scope L' 475 cdv, gens := c.gens, drawn := c.drawn, os := c.os } n :=
      ⟨B', XG, TG, Around.frames_deeper C.hA, rfl, rfl, ok.kind, C.hh, by have := C.dep; show c.A.depth + 1 + 2 * n + 8 < recursionLimit; omega, by have := C.uni; show c.A.units + 3 + 8 * n + 80 < cLine; omega, ok.kind, rfl⟩
    rw [poolBody]
    refine pool_body (kok P).base.glb (int_ok P) C2 poolScope R2 (if_pos rfl) (isList_keep hsl FG.keep) his hlen fun s3 m3 news3 pa fa R3 hp => ?_
    exact leaveK_ R3.F R3.N fun F3 N3 => post s3 news3 pa fa ⟨F3, N3, R3.nd, R.n, R.nS, R.nT, (fun x a e => nomatch e), (fun i o e => nomatch e), (fun i j oi oj a e => nomatch e), R.cl, R.cf, R3.gens, R3.drawn, R3.os⟩ hp
end
end Mine

namespace Mine
open PySem
noncomputable def lawFn : Fn := mkFn 494 (top 37) 1 []
noncomputable def st0 : St := ⟨3, .node (some (.pool 2)) (.node (some (.cell Option.none)) .nil .nil) (.node (some .figs) .nil .nil), 0, 0, [("pool", .ref 0)], [("code", 1)], Option.none⟩
noncomputable def kFin (fl : AF) (_ : St) : Dt := match fl with
  | .ret (.bool true) => .ok
  | _ => .bad
noncomputable def dropS : Nat → List Stmt → List Stmt
  | 0, l => l
  | _ + 1, [] => []
  | n + 1, _ :: r => dropS n r
noncomputable def lawD (n : Nat) : Dt := evSs (run n) lawFn.scope.names (dropS 1 lawFn.body) st0 kFin
noncomputable def allB : Nat → (Nat → Bool) → Bool
  | 0, _ => true
  | n + 1, g => match g n with
    | true => allB n g
    | false => false
noncomputable def allOk : Nat → Dt → Bool
  | 0, _ => false
  | d + 1, t => match t with
    | .ok => true
    | .bad => false
    | .split b f => allB b fun c => allOk d (f c)
/-- a way: at each split its width and the branch; then all branches -/
noncomputable def okAt : List (Nat × Nat) → Dt → Bool
  | [], t => allOk 3 t
  | p :: r, t => match t with
    | .split b f => match Nat.beq p.1 b with
      | true => okAt r (f p.2)
      | false => false
    | _ => false
theorem allB_ok : ∀ {n : Nat} {g : Nat → Bool}, allB n g = true → ∀ c, c < n → g c = true
  | 0, _, _, _, h => absurd h (Nat.not_lt_zero _)
  | n + 1, g, h, c, hc => by
    unfold allB at h
    cases e : g n with
    | false => rw [e] at h; cases h
    | true =>
      rw [e] at h
      rcases Nat.lt_succ_iff_lt_or_eq.mp hc with hc | rfl
      · exact allB_ok h c hc
      · exact e
theorem allOk_ok : ∀ {d : Nat} {t : Dt}, allOk d t = true → t.Tr
  | 0, _, h => by cases h
  | d + 1, .ok, _ => trivial
  | d + 1, .bad, h => by cases h
  | d + 1, .split b f, h => fun c hc => allOk_ok (allB_ok h c hc)
theorem okAt_split {b : Nat} {r : List (Nat × Nat)} {c : Nat} {t : Dt} (h : okAt ((b, c) :: r) t = true) : ∃ f, t = .split b f ∧ okAt r (f c) = true := by
  cases t with
  | ok => cases h
  | bad => cases h
  | split b' f =>
    unfold okAt at h
    dsimp only at h
    cases e : Nat.beq b b' with
    | false => rw [e] at h; cases h
    | true =>
      rw [e] at h
      have := Nat.eq_of_beq_eq_true e
      subst this
      exact ⟨f, rfl, h⟩
theorem split_all {b : Nat} {t : Dt} (r : Nat → Nat → List (Nat × Nat)) (hb : 0 < b) {P : Dt → Prop} (h : ∀ c, c < b → ∃ f, t = .split b f ∧ P (f c)) : ∃ f, t = .split b f ∧ ∀ c, c < b → P (f c) := by
  obtain ⟨f, hf, _⟩ := h 0 hb
  refine ⟨f, hf, fun c hc => ?_⟩
  obtain ⟨f', hf', hp⟩ := h c hc
  rw [hf] at hf'
  cases hf'
  exact hp

theorem way_aaa : okAt [(2, 0), (4, 0), (2, 0)] (lawD 200) = true := by decide +kernel
theorem way_aab : okAt [(2, 0), (4, 0), (2, 1)] (lawD 200) = true := by decide +kernel
theorem way_aba : okAt [(2, 0), (4, 1), (2, 0)] (lawD 200) = true := by decide +kernel
theorem way_abb : okAt [(2, 0), (4, 1), (2, 1)] (lawD 200) = true := by decide +kernel
theorem way_aca : okAt [(2, 0), (4, 2), (2, 0)] (lawD 200) = true := by decide +kernel
theorem way_acb : okAt [(2, 0), (4, 2), (2, 1)] (lawD 200) = true := by decide +kernel
theorem way_ada : okAt [(2, 0), (4, 3), (2, 0)] (lawD 200) = true := by decide +kernel
theorem way_adb : okAt [(2, 0), (4, 3), (2, 1)] (lawD 200) = true := by decide +kernel
theorem way_baa : okAt [(2, 1), (4, 0), (2, 0)] (lawD 200) = true := by decide +kernel
theorem way_bab : okAt [(2, 1), (4, 0), (2, 1)] (lawD 200) = true := by decide +kernel
theorem way_bba : okAt [(2, 1), (4, 1), (2, 0)] (lawD 200) = true := by decide +kernel
theorem way_bbb : okAt [(2, 1), (4, 1), (2, 1)] (lawD 200) = true := by decide +kernel
theorem way_bca : okAt [(2, 1), (4, 2), (2, 0)] (lawD 200) = true := by decide +kernel
theorem way_bcb : okAt [(2, 1), (4, 2), (2, 1)] (lawD 200) = true := by decide +kernel
theorem way_bda : okAt [(2, 1), (4, 3), (2, 0)] (lawD 200) = true := by decide +kernel
theorem way_bdb : okAt [(2, 1), (4, 3), (2, 1)] (lawD 200) = true := by decide +kernel
end Mine

namespace Mine
open PySem PySem.W PyProof.Rows

theorem lt2 {c : Nat} (h : c < 2) : c = 0 ∨ c = 1 := by omega
theorem lt4 {c : Nat} (h : c < 4) : c = 0 ∨ c = 1 ∨ c = 2 ∨ c = 3 := by omega
theorem ways (u c v : Nat) (hu : u < 2) (hc : c < 4) (hv : v < 2) : okAt [(2, u), (4, c), (2, v)] (lawD 200) = true := by
  rcases lt2 hu with rfl | rfl <;> rcases lt4 hc with rfl | rfl | rfl | rfl <;> rcases lt2 hv with rfl | rfl
  · exact way_aaa
  · exact way_aab
  · exact way_aba
  · exact way_abb
  · exact way_aca
  · exact way_acb
  · exact way_ada
  · exact way_adb
  · exact way_baa
  · exact way_bab
  · exact way_bba
  · exact way_bbb
  · exact way_bca
  · exact way_bcb
  · exact way_bda
  · exact way_bdb
theorem lawD_tr : (lawD 200).Tr := by
  have h1 : ∀ u c v, u < 2 → c < 4 → v < 2 → okAt [(2, u), (4, c), (2, v)] (lawD 200) = true := ways
  generalize lawD 200 = t at h1
  obtain ⟨f, rfl, _⟩ := okAt_split (h1 0 0 0 (by omega) (by omega) (by omega))
  intro u hu
  have h2 : ∀ c v, c < 4 → v < 2 → okAt [(4, c), (2, v)] (f u) = true := fun c v hc hv => by
    obtain ⟨f', e, h⟩ := okAt_split (h1 u c v hu hc hv)
    cases e
    exact h
  generalize f u = t at h2
  obtain ⟨f, rfl, _⟩ := okAt_split (h2 0 0 (by omega) (by omega))
  intro c hc
  have h3 : ∀ v, v < 2 → okAt [(2, v)] (f c) = true := fun v hv => by
    obtain ⟨f', e, h⟩ := okAt_split (h2 c v hc hv)
    cases e
    exact h
  generalize f c = t at h3
  obtain ⟨f, rfl, _⟩ := okAt_split (h3 0 (by omega))
  intro v hv
  obtain ⟨f', e, h⟩ := okAt_split (h3 v hv)
  cases e
  exact allOk_ok h

theorem st0_get {i : Nat} {o : AO} (h : st0.hp.get i = some o) : (i = 0 ∧ o = .pool 2) ∨ (i = 1 ∧ o = .cell none) ∨ (i = 2 ∧ o = .figs) := by
  unfold st0 at h
  dsimp only at h
  rw [Tr.get_node] at h
  by_cases e : i = 0
  · rw [if_pos e] at h; exact .inl ⟨e, (Option.some.inj h).symm⟩
  · rw [if_neg e] at h
    by_cases q : i % 2 = 1
    · rw [if_pos q, Tr.get_node] at h
      by_cases z : i / 2 = 0
      · rw [if_pos z] at h; exact .inr (.inl ⟨by omega, (Option.some.inj h).symm⟩)
      · rw [if_neg z] at h; split at h <;> cases h
    · rw [if_neg q, Tr.get_node] at h
      by_cases z : i / 2 - 1 = 0
      · rw [if_pos z] at h; exact .inr (.inr ⟨by omega, (Option.some.inj h).symm⟩)
      · rw [if_neg z] at h; split at h <;> cases h
theorem lawBody : lawFn.body = stmtAt 37 0 :: dropS 1 lawFn.body := by kernel_rfl
theorem lawS0 : ∃ p1 p2 p3 p4 p5, stmtAt 37 0 = .Assign [.Name "pool" p1] (.Call (.Name "_law_pool" p2) [.Name "script" p3] [] p4) p5 := ⟨_, _, _, _, _, rfl⟩

section
variable {prog : Program} {w : World} {c : Cx} {s : Shared} {m : Str → Option Value} {news : List (Addr × Obj)} {E : Value → Shared → Prop}
  {p : Program} {loose : List Str} {mean : ExcName → Option Value} {mg mb : Str → Option Value} {n : Nat}
/-- the whole of the law -/
theorem law_all (P : Params) (C : CxOk (KF P) p loose mean mg mb c 200) (hnm : c.env.scope.names = lawFn.scope.names) {ca : Addr} {co : Obj} {u : Option Value} (R : RelAt prog w c g0 b0 s m [(ca, co)]) (hco : co.data = .cell u) (hcell : c.env.cells.lookup ("code" : Str) = some ca)
    {sa : Addr} {us : List Value} {is : List Int} (hsc : m "script" = some (.ref sa)) (hsl : c.h₀.IsList sa us.toArray) (his : IntsAre us is) (hlen : us.length ≤ 100000)
    {Q : Flow → Shared → Prop} (post : ∀ s', (∀ b o, c.h₀.get? b = some o → s'.heap.get? b = some o) → s'.os = c.os → s'.gens = c.gens → Q (.ret (.bool true)) s') : wpAny (model prog w) c.A (execs lawFn.body c.env) Q E s := by
  rw [lawBody]
  obtain ⟨p1, p2, p3, p4, p5, e0⟩ := lawS0
  rw [e0]
  have kp : c.env.scope.names.lookup ("pool" : Str) = some .local := by rw [hnm]; kernel_rfl
  have ks : c.env.scope.names.lookup ("script" : Str) = some .local := by rw [hnm]; kernel_rfl
  have kg : c.env.kindOf ("_law_pool" : Str) = some .globalImplicit := by
    show c.env.scope.names.lookup _ = _
    rw [hnm]; kernel_rfl
  refine wpAny_execs_cons (PySem.wpAny_Assign_Name (Call_ (nameG_K R.F C.X (topRead_of C.T) (poolG_ok P) ?_ C.eg C.ek kg (by decide)) rfl) rfl)
  refine callWith_K C.X (poolK_ok P) (PyProof.Rows.spliced_more (nameL C R rfl ks hsc (by decide) (PyProof.Rows.spliced_none ⟨C.X.keeps R.F.keep, ?_⟩)) rfl) rfl rfl
  refine pool_call (n := 199) P C R hsl his hlen fun s2 news2 pa fa R2 hp => ?_
  refine storeL C R2 rfl (show c.env.scope.names.lookup ("pool" : Str) = some .local from kp) fun h3 tk3 R3 => ?_
  obtain ⟨h1, h2, hne, ⟨x, t, u', k, hpm, x0, x1⟩, ⟨vs, ns, k2, hfm, hfi, hfl, hfr⟩⟩ := hp
  have hca := h1 _ (.head _)
  obtain ⟨nf, np⟩ := h2 _ (.head _)
  dsimp only at nf np
  have R4 : RelAt prog w c ⟨[pa, ca, fa], [], []⟩ st0 { s2 with heap := h3, toks := tk3 } (fun y => if y = ("pool" : Str) then some (.ref pa) else m y) news2 := by
    refine ⟨R3.F, R3.N, R3.nd, rfl, rfl, rfl, fun y a e => ?_, fun i o e hn => ?_, fun i j oi oj a ei hi ej hj ri rj => ?_, fun y h e => ?_, R3.cf, R3.gens, R3.drawn, R3.os⟩
    · have e : look y [(("pool" : Str), AV.ref 0)] = some a := e
      unfold look at e
      cases q : strEq y (("pool" : Str), AV.ref 0).1 with
      | false => rw [q] at e; cases e
      | true =>
        rw [q] at e
        cases e
        have q := (strEq_iff _ _).mp q
        exact ⟨.ref pa, if_pos q, pa, rfl, rfl⟩
    · rcases st0_get e with ⟨rfl, rfl⟩ | ⟨rfl, rfl⟩ | ⟨rfl, rfl⟩
      · exact ⟨pa, _, rfl, hpm, fa, 0, x, t, u', k, rfl, rfl, by omega, by omega, x0, x1⟩
      · exact ⟨ca, co, rfl, hca, u, hco, trivial⟩
      · exact ⟨fa, _, rfl, hfm, vs, ns, k2, rfl, hfi, by omega, hfr⟩
    · rcases st0_get ei with ⟨rfl, _⟩ | ⟨rfl, _⟩ | ⟨rfl, _⟩ <;> rcases st0_get ej with ⟨rfl, _⟩ | ⟨rfl, _⟩ | ⟨rfl, _⟩ <;> first
        | rfl
        | (exfalso
           have ri := Option.some.inj ri
           have rj := Option.some.inj rj
           first
             | exact np (rj.trans ri.symm) | exact np (ri.trans rj.symm) | exact nf (ri.trans rj.symm) | exact nf (rj.trans ri.symm) | exact hne (ri.trans rj.symm) | exact hne (rj.trans ri.symm))
    · have e : look y [(("code" : Str), 1)] = some h := e
      unfold look at e
      cases q : strEq y (("code" : Str), 1).1 with
      | false => rw [q] at e; cases e
      | true =>
        rw [q] at e
        cases e
        have q := (strEq_iff _ _).mp q
        exact ⟨ca, q ▸ hcell, rfl⟩
  have S := snd_all (prog := prog) (w := w) (p := p) (loose := loose) (mean := mean) (mg := mg) (mb := mb) (kok P) (pick_ok P) 200
  refine evSs_ok (k := kFin) S C (dropS 1 lawFn.body) R4.rel ?_ fun G' st' s' fl f le R' hf t' => ?_
  · rw [hnm]; exact lawD_tr
  · cases fl with
    | next => exact t'.elim
    | brk => exact t'.elim
    | cont => exact t'.elim
    | ret a =>
      obtain ⟨v, rfl, hv⟩ := hf
      cases a <;> try exact t'.elim
      case bool b =>
        cases b with
        | false => exact t'.elim
        | true =>
          cases hv
          obtain ⟨m5, news5, R5⟩ := R'
          exact post s' R5.F.keep R5.os R5.gens
end
end Mine

namespace Mine
open PySem PySem.W PyProof.Rows
theorem law_conv {M : Model} {A : Around} {Q : Flow → Shared → Prop} {E : Value → Shared → Prop} {s : Shared} {env : Env} {b b' : List Stmt} (e : b = b') (h : wpAny M A (execs b' env) Q E s) : wpAny M A (execs b env) Q E s := e ▸ h
theorem law_start {prog : Program} {w : World} {P : Params} {p : Program} {loose : List Str} {mean : ExcName → Option Value} {mg mb : Str → Option Value} {s₁ : Shared} {h₁ : Heap} {tk₁ : Nat} {cn : Str} {sc : Scope} {fa : Addr} {cdv : Value} {m : Str → Option Value} {co : Obj} {u : Option Value} {sa : Addr}
    {us : List Value} {is : List Int} (K0 : Below callerA s₁.heap [] s₁.heap) (X : (KF P).In s₁.heap) (T : Top p loose mean mg mb s₁.heap) (F : Fr s₁.heap s₁.heap.objs.size h₁ m) (N : News s₁.heap s₁.heap.objs.size h₁ [(s₁.heap.objs.size + 1, co)]) (hco : co.data = .cell u)
    (hsn : sc.names = lawFn.scope.names) (hsk : sc.kind = .function) (hm : m "script" = some (.ref sa)) (hL : s₁.heap.IsList sa us.toArray) (hI : IntsAre us is) (hlen : is.length ≤ 63)
    {Q : Flow → Shared → Prop} {E : Value → Shared → Prop} (post : ∀ s', (∀ b o, s₁.heap.get? b = some o → s'.heap.get? b = some o) → s'.os = s₁.os → s'.gens = s₁.gens → Q (.ret (.bool true)) s') :
    wpAny (model prog w) (callerA.deeper (envOfC cn sc s₁.heap.objs.size fa cdv)) (execs lawFn.body (envOfC cn sc s₁.heap.objs.size fa cdv)) Q E { heap := h₁, gens := s₁.gens, drawn := s₁.drawn, toks := tk₁, os := s₁.os } := by
  have hcell : (envOfC cn sc s₁.heap.objs.size fa cdv).cells.lookup ("code" : Str) = some (s₁.heap.objs.size + 1) := by
    show (cellsFrom (s₁.heap.objs.size + 1) sc.names []).lookup ("code" : Str) = _
    rw [hsn]
    kernel_rfl
  refine law_all (s := { heap := h₁, gens := s₁.gens, drawn := s₁.drawn, toks := tk₁, os := s₁.os }) (c := { A := callerA.deeper (envOfC cn sc s₁.heap.objs.size fa cdv), A₀ := callerA, base := s₁.heap, h₀ := s₁.heap, outer := [], fenv := envOfC cn sc s₁.heap.objs.size fa cdv, L := s₁.heap.objs.size, env := envOfC cn sc s₁.heap.objs.size fa cdv, gens := s₁.gens, drawn := s₁.drawn, os := s₁.os }) P
    ⟨K0, X, T, Around.frames_deeper rfl, rfl, rfl, hsk, rfl, ?_, ?_, hsk, rfl⟩ hsn
    ⟨F, N, by simp, rfl, rfl, rfl, (fun x a e => nomatch e), (fun i o e => nomatch e), (fun i j oi oj a e => nomatch e), (fun x h e => nomatch e), ⟨rfl, cn, sc, fa, cdv, _, rfl⟩, rfl, rfl, rfl⟩ hco hcell hm hL hI (by have := hI.length; omega) post
  · show callerA.depth + 1 + 2 * 200 + 8 < recursionLimit
    decide +kernel
  · show callerA.units + 3 + 8 * 200 + 80 < cLine
    decide +kernel
theorem good_end {c : ClaimW} {cl : Str → Option Addr} {mean : ExcName → Option Value} {args : List WData} {s₁ s' : Shared} (hk : ∀ b o, s₁.heap.get? b = some o → s'.heap.get? b = some o) (ho : s'.os = s₁.os) (hg : s'.gens = #[])
    (hr : ∀ cls, c.raises args cls = false) (hp : c.post args (.bool true) args = true) : GoodW c cl mean args s₁ (.ok (.ret (.bool true))) s' :=
  ⟨.inl ⟨_, _, [], rfl, hr, ReadsW.bool true, hp, fun _ => ⟨List.nodup_nil, fun _ hm => (nomatch hm)⟩⟩, hk, ho, hg⟩
theorem walk_ : WalkO qv qloose (XL qv []) (Hook.says hookK) lw.row.toRowW dLaw [] (fun f vs => call f vs) := by
  intro w s₀ s₁ mg mb G Y fa o pm cd doc dV kV ho hd hcd hD hmg hg args vals as hpre hlay hrd hwl hlo
  have KX : (KF w.params).In s₁.heap := Y
  refine Ground.open G ?_
  intro T B D TE TW
  obtain ⟨_, _, M⟩ := bmod_of_top T
  have TA := at_of_top T
  try (obtain ⟨_, _, he, B0⟩ := based_of_top T rfl hmg ho hd; have he' : cd = _ := he; subst he'; clear he)
  clear hmg
  wrow_args hpre hlay hrd hwl hlo
  refine enter_call ?_
  w_top on
  try refine codeAny_mono ?_ (fun _ _ g => GoodW.toG g)
  have K0 := below_caller (Top.heap T)
  w_call any ho hd hcd hD T F
  refine law_conv (b' := lawFn.body) (by kernel_rfl) ?_
  refine law_start (by assumption) (by assumption) (by assumption) (by assumption) (by assumption) (by assumption) (by kernel_rfl) (by kernel_rfl) (by kernel_rfl) (by assumption) (by assumption) (by omega) (fun s' hk ho hg => ?_)
  exact good_end hk ho (hg.trans (by assumption)) (fun _ => rfl) (by first | kernel_rfl | wrow_post | with_unfolding_all rfl)
theorem holds_ : PySem.Challenge.rw_nz0495_01.Holds := hd walk_
end Mine

theorem PySem.Challenge.cw_nz0495_01_holds : PySem.Challenge.rw_nz0495_01.Holds :=
  Mine.holds_
