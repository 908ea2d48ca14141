import PyProof.Rows.All
import Wide.All
import OpenK.AllK
import Wide.FinOn
import HandS.ForMost
import HandS.Walk
import HandS.Deep
import HandS.IsInst
import HandS.Style
import HandS.Conv
import HandS.SortInts
import HandS.SortRule
import HandS.Zip
import HandS.Flow
import PyProof.ReprRoads
import PyProof.ReprLen
import PySem.Challenge.RW_spanorder_k04_whole_orders_on_a_graph
set_option Elab.async false
set_option linter.all false
set_option maxRecDepth 100000
set_option maxHeartbeats 1000000
/-! A small language of values: its terms, what they come to, how they stand to the written text. -/
namespace Mi
open PySem PySem.Spec PyProof.Rows L2

/-! ### data -/
/-- what a value is, read through: scr is the script -/
inductive D where
  | non | bl (b : Bool) | int (i : Int) | str (s : Str) | lst (ds : List D) | tup (ds : List D) | scr (ns : List Int)
  deriving Inhabited
mutual
def D.py : D → PyData
  | .non => .none | .bl b => .bool b | .int i => .int i | .str s => .str s
  | .lst ds => .list (D.pys ds) | .tup ds => .tuple (D.pys ds) | .scr _ => .dict []
def D.pys : List D → List PyData
  | [] => []
  | d :: ds => d.py :: D.pys ds
end
mutual
/-- == of data -/
def D.eqv : D → D → Bool
  | .non, .non => true
  | .bl a, .bl b => a == b
  | .bl a, .int j => (if a then 1 else 0) == j
  | .int i, .bl b => i == (if b then 1 else 0)
  | .int i, .int j => i == j
  | .str x, .str y => x == y
  | .lst xs, .lst ys => D.eqvs xs ys
  | .tup xs, .tup ys => D.eqvs xs ys
  | _, _ => false
def D.eqvs : List D → List D → Bool
  | [], [] => true
  | x :: xs, y :: ys => D.eqv x y && D.eqvs xs ys
  | _, _ => false
end
mutual
/-- no script within, texts that may stand, at most k deep -/
def D.shp : Nat → D → Bool
  | _, .non => true | _, .bl _ => true | _, .int _ => true | _, .str s => PyData.strOk s
  | 0, .lst _ => false | 0, .tup _ => false
  | k + 1, .lst ds => D.shps k ds | k + 1, .tup ds => D.shps k ds
  | _, .scr _ => false
def D.shps : Nat → List D → Bool
  | _, [] => true
  | k, d :: ds => d.shp k && D.shps k ds
end
/-- values without parts -/
def D.flat : D → Bool
  | .lst _ => false | .tup _ => false | .scr _ => false | _ => true
/-- an owned list of cells, or data -/
inductive Cell where
  | im (d : D) | ow (cs : List Cell)
  deriving Inhabited
mutual
def Cell.frz : Cell → D
  | .im d => d | .ow cs => .lst (Cell.frzs cs)
def Cell.frzs : List Cell → List D
  | [] => []
  | c :: cs => c.frz :: Cell.frzs cs
end
/-- the items of a list of data -/
def Cell.ims : List Cell → Option (List D)
  | [] => some []
  | .im d :: cs => (Cell.ims cs).map (d :: ·)
  | .ow _ :: _ => none
def Cell.els : Cell → Option (List D)
  | .im (.lst ds) => some ds
  | .ow cs => Cell.ims cs
  | _ => none
/-- .. or of a tuple, or of the script -/
def Cell.its : Cell → Option (List D)
  | .im (.lst ds) => some ds
  | .im (.tup ds) => some ds
  | .im (.scr ns) => some (ns.map D.int)
  | .ow cs => Cell.ims cs
  | _ => none
/-- a slot: nothing known, a cell, the object that was handed in to be changed -/
inductive Sl where
  | no | c (c : Cell) | io
  deriving Inhabited
structure Sta where
  ρ : List Sl
  io : Option (List D) := none
/-- a result: a cell of its own, a cell that belongs to a slot -/
inductive R where
  | own (c : Cell) | bor (c : Cell)
def R.c : R → Cell
  | .own c => c | .bor c => c
def R.isBor : R → Bool
  | .own _ => false | .bor _ => true

/-! ### terms -/
mutual
inductive MT where
  | nm (i : Nat) | tp (ts : MTs)
inductive MTs where
  | nil | cons (t : MT) (ts : MTs)
end
mutual
inductive ME where
  | var (i : Nat) | fvar (i : Nat) | mvar (i : Nat)
  | non | bl (b : Bool) | int (i : Int) | str (s : Str) | glob (x : Str) (i : Int)
  | bin (op : Operator) (a b : ME) | neg (a : ME)
  | cmp (op : CmpOp) (a b : ME) | chain (o1 o2 : CmpOp) (a b c : ME)
  | and (a r : ME) | or (a r : ME) | one (a : ME) | not (a : ME)
  | ite (c a b : ME)
  | tup (es : Es) | lst (es : Es)
  | idx (a i : ME) | slc (a lo hi : ME) | no | rev (a : ME)
  | comp (own : List (Str × Nat)) (elt : ME) (t : MT) (it : MI) (c : Es)
  | comp2 (own : List (Str × Nat)) (elt : ME) (t : MT) (it : MI) (c : Es) (vs : List Nat) (t1 : MT) (it1 : MI) (c1 : Es)
  | call (f : Nat) (args : Es) | callIo (f : Nat) (i : Nat) (args : Es) | blt (b : Str) (args : Es) | lrng1 (a : ME) | lrng2 (a b : ME) | isi (a : ME) (tup : Bool) (ts : List Str)
  | pop0 (i : Nat) | pop (i : Nat) (e : ME) | ixof (a e : ME) | fz (e : ME)
  | never
inductive Es where
  | nil | cons (e : ME) (es : Es)
inductive MI where
  | ex (e : ME) | rng1 (a : ME) | rng2 (a b : ME) | enum (e : ME) | zip (a b : ME) | never
end
mutual
inductive MS where
  | asg (t : MT) (e : ME) | par (is : List Nat) (es : Es) | parT (is : List Nat) (es : Es) | set1 (i : Nat) (j e : ME) | set2 (i : Nat) (a j e : ME) | app1 (i : Nat) (e : ME) | app2 (i : Nat) (a e : ME) | aug (i : Nat) (op : Operator) (e : ME)
  | ife (c : ME) (t e : MSs) | loop (t : MT) (it : MI) (b : MSs) | loopV (t : MT) (i : Nat) (b : MSs)
  | ret (e : ME) | retN | brk | cont | pass | ex (e : ME) | never
inductive MSs where
  | nil | cons (s : MS) (ss : MSs) | kill (is : List Nat) (ss : MSs) | frz (is : List Nat) (ss : MSs)
end

/-! ### nothing changes -/
mutual
def ME.pure : ME → Bool
  | .var _ => true | .fvar _ => false | .mvar _ => false
  | .non => true | .bl _ => true | .int _ => true | .str _ => true | .glob _ _ => true
  | .bin _ a b => a.pure && b.pure | .neg a => a.pure
  | .cmp _ a b => a.pure && b.pure | .chain _ _ a b c => a.pure && b.pure && c.pure
  | .and a r => a.pure && r.pure | .or a r => a.pure && r.pure | .one a => a.pure | .not a => a.pure
  | .ite c a b => c.pure && a.pure && b.pure
  | .tup es => es.pure | .lst es => es.pure
  | .idx a i => a.pure && i.pure | .slc a lo hi => a.pure && lo.pure && hi.pure | .no => true | .rev a => a.pure
  | .comp _ e _ it c => e.pure && it.pure && c.pure
  | .comp2 _ e _ it c _ _ it1 c1 => e.pure && it.pure && c.pure && it1.pure && c1.pure
  | .call _ args => args.pure | .callIo _ _ _ => false | .blt _ args => args.pure | .lrng1 a => a.pure | .lrng2 a b => a.pure && b.pure | .isi a _ _ => a.pure
  | .pop0 _ => false | .pop _ _ => false | .ixof a e => a.pure && e.pure | .fz e => e.pure
  | .never => true
def Es.pure : Es → Bool
  | .nil => true | .cons e es => e.pure && es.pure
def MI.pure : MI → Bool
  | .ex e => e.pure | .rng1 a => a.pure | .rng2 a b => a.pure && b.pure | .enum e => e.pure | .zip a b => a.pure && b.pure | .never => true
end
def ME.noFz : ME → Bool
  | .fz _ => false | _ => true
def Es.len : Es → Nat
  | .nil => 0 | .cons _ es => es.len + 1

/-! ### operations on data -/
def ibin (op : Operator) (i j : Int) : Option Int := match op with
  | .Add => some (i + j) | .Sub => some (i - j)
  | .Mult => if (-(2 ^ 64) < i ∧ i < 2 ^ 64) ∨ (-(2 ^ 64) < j ∧ j < 2 ^ 64) then some (i * j) else none
  | .FloorDiv => if 0 < j ∧ j < 1073741824 then some (i / j) else none
  | .Mod => if 0 < j then some (i % j) else none
  | .Pow => if 0 ≤ j ∧ j ≤ 1000000 ∧ i.natAbs < 2 ^ 64 then some (i ^ j.toNat) else none
  | .LShift => if 0 ≤ j ∧ j ≤ 1000000 ∧ i.natAbs < 2 ^ 64 then some (i * 2 ^ j.toNat) else none
  | .RShift => if 0 ≤ j then some (i / 2 ^ j.toNat) else none
  | .BitAnd => some (Builtin.bitAnd i j) | .BitOr => some (Builtin.bitOr i j) | .BitXor => some (Builtin.bitXor i j)
  | _ => none
def binC (op : Operator) (a b : Cell) : Option Cell := match op, a.frz, b.frz with
  | op, .int i, .int j => (ibin op i j).map fun k => .im (.int k)
  | .Add, .lst _, .lst _ => match a.els, b.els with
    | some xs, some ys => if xs.length + ys.length ≤ 16777216 then some (.ow ((xs ++ ys).map .im)) else none
    | _, _ => none
  | .Mult, .lst _, .int k => match a.els with
    | some xs => if -(2 ^ 63) ≤ k ∧ k < 2 ^ 63 ∧ xs.length * k.toNat ≤ 16777216 then some (.ow ((List.replicate k.toNat xs).flatten.map .im)) else none
    | none => none
  | _, _, _ => none
def D.ints : List D → Option (List Int)
  | [] => some []
  | .int i :: ds => (D.ints ds).map (i :: ·)
  | _ :: _ => none
def D.bls : List D → Option (List Bool)
  | [] => some []
  | .bl i :: ds => (D.bls ds).map (i :: ·)
  | _ :: _ => none
/-- the comparison of two data -/
def scmp (op : CmpOp) (a b : D) : Option Bool := match op with
  | .Eq => if a.shp 60 && b.shp 60 then some (a.eqv b) else none
  | .NotEq => if a.shp 60 && b.shp 60 then some (!a.eqv b) else none
  | .Is => match b with | .non => some (match a with | .non => true | _ => false) | _ => none
  | .IsNot => match b with | .non => some (match a with | .non => false | _ => true) | _ => none
  | .In => match b with
    | .lst ds => if a.shp 60 && D.shps 59 ds then some (ds.any fun z => z.eqv a) else none
    | _ => none
  | .NotIn => match b with
    | .lst ds => if a.shp 60 && D.shps 59 ds then some (!ds.any fun z => z.eqv a) else none
    | _ => none
  | .Lt => match a, b with
    | .int i, .int j => some (decide (i < j))
    | .tup xs, .tup ys => match D.ints xs, D.ints ys with
      | some is, some js => some (HT.lexLt is js)
      | _, _ => none
    | _, _ => none
  | .LtE => match a, b with | .int i, .int j => some (decide (i ≤ j)) | _, _ => none
  | .Gt => match a, b with | .int i, .int j => some (decide (j < i)) | _, _ => none
  | .GtE => match a, b with | .int i, .int j => some (decide (j ≤ i)) | _, _ => none
/-- truth -/
def D.tru : D → Option Bool
  | .non => some false | .bl b => some b | .int i => some (i != 0)
  | .lst ds => some !ds.isEmpty | .tup ds => some !ds.isEmpty | _ => none
def idxR : R → Int → Option R
  | .own (.im (.lst ds)), i => (atI ds i).map fun d => .own (.im d)
  | .own (.im (.tup ds)), i => (atI ds i).map fun d => .own (.im d)
  | .own (.ow cs), i => (atI cs i).map fun c => .own c
  | .bor (.ow cs), i => (atI cs i).map fun c => match c with | .im d => .own (.im d) | .ow xs => .bor (.ow xs)
  | _, _ => none
def cutL (xs : List D) (lo hi : Option Int) : List D := (xs.drop (HT.sIx xs.length 0 lo)).take (HT.sIx xs.length xs.length hi - HT.sIx xs.length 0 lo)
/-- built-ins by name; a list or tuple is read -/
def D.itsD : D → Option (List D)
  | .lst ds => some ds | .tup ds => some ds | _ => none
def maxL : List Int → Int
  | [] => 0
  | [x] => x
  | x :: xs => let m := maxL xs; if m < x then x else m
def minL : List Int → Int
  | [] => 0
  | [x] => x
  | x :: xs => let m := minL xs; if x < m then x else m
def bltD (b : Str) (args : List D) : Option D :=
  if b = "len" then match args with | [d] => d.itsD.map fun ds => .int (ds.length : Nat) | _ => none
  else if b = "int" then match args with | [.int i] => some (.int i) | [.bl k] => some (.int (if k then 1 else 0)) | _ => none
  else if b = "max" then match args with
    | [.int i, .int j] => some (.int (if j > i then j else i))
    | [.lst ds] => (D.ints ds).bind fun is => if is.isEmpty then none else some (.int (maxL is))
    | _ => none
  else if b = "min" then match args with
    | [.int i, .int j] => some (.int (if j < i then j else i))
    | [.lst ds] => (D.ints ds).bind fun is => if is.isEmpty then none else some (.int (minL is))
    | _ => none
  else if b = "sum" then match args with | [.lst ds] => (D.ints ds).map fun is => .int is.sum | _ => none
  else if b = "any" then match args with | [.lst ds] => (D.bls ds).map fun bs => .bl (bs.any id) | _ => none
  else if b = "all" then match args with | [.lst ds] => (D.bls ds).map fun bs => .bl (bs.all id) | _ => none
  else if b = "abs" then match args with | [.int i] => some (.int (if i < 0 then -i else i)) | _ => none
  else none
/-- insertion into an ascending list -/
def insI (x : Int) : List Int → List Int
  | [] => [x]
  | y :: ys => if x ≤ y then x :: y :: ys else y :: insI x ys
def sortI : List Int → List Int
  | [] => []
  | x :: xs => insI x (sortI xs)
/-- pairs of ints, and by the first, then by the second -/
def D.prs : List D → Option (List (Int × Int))
  | [] => some []
  | .tup [.int i, .int j] :: ds => (D.prs ds).map ((i, j) :: ·)
  | _ => none
def tupD (q : Int × Int) : D := .tup [.int q.1, .int q.2]
def insP (x : Int × Int) : List (Int × Int) → List (Int × Int)
  | [] => [x]
  | y :: ys => if SrtO.lexB y x then y :: insP x ys else x :: y :: ys
def sortP : List (Int × Int) → List (Int × Int)
  | [] => []
  | x :: xs => insP x (sortP xs)
def bltC (b : Str) (args : List Cell) : Option Cell :=
  if b = "list" then match args with | [c] => c.els.map fun ds => .ow (ds.map .im) | _ => none
  else if b = "sorted" then match args with
    | [c] => c.els.bind fun ds => match D.ints ds with
      | some is => some (.ow ((sortI is).map fun i => .im (.int i)))
      | none => (D.prs ds).map fun ps => .ow ((sortP ps).map fun q => .im (tupD q))
    | _ => none
  else if b = "tuple" then match args with | [c] => c.els.map fun ds => .im (.tup ds) | _ => none
  else if b = "repr" then match args with
    | [c] => if c.frz.flat == false && c.frz.shp 60 && c.frz.py.showable && decide (c.frz.py.shown.length ≤ 16777216) then some (.im (.str c.frz.py.shown)) else none
    | _ => none
  else (bltD b (args.map Cell.frz)).map .im
def D.ty : D → Option String
  | .non => some "NoneType" | .bl _ => some "bool" | .int _ => some "int" | .str _ => some "str" | .lst _ => some "list" | .tup _ => some "tuple" | .scr _ => none
def isiOne (d : D) (t : Str) : Option Bool := d.ty.bind fun a =>
  if t = "int" then kitB a "int" else if t = "bool" then kitB a "bool" else if t = "str" then kitB a "str" else if t = "list" then kitB a "list" else if t = "tuple" then kitB a "tuple" else none
def isiAny (d : D) : List Str → Option Bool
  | [] => some false
  | t :: ts => (isiOne d t).bind fun b => if b then some true else isiAny d ts

/-! ### what a term comes to -/
/-- what calls come to: the def's number, the arguments, the object to be changed -/
abbrev CF := Nat → List D → Option (List D) → Option (Cell × Option (List D))
mutual
def bindT : MT → D → List Sl → Option (List Sl)
  | .nm i, d, ρ => some (ρ.set i (.c (.im d)))
  | .tp ts, .tup ds, ρ => bindTs ts ds ρ
  | _, _, _ => none
def bindTs : MTs → List D → List Sl → Option (List Sl)
  | .nil, [], ρ => some ρ
  | .cons t ts, d :: ds, ρ => (bindT t d ρ).bind fun ρ1 => bindTs ts ds ρ1
  | _, _, _ => none
end
def wipeS (ρ : List Sl) : List Nat → List Sl
  | [] => ρ
  | v :: vs => (wipeS ρ vs).set v .no
/-- the own slots as they were -/
def backS (ρ0 ρ : List Sl) : List Nat → List Sl
  | [] => ρ
  | v :: vs => (backS ρ0 ρ vs).set v (ρ0.getD v .no)
def Sl.isIm : Sl → Bool
  | .no => true | .c (.im _) => true | _ => false
def rdV (i : Nat) (S : Sta) : Option R := match S.ρ[i]? with
  | some (.c (.im d)) => some (.own (.im d))
  | some (.c (.ow cs)) => some (.bor (.ow cs))
  | some .io => S.io.map fun ds => .bor (.ow (ds.map .im))
  | _ => none
def compL (vs : List Nat) (t : MT) (cond : Sta → Option (Bool × Sta)) (el : Sta → Option (R × Sta)) : List D → Sta → List Cell → Option (List Cell × Sta)
  | [], S, acc => some (acc, S)
  | d :: ds, S, acc => (bindT t d (wipeS S.ρ vs)).bind fun ρ1 => (cond ⟨ρ1, S.io⟩).bind fun p =>
    if p.1 then (el p.2).bind fun q => match q.1 with
      | .own c => if acc.length < 16777216 then compL vs t cond el ds q.2 (acc ++ [c]) else none
      | .bor _ => none
    else compL vs t cond el ds p.2 acc
/-- .. the outer loop of two -/
def compL2 (vs : List Nat) (t : MT) (cond : Sta → Option (Bool × Sta)) (inner : Sta → List Cell → Option (List Cell × Sta)) : List D → Sta → List Cell → Option (List Cell × Sta)
  | [], S, acc => some (acc, S)
  | d :: ds, S, acc => (bindT t d (wipeS S.ρ vs)).bind fun ρ1 => (cond ⟨ρ1, S.io⟩).bind fun p =>
    if p.1 then (inner p.2 acc).bind fun q => compL2 vs t cond inner ds q.2 q.1
    else compL2 vs t cond inner ds p.2 acc
/-- the elements of a walked thing, from the cells of its sources -/
def rngD (a b : Int) : List D := (List.range (b - a).toNat).map fun (i : Nat) => D.int (a + (i : Int))
def zipD : List D → List D → List D
  | x :: xs, y :: ys => .tup [x, y] :: zipD xs ys
  | _, _ => []
def enumD (k : Nat) : List D → List D
  | [] => []
  | x :: xs => .tup [.int (k : Int), x] :: enumD (k + 1) xs
def rngOk (a b : Int) : Bool := decide (-(2 ^ 62) ≤ a ∧ a < 2 ^ 62 ∧ -(2 ^ 62) ≤ b ∧ b < 2 ^ 62)
def ownC : List R → Option (List Cell)
  | [] => some []
  | .own c :: rs => (ownC rs).map (c :: ·)
  | .bor _ :: _ => none
def D.scal : D → Bool
  | .non => true | .bl _ => true | .int _ => true | .str _ => true | _ => false
def Cell.scal : Cell → Bool
  | .im d => d.scal | _ => false
/-- a slot with an owned list, or with the object that was handed in -/
def ownB (S : Sta) (i : Nat) : Bool := match S.ρ[i]? with | some (.c (.ow _)) => true | some .io => S.io.isSome | _ => false
/-- what is walked -/
def R.its : R → Option (List D)
  | .own (.ow cs) => some (Cell.frzs cs)
  | r => r.c.its
/-- a term as a value, as a test -/
structure EvP where
  v : Sta → Option (R × Sta)
  t : Sta → Option (Bool × Sta)
/-- several terms; one of them as a comprehension's test -/
structure EsP where
  v : Sta → Option (List R × Sta)
  t : Sta → Option (Bool × Sta)
def mkV (v : Sta → Option (R × Sta)) : EvP := ⟨v, fun S => (v S).bind fun p => p.1.c.frz.tru.map fun b => (b, p.2)⟩
def mkK (f : Sta → Option (R × Sta)) : EvP := mkV f
def ME.isNo : ME → Bool
  | .no => true | _ => false
def Es.isNil : Es → Bool
  | .nil => true | _ => false
def intOf : Option (R × Sta) → Option Int
  | some (.own (.im (.int i)), _) => some i
  | _ => none
mutual
def evB (cf : CF) : ME → EvP
  | .var i => mkV fun S => (rdV i S).map fun r => (r, S)
  | .fvar i => mkV fun S => match S.ρ[i]? with
    | some (.c c) => some (.own (.im c.frz), ⟨S.ρ.set i (.c (.im c.frz)), S.io⟩)
    | _ => none
  | .mvar i => mkV fun S => match S.ρ[i]? with
    | some (.c c) => some (.own c, ⟨S.ρ.set i .no, S.io⟩)
    | _ => none
  | .non => mkV fun S => some (.own (.im .non), S)
  | .bl b => mkV fun S => some (.own (.im (.bl b)), S)
  | .int i => mkV fun S => some (.own (.im (.int i)), S)
  | .str s => mkV fun S => some (.own (.im (.str s)), S)
  | .glob _ i => mkV fun S => some (.own (.im (.int i)), S)
  | .bin op a b => mkV fun S => ((evB cf a).v S).bind fun p => ((evB cf b).v p.2).bind fun q =>
    if p.1.isBor && !b.pure then none else (binC op p.1.c q.1.c).map fun c => (.own c, q.2)
  | .neg a => mkV fun S => ((evB cf a).v S).bind fun p => match p.1 with | .own (.im (.int i)) => some (.own (.im (.int (-i))), p.2) | _ => none
  | .cmp op a b => mkV fun S => ((evB cf a).v S).bind fun p => ((evB cf b).v p.2).bind fun q =>
    if p.1.isBor && !b.pure then none else (scmp op p.1.c.frz q.1.c.frz).map fun k => (.own (.im (.bl k)), q.2)
  | .chain o1 o2 a b c => mkV fun S => ((evB cf a).v S).bind fun p => ((evB cf b).v p.2).bind fun q => match p.1, q.1 with
    | .own (.im x), .own (.im y) => (scmp o1 x y).bind fun k =>
      if k then ((evB cf c).v q.2).bind fun r => (scmp o2 y r.1.c.frz).map fun k2 => (.own (.im (.bl k2)), r.2)
      else some (.own (.im (.bl false)), q.2)
    | _, _ => none
  | .and a r => ⟨fun S => ((evB cf a).v S).bind fun p => match p.1 with
    | .own (.im (.bl true)) => (evB cf r).v p.2
    | .own (.im (.bl false)) => some (.own (.im (.bl false)), p.2)
    | _ => none, fun S => ((evB cf a).t S).bind fun p => if p.1 then (evB cf r).t p.2 else some (false, p.2)⟩
  | .or a r => ⟨fun S => ((evB cf a).v S).bind fun p => match p.1 with
    | .own (.im (.bl true)) => some (.own (.im (.bl true)), p.2)
    | .own (.im (.bl false)) => (evB cf r).v p.2
    | _ => none, fun S => ((evB cf a).t S).bind fun p => if p.1 then some (true, p.2) else (evB cf r).t p.2⟩
  | .one a => evB cf a
  | .not a => ⟨fun S => ((evB cf a).v S).bind fun p => p.1.c.frz.tru.map fun b => (.own (.im (.bl !b)), p.2), fun S => ((evB cf a).t S).map fun p => (!p.1, p.2)⟩
  | .ite c a b => ⟨fun S => ((evB cf c).t S).bind fun p => if p.1 then (evB cf a).v p.2 else (evB cf b).v p.2, fun _ => none⟩
  | .tup es => mkV fun S => ((evsB cf es).v S).bind fun p => (ownC p.1).bind fun cs => if cs.length ≤ 16777216 then some (.own (.im (.tup (Cell.frzs cs))), p.2) else none
  | .lst es => mkV fun S => ((evsB cf es).v S).bind fun p => (ownC p.1).bind fun cs => if cs.length ≤ 16777216 then some (.own (.ow cs), p.2) else none
  | .idx a i => mkV fun S => ((evB cf a).v S).bind fun p => ((evB cf i).v p.2).bind fun q =>
    if p.1.isBor && !i.pure then none else match q.1 with
      | .own (.im (.int k)) => (idxR p.1 k).map fun r => (r, q.2)
      | _ => none
  | .slc a lo hi => mkV fun S => ((evB cf a).v S).bind fun p =>
      if lo.pure && hi.pure then
        (if lo.isNo then some none else (intOf ((evB cf lo).v p.2)).map some).bind fun l => (if hi.isNo then some none else (intOf ((evB cf hi).v p.2)).map some).bind fun h =>
          p.1.c.els.map fun ds => (.own (.ow ((cutL ds l h).map .im)), p.2)
      else none
  | .no => mkV fun _ => none
  | .rev a => mkV fun S => ((evB cf a).v S).bind fun p => p.1.c.els.map fun ds => (.own (.ow (ds.reverse.map .im)), p.2)
  | .comp own e t it c => mkV fun S => (evIB cf it S).bind fun p =>
    if (p.1 && !(e.pure && c.pure)) || !(own.all fun q => (p.2.2.ρ.getD q.2 .no).isIm) then none else
    (compL (own.map (·.2)) t (evsB cf c).t (evB cf e).v p.2.1 p.2.2 []).map fun q =>
      (.own (.ow q.1), ⟨backS p.2.2.ρ q.2.ρ (own.map (·.2)), q.2.io⟩)
  | .comp2 own e t it c vs1 t1 it1 c1 => mkV fun S => (evIB cf it S).bind fun p =>
    if (p.1 && !(e.pure && c.pure && it1.pure && c1.pure)) || !(own.all fun q => (p.2.2.ρ.getD q.2 .no).isIm) || !(vs1.all fun i => own.any fun q => q.2 == i) then none else
    (compL2 (own.map (·.2)) t (evsB cf c).t (fun S acc => (evIB cf it1 S).bind fun p1 =>
        if p1.1 && !(e.pure && c1.pure) then none else compL vs1 t1 (evsB cf c1).t (evB cf e).v p1.2.1 p1.2.2 acc) p.2.1 p.2.2 []).map fun q =>
      (.own (.ow q.1), ⟨backS p.2.2.ρ q.2.ρ (own.map (·.2)), q.2.io⟩)
  | .call f args => mkV fun S => ((evsB cf args).v S).bind fun p => match ownC p.1 with
      | some cs => (cf f (Cell.frzs cs) none).map fun q => (.own q.1, p.2)
      | none => (cf f (p.1.map fun r => r.c.frz) none).bind fun q => if q.1.scal then some (.own q.1, p.2) else none
  | .callIo f i args => mkV fun S => if !ownB S i then none else ((evsB cf args).v S).bind fun p => (ownC p.1).bind fun cs => match p.2.ρ[i]? with
      | some .io => p.2.io.bind fun u => (cf f (Cell.frzs cs) (some u)).bind fun q => q.2.map fun w => (.own q.1, ⟨p.2.ρ, some w⟩)
      | some (.c (.ow xs)) => (Cell.ims xs).bind fun u => (cf f (Cell.frzs cs) (some u)).bind fun q => q.2.map fun w => (.own q.1, ⟨p.2.ρ.set i (.c (.ow (w.map .im))), p.2.io⟩)
      | _ => none
  | .blt b args => mkV fun S => ((evsB cf args).v S).bind fun p => (bltC b (p.1.map R.c)).map fun c => (.own c, p.2)
  | .lrng1 a => mkV fun S => ((evB cf a).v S).bind fun p => match p.1 with
      | .own (.im (.int n)) => if 0 ≤ n ∧ n ≤ 16777216 then some (.own (.ow ((rngD 0 n).map .im)), p.2) else none
      | _ => none
  | .lrng2 a b => mkV fun S => ((evB cf a).v S).bind fun p => ((evB cf b).v p.2).bind fun q => match p.1, q.1 with
      | .own (.im (.int n)), .own (.im (.int m)) => if 0 ≤ n ∧ n ≤ 16777216 ∧ 0 ≤ m ∧ m ≤ 16777216 then some (.own (.ow ((rngD n m).map .im)), q.2) else none
      | _, _ => none
  | .isi a tup ts => mkV fun S => ((evB cf a).v S).bind fun p => (if tup then isiAny p.1.c.frz ts else match ts with | [t] => isiOne p.1.c.frz t | _ => none).map fun b => (.own (.im (.bl b)), p.2)
  | .pop0 i => mkV fun S => match S.ρ[i]? with
      | some (.c (.ow cs)) => cs.getLast?.map fun c => (.own c, ⟨S.ρ.set i (.c (.ow cs.dropLast)), S.io⟩)
      | _ => none
  | .pop i e => mkV fun S => if !ownB S i then none else ((evB cf e).v S).bind fun p => match p.1, p.2.ρ[i]? with
      | .own (.im (.int k)), some (.c (.ow cs)) => if -(2 ^ 63) ≤ k ∧ k < 2 ^ 63 then (seqIndex? k cs.length).bind fun j => cs[j]?.map fun c => (.own c, ⟨p.2.ρ.set i (.c (.ow (cs.eraseIdx j))), p.2.io⟩) else none
      | _, _ => none
  | .fz e => mkV fun S => ((evB cf e).v S).bind fun p => match p.1 with
    | .own c => some (.own (.im c.frz), p.2)
    | .bor _ => none
  | .ixof a e => mkV fun S => ((evB cf a).v S).bind fun p => ((evB cf e).v p.2).bind fun q =>
    if p.1.isBor && !e.pure then none else p.1.c.els.bind fun ds =>
      if D.shps 59 ds && q.1.c.frz.shp 60 then (ds.findIdx? fun z => z.eqv q.1.c.frz).map fun (j : Nat) => (.own (.im (.int (j : Int))), q.2) else none
  | .never => mkV fun _ => none
def evsB (cf : CF) : Es → EsP
  | .nil => ⟨fun S => some ([], S), fun S => some (true, S)⟩
  | .cons e es => ⟨fun S => ((evB cf e).v S).bind fun p => ((evsB cf es).v p.2).bind fun q =>
    if p.1.isBor && !es.pure then none else some (p.1 :: q.1, q.2), fun S => if es.isNil then (evB cf e).t S else none⟩
def evIB (cf : CF) : MI → Sta → Option (Bool × List D × Sta)
  | .ex e => fun S => ((evB cf e).v S).bind fun p => p.1.its.map fun ds => (p.1.isBor, ds, p.2)
  | .rng1 a => fun S => ((evB cf a).v S).bind fun p => match p.1 with
    | .own (.im (.int n)) => if rngOk 0 n then some (false, rngD 0 n, p.2) else none
    | _ => none
  | .rng2 a b => fun S => ((evB cf a).v S).bind fun p => ((evB cf b).v p.2).bind fun q => match p.1, q.1 with
    | .own (.im (.int n)), .own (.im (.int m)) => if rngOk n m then some (false, rngD n m, q.2) else none
    | _, _ => none
  | .enum e => fun S => ((evB cf e).v S).bind fun p => p.1.c.els.map fun ds => (p.1.isBor, enumD 0 ds, p.2)
  | .zip a b => fun S => ((evB cf a).v S).bind fun p => ((evB cf b).v p.2).bind fun q =>
    if p.1.isBor && !b.pure then none else p.1.c.els.bind fun xs => q.1.c.els.map fun ys => (p.1.isBor || q.1.isBor, zipD xs ys, q.2)
  | .never => fun _ => none
end
abbrev ev (cf : CF) (m : ME) : Sta → Option (R × Sta) := (evB cf m).v
abbrev evT (cf : CF) (m : ME) : Sta → Option (Bool × Sta) := (evB cf m).t
abbrev evs (cf : CF) (es : Es) : Sta → Option (List R × Sta) := (evsB cf es).v
inductive Out where
  | nx (S : Sta) | bk (S : Sta) | ct (S : Sta) | rt (c : Cell) (S : Sta)
def loopL (t : MT) (b : Sta → Option Out) : List D → Sta → Option Out
  | [], S => some (.nx S)
  | d :: ds, S => (bindT t d S.ρ).bind fun ρ1 => (b ⟨ρ1, S.io⟩).bind fun o => match o with
    | .nx S1 => loopL t b ds S1
    | .ct S1 => loopL t b ds S1
    | .bk S1 => some (.nx S1)
    | .rt c S1 => some (.rt c S1)
/-- a walk over the list that is being changed; n: turns that are left -/
def loopIo (t : MT) (b : Sta → Option Out) : Nat → Nat → Sta → Option Out
  | 0, _, _ => none
  | n + 1, j, S => match S.io with
    | none => none
    | some ds => match ds[j]? with
      | none => some (.nx S)
      | some d => (bindT t d S.ρ).bind fun ρ1 => (b ⟨ρ1, S.io⟩).bind fun o => match o with
        | .nx S1 => loopIo t b n (j + 1) S1
        | .ct S1 => loopIo t b n (j + 1) S1
        | .bk S1 => some (.nx S1)
        | .rt c S1 => some (.rt c S1)
def Sl.noIo : Sl → Bool
  | .io => false | _ => true
/-- an owned list as the one that is handed in to be changed, and back -/
def lend (i : Nat) (S : Sta) : Option Sta := match S.ρ[i]?, S.io with
  | some (.c (.ow cs)), none => (Cell.ims cs).bind fun ds => if S.ρ.all Sl.noIo then some ⟨S.ρ.set i .io, some ds⟩ else none
  | _, _ => none
def unl (i : Nat) (S : Sta) : Option Sta := match S.ρ[i]?, S.io with
  | some .io, some ds => if (S.ρ.set i .no).all Sl.noIo then some ⟨S.ρ.set i (.c (.ow (ds.map .im))), none⟩ else none
  | _, _ => none
def outU (i : Nat) : Out → Option Out
  | .nx S => (unl i S).map .nx
  | .rt c S => (unl i S).map (.rt c)
  | _ => none
def setAll : List Nat → List Cell → List Sl → Option (List Sl)
  | [], [], ρ => some ρ
  | i :: is, c :: cs, ρ => setAll is cs (ρ.set i (.c c))
  | _, _, _ => none
def killS (ρ : List Sl) : List Nat → List Sl
  | [] => ρ
  | i :: is => killS (ρ.set i .no) is
def frzS (ρ : List Sl) : List Nat → List Sl
  | [] => ρ
  | i :: is => frzS (match ρ[i]? with | some (.c c) => ρ.set i (.c (.im c.frz)) | _ => ρ) is
/-- an owned list changed: a slot's, or the one at a place in a slot's list -/
inductive Pth where
  | sl (i : Nat) | at (i : Nat) (k : Int)
def upP (p : Pth) (S : Sta) (f : List Cell → Option (List Cell)) : Option Sta := match p with
  | .sl i => match S.ρ[i]? with
    | some (.c (.ow cs)) => (f cs).map fun cs' => ⟨S.ρ.set i (.c (.ow cs')), S.io⟩
    | some .io => S.io.bind fun u => (f (u.map .im)).bind fun cs' => (Cell.ims cs').map fun u' => ⟨S.ρ, some u'⟩
    | _ => none
  | .at i k => match S.ρ[i]? with
    | some (.c (.ow cs)) => (ixN cs.length k).bind fun n => match cs[n]? with
      | some (.ow xs) => (f xs).map fun xs' => ⟨S.ρ.set i (.c (.ow (cs.set n (.ow xs')))), S.io⟩
      | _ => none
    | _ => none
mutual
def run (cf : CF) : MS → Sta → Option Out
  | .asg t e => fun S => (ev cf e S).bind fun p => match p.1 with
    | .own c => (match t with | .nm i => some (p.2.ρ.set i (.c c)) | t => bindT t c.frz p.2.ρ).map fun ρ => .nx ⟨ρ, p.2.io⟩
    | .bor _ => none
  | .par is es => fun S => (evs cf es S).bind fun p => (ownC p.1).bind fun cs => (setAll is cs p.2.ρ).map fun ρ => .nx ⟨ρ, p.2.io⟩
  | .parT is es => fun S => (evs cf es S).bind fun p => (ownC p.1).bind fun cs => if cs.length ≤ 16777216 then (setAll is cs p.2.ρ).map fun ρ => .nx ⟨ρ, p.2.io⟩ else none
  | .set1 i j e => fun S => (ev cf e S).bind fun p => match p.1 with
    | .own c => if j.pure then (intOf (ev cf j p.2)).bind fun k => (upP (.sl i) p.2 fun xs => (ixN xs.length k).map fun n => xs.set n c).map .nx else none
    | .bor _ => none
  | .set2 i a j e => fun S => (ev cf e S).bind fun p => match p.1 with
    | .own c => if a.pure && j.pure then (intOf (ev cf a p.2)).bind fun m => (intOf (ev cf j p.2)).bind fun k => (upP (.at i m) p.2 fun xs => (ixN xs.length k).map fun n => xs.set n c).map .nx else none
    | .bor _ => none
  | .app1 i e => fun S => if !ownB S i then none else (ev cf e S).bind fun p => match p.1 with
    | .own c => (upP (.sl i) p.2 fun xs => if xs.length < 16777216 then some (xs ++ [c]) else none).map .nx
    | .bor _ => none
  | .app2 i a e => fun S => if a.pure && e.pure then (intOf (ev cf a S)).bind fun m => (ev cf e S).bind fun p => match p.1 with
      | .own c => (upP (.at i m) S fun xs => if xs.length < 16777216 then some (xs ++ [c]) else none).map .nx
      | .bor _ => none
    else none
  | .aug i op e => fun S => match S.ρ[i]? with
    | some (.c (.im (.int x))) => (ev cf e S).bind fun p => match p.1 with
      | .own (.im (.int y)) => (match op with | .Add => some (x + y) | .Sub => some (x - y) | _ => none).map fun z => .nx ⟨p.2.ρ.set i (.c (.im (.int z))), p.2.io⟩
      | _ => none
    | _ => none
  | .ife c t e => fun S => (evT cf c S).bind fun p => if p.1 then runs cf t p.2 else runs cf e p.2
  | .loop t it b => fun S => (evIB cf it S).bind fun p => if p.1 then none else loopL t (runs cf b) p.2.1 p.2.2
  | .loopV t i b => fun S => match S.ρ[i]? with
    | some .io => loopIo t (runs cf b) 10000000 0 S
    | _ => (lend i S).bind fun S1 => (loopIo t (runs cf b) 10000000 0 S1).bind (outU i)
  | .ret e => fun S => (ev cf e S).bind fun p => match p.1 with | .own c => some (.rt c p.2) | .bor _ => none
  | .retN => fun S => some (.rt (.im .non) S)
  | .brk => fun S => some (.bk S)
  | .cont => fun S => some (.ct S)
  | .pass => fun S => some (.nx S)
  | .ex e => fun S => (ev cf e S).map fun p => .nx p.2
  | .never => fun _ => none
def runs (cf : CF) : MSs → Sta → Option Out
  | .nil => fun S => some (.nx S)
  | .kill is ss => fun S => runs cf ss ⟨killS S.ρ is, S.io⟩
  | .frz is ss => fun S => runs cf ss ⟨frzS S.ρ is, S.io⟩
  | .cons s ss => fun S => (run cf s S).bind fun o => match o with
    | .nx S1 => runs cf ss S1
    | o => some o
end
/-- a def of the text: its name, its names by slot (parameters first), how many parameters, whether the first is changed, its body -/
structure Fn where
  name : Str
  N : List Str
  ps : List Str
  io : Bool
  body : MSs
abbrev Tab := List Fn
def start0 (n : Nat) (args : List D) : List Sl := args.map (fun d => Sl.c (.im d)) ++ List.replicate (n - args.length) .no
/-- a def called: at most k calls deep -/
def callF (T : Tab) : Nat → CF
  | 0, _, _, _ => none
  | k + 1, f, args, u => match T[f]? with
    | none => none
    | some fn => if fn.io != u.isSome || args.length + (if fn.io then 1 else 0) != fn.ps.length then none else
      match runs (callF T k) fn.body { ρ := (if fn.io then [Sl.io] else []) ++ start0 (fn.N.length - (if fn.io then 1 else 0)) args, io := u } with
      | some (.rt c S) => if S.io.isSome != fn.io then none else some (c, S.io)
      | some (.nx S) => if S.io.isSome != fn.io then none else some (.im .non, S.io)
      | _ => none
end Mi
/-! How data stand in a heap. F: what stays; H: all; an owned list stands in H alone. -/
namespace Mi
open PySem PySem.Spec PyProof.Rows L2

/-! ### data in a heap -/
mutual
inductive Rp (K : PySem.W.Frag) (F : Hp) : V → D → Prop
  | non : Rp K F .non .non
  | bl (b : Bool) : Rp K F (.bl b) (.bl b)
  | int (i : Int) : Rp K F (.int i) (.int i)
  | str (x : Str) : Rp K F (.str x) (.str x)
  | lst {a : Addr} {vs : List V} {ds : List D} : F a = some (.lst vs) → RpA K F vs ds → Rp K F (.ref a) (.lst ds)
  | tup {a : Addr} {vs : List V} {ds : List D} : SqT K F a vs → RpA K F vs ds → Rp K F (.ref a) (.tup ds)
  | scr {a : Addr} {ns : List Int} : SqL K F a (ns.map V.int) → Rp K F (.ref a) (.scr ns)
inductive RpA (K : PySem.W.Frag) (F : Hp) : List V → List D → Prop
  | nil : RpA K F [] []
  | cons {v : V} {vs : List V} {d : D} {ds : List D} : Rp K F v d → RpA K F vs ds → RpA K F (v :: vs) (d :: ds)
end
section
variable {K : PySem.W.Frag} {F F' H H' : Hp}
theorem same_tup {a : Addr} {vs : List V} (e : Same F F') (h : SqT K F a vs) : SqT K F' a vs := by
  rcases h with (h | ⟨o, h⟩) | h
  · exact .inl (.inl (e _ _ h))
  · exact .inl (.inr ⟨o, e _ _ h⟩)
  · exact .inr h
mutual
theorem Rp.mono (e : Same F F') : ∀ {d : D} {v : V}, Rp K F v d → Rp K F' v d
  | .non, _, h => by cases h; exact .non
  | .bl _, _, h => by cases h; exact .bl _
  | .int _, _, h => by cases h; exact .int _
  | .str _, _, h => by cases h; exact .str _
  | .lst ds, _, h => by
    cases h with
    | lst h1 h2 => exact .lst (e _ _ h1) (RpA.mono e h2)
  | .tup ds, _, h => by
    cases h with
    | tup h1 h2 => exact .tup (same_tup e h1) (RpA.mono e h2)
  | .scr ns, _, h => by
    cases h with
    | scr h1 => exact .scr (e.seq h1)
theorem RpA.mono (e : Same F F') : ∀ {ds : List D} {vs : List V}, RpA K F vs ds → RpA K F' vs ds
  | [], _, h => by cases h; exact .nil
  | d :: ds, _, h => by
    cases h with
    | cons h1 h2 => exact .cons (Rp.mono e h1) (RpA.mono e h2)
end
mutual
theorem Rp.dp : ∀ {d : D} {v : V} {k : Nat}, Rp K F v d → d.shp k = true → Dp K F v d.py
  | .non, _, _, h, _ => by cases h; exact .non
  | .bl _, _, _, h, _ => by cases h; exact .bl _
  | .int _, _, _, h, _ => by cases h; exact .int _
  | .str _, _, _, h, _ => by cases h; exact .str _
  | .lst ds, _, 0, h, s => by simp [D.shp] at s
  | .lst ds, _, k + 1, h, s => by
    cases h with
    | lst h1 h2 => exact .lst (.inl (.inl h1)) (RpA.dp h2 (by simpa [D.shp] using s))
  | .tup ds, _, 0, h, s => by simp [D.shp] at s
  | .tup ds, _, k + 1, h, s => by
    cases h with
    | tup h1 h2 => exact .tup h1 (RpA.dp h2 (by simpa [D.shp] using s))
  | .scr _, _, k, h, s => by cases k <;> simp [D.shp] at s
theorem RpA.dp : ∀ {ds : List D} {vs : List V} {k : Nat}, RpA K F vs ds → D.shps k ds = true → DpAll K F vs (D.pys ds)
  | [], _, _, h, _ => by cases h; exact .nil
  | d :: ds, _, k, h, s => by
    cases h with
    | cons h1 h2 =>
      have s' : d.shp k = true ∧ D.shps k ds = true := by simpa [D.shps] using s
      exact .cons (Rp.dp h1 s'.1) (RpA.dp h2 s'.2)
end
mutual
theorem shp_lay : ∀ {d : D} {k : Nat}, d.shp k = true → d.py.canLay0 = true ∧ d.py.depth ≤ k + 1
  | .non, k, _ => by simp [D.py, PyData.canLay0, PyData.depth]
  | .bl _, k, _ => by simp [D.py, PyData.canLay0, PyData.depth]
  | .int _, k, _ => by simp [D.py, PyData.canLay0, PyData.depth]
  | .str z, k, h => by
    have h' : PyData.strOk z = true := by cases k <;> simpa [D.shp] using h
    simp [D.py, PyData.canLay0, PyData.depth, h']
  | .lst ds, 0, h => by simp [D.shp] at h
  | .lst ds, k + 1, h => by
    have := shps_lay (ds := ds) (k := k) (by simpa [D.shp] using h)
    simp only [D.py, PyData.canLay0, PyData.depth]
    exact ⟨this.1, by omega⟩
  | .tup ds, 0, h => by simp [D.shp] at h
  | .tup ds, k + 1, h => by
    have := shps_lay (ds := ds) (k := k) (by simpa [D.shp] using h)
    simp only [D.py, PyData.canLay0, PyData.depth]
    exact ⟨this.1, by omega⟩
  | .scr _, k, h => by cases k <;> simp [D.shp] at h
theorem shps_lay : ∀ {ds : List D} {k : Nat}, D.shps k ds = true → PyData.canLayAll0 (D.pys ds) = true ∧ PyData.depthAll (D.pys ds) ≤ k + 1
  | [], k, _ => by simp [D.pys, PyData.canLayAll0, PyData.depthAll]
  | d :: ds, k, h => by
    have s' : d.shp k = true ∧ D.shps k ds = true := by simpa [D.shps] using h
    have a := shp_lay s'.1
    have b := shps_lay s'.2
    simp only [D.pys, PyData.canLayAll0, PyData.depthAll]
    exact ⟨by rw [a.1, b.1]; rfl, by omega⟩
end
theorem shp_shaped {d : D} (h : d.shp 60 = true) : SeqAt.shaped d.py = true := by
  have := shp_lay h
  unfold SeqAt.shaped
  rw [this.1, decide_eq_true (by omega : d.py.depth ≤ 64)]; rfl
mutual
theorem eqv_py : ∀ (a b : D) (j k : Nat), a.shp j = true → b.shp k = true → PyData.eqv a.py b.py = a.eqv b
  | .lst xs, .lst ys, 0, _, h, _ => by simp [D.shp] at h
  | .lst xs, .lst ys, _, 0, _, h => by simp [D.shp] at h
  | .lst xs, .lst ys, j + 1, k + 1, h, h' => by
    simp only [D.py, PyData.eqv, D.eqv]
    exact eqvs_py xs ys j k (by simpa [D.shp] using h) (by simpa [D.shp] using h')
  | .tup xs, .tup ys, 0, _, h, _ => by simp [D.shp] at h
  | .tup xs, .tup ys, _, 0, _, h => by simp [D.shp] at h
  | .tup xs, .tup ys, j + 1, k + 1, h, h' => by
    simp only [D.py, PyData.eqv, D.eqv]
    exact eqvs_py xs ys j k (by simpa [D.shp] using h) (by simpa [D.shp] using h')
  | .scr _, _, j, _, h, _ => by cases j <;> simp [D.shp] at h
  | _, .scr _, _, k, _, h => by cases k <;> simp [D.shp] at h
  | .non, .non, _, _, _, _ => by simp [D.py, PyData.eqv, D.eqv]
  | .non, .bl _, _, _, _, _ => by simp [D.py, PyData.eqv, D.eqv]
  | .non, .int _, _, _, _, _ => by simp [D.py, PyData.eqv, D.eqv]
  | .non, .str _, _, _, _, _ => by simp [D.py, PyData.eqv, D.eqv]
  | .non, .lst _, _, _, _, _ => by simp [D.py, PyData.eqv, D.eqv]
  | .non, .tup _, _, _, _, _ => by simp [D.py, PyData.eqv, D.eqv]
  | .bl _, .non, _, _, _, _ => by simp [D.py, PyData.eqv, D.eqv]
  | .bl _, .bl _, _, _, _, _ => by simp [D.py, PyData.eqv, D.eqv]
  | .bl _, .int _, _, _, _, _ => by simp [D.py, PyData.eqv, D.eqv]
  | .bl _, .str _, _, _, _, _ => by simp [D.py, PyData.eqv, D.eqv]
  | .bl _, .lst _, _, _, _, _ => by simp [D.py, PyData.eqv, D.eqv]
  | .bl _, .tup _, _, _, _, _ => by simp [D.py, PyData.eqv, D.eqv]
  | .int _, .non, _, _, _, _ => by simp [D.py, PyData.eqv, D.eqv]
  | .int _, .bl _, _, _, _, _ => by simp [D.py, PyData.eqv, D.eqv]
  | .int _, .int _, _, _, _, _ => by simp [D.py, PyData.eqv, D.eqv]
  | .int _, .str _, _, _, _, _ => by simp [D.py, PyData.eqv, D.eqv]
  | .int _, .lst _, _, _, _, _ => by simp [D.py, PyData.eqv, D.eqv]
  | .int _, .tup _, _, _, _, _ => by simp [D.py, PyData.eqv, D.eqv]
  | .str _, .non, _, _, _, _ => by simp [D.py, PyData.eqv, D.eqv]
  | .str _, .bl _, _, _, _, _ => by simp [D.py, PyData.eqv, D.eqv]
  | .str _, .int _, _, _, _, _ => by simp [D.py, PyData.eqv, D.eqv]
  | .str _, .str _, _, _, _, _ => by simp [D.py, PyData.eqv, D.eqv]
  | .str _, .lst _, _, _, _, _ => by simp [D.py, PyData.eqv, D.eqv]
  | .str _, .tup _, _, _, _, _ => by simp [D.py, PyData.eqv, D.eqv]
  | .lst _, .non, _, _, _, _ => by simp [D.py, PyData.eqv, D.eqv]
  | .lst _, .bl _, _, _, _, _ => by simp [D.py, PyData.eqv, D.eqv]
  | .lst _, .int _, _, _, _, _ => by simp [D.py, PyData.eqv, D.eqv]
  | .lst _, .str _, _, _, _, _ => by simp [D.py, PyData.eqv, D.eqv]
  | .lst _, .tup _, _, _, _, _ => by simp [D.py, PyData.eqv, D.eqv]
  | .tup _, .non, _, _, _, _ => by simp [D.py, PyData.eqv, D.eqv]
  | .tup _, .bl _, _, _, _, _ => by simp [D.py, PyData.eqv, D.eqv]
  | .tup _, .int _, _, _, _, _ => by simp [D.py, PyData.eqv, D.eqv]
  | .tup _, .str _, _, _, _, _ => by simp [D.py, PyData.eqv, D.eqv]
  | .tup _, .lst _, _, _, _, _ => by simp [D.py, PyData.eqv, D.eqv]
theorem eqvs_py : ∀ (a b : List D) (j k : Nat), D.shps j a = true → D.shps k b = true → PyData.eqvAll (D.pys a) (D.pys b) = D.eqvs a b
  | [], [], _, _, _, _ => by simp [D.pys, PyData.eqvAll, D.eqvs]
  | [], _ :: _, _, _, _, _ => by simp [D.pys, PyData.eqvAll, D.eqvs]
  | _ :: _, [], _, _, _, _ => by simp [D.pys, PyData.eqvAll, D.eqvs]
  | x :: xs, y :: ys, j, k, h, h' => by
    have h1 : x.shp j = true ∧ D.shps j xs = true := by simpa [D.shps] using h
    have h2 : y.shp k = true ∧ D.shps k ys = true := by simpa [D.shps] using h'
    simp only [D.pys, PyData.eqvAll, D.eqvs]
    rw [eqv_py x y j k h1.1 h2.1, eqvs_py xs ys j k h1.2 h2.2]
end
theorem RpA.len : ∀ {ds : List D} {vs : List V}, RpA K F vs ds → vs.length = ds.length
  | [], _, h => by cases h; rfl
  | d :: ds, _, h => by
    cases h with
    | cons h1 h2 => simp [h2.len]
theorem RpA.get : ∀ {ds : List D} {vs : List V} {i : Nat} {d : D}, RpA K F vs ds → ds[i]? = some d → ∃ v, vs[i]? = some v ∧ Rp K F v d
  | [], _, _, _, h, e => by simp at e
  | x :: ds, _, 0, d, h, e => by
    cases h with
    | cons h1 h2 => simp at e; subst e; exact ⟨_, rfl, h1⟩
  | x :: ds, _, i + 1, d, h, e => by
    cases h with
    | cons h1 h2 => simpa using h2.get (by simpa using e)
theorem RpA.app : ∀ {ds es : List D} {vs us : List V}, RpA K F vs ds → RpA K F us es → RpA K F (vs ++ us) (ds ++ es)
  | [], _, _, _, h, h' => by cases h; exact h'
  | d :: ds, _, _, _, h, h' => by
    cases h with
    | cons h1 h2 => exact .cons h1 (h2.app h')
theorem RpA.rep {ds : List D} {vs : List V} (h : RpA K F vs ds) : ∀ n : Nat, RpA K F (List.replicate n vs).flatten (List.replicate n ds).flatten
  | 0 => .nil
  | n + 1 => by simp only [List.replicate_succ, List.flatten_cons]; exact h.app (h.rep n)
theorem RpA.take : ∀ {ds : List D} {vs : List V} (n : Nat), RpA K F vs ds → RpA K F (vs.take n) (ds.take n)
  | _, _, 0, _ => .nil
  | [], _, n + 1, h => by cases h; exact .nil
  | d :: ds, _, n + 1, h => by
    cases h with
    | cons h1 h2 => exact .cons h1 (h2.take n)
theorem RpA.drop : ∀ {ds : List D} {vs : List V} (n : Nat), RpA K F vs ds → RpA K F (vs.drop n) (ds.drop n)
  | _, _, 0, h => h
  | [], _, n + 1, h => by cases h; exact .nil
  | d :: ds, _, n + 1, h => by
    cases h with
    | cons h1 h2 => exact h2.drop n
theorem RpA.rev {ds : List D} {vs : List V} (h : RpA K F vs ds) : RpA K F vs.reverse ds.reverse := by
  have : ∀ {ds : List D} {vs : List V}, RpA K F vs ds → RpA K F vs.reverse ds.reverse := by
    intro ds
    induction ds with
    | nil => intro vs h; cases h; exact .nil
    | cons d ds ih =>
      intro vs h
      cases h with
      | cons h1 h2 => simp only [List.reverse_cons]; exact (ih h2).app (.cons h1 .nil)
  exact this h
theorem RpA.ints : ∀ {ds : List D} {vs : List V} {is : List Int}, RpA K F vs ds → D.ints ds = some is → vs = is.map V.int
  | [], _, _, h, e => by cases h; simp [D.ints] at e; subst e; rfl
  | .int i :: ds, _, is, h, e => by
    cases h with
    | cons h1 h2 =>
      cases h1
      simp only [D.ints, Option.map_eq_some_iff] at e
      obtain ⟨js, e1, rfl⟩ := e
      rw [h2.ints e1]; rfl
  | .non :: _, _, _, _, e => by simp [D.ints] at e
  | .bl _ :: _, _, _, _, e => by simp [D.ints] at e
  | .str _ :: _, _, _, _, e => by simp [D.ints] at e
  | .lst _ :: _, _, _, _, e => by simp [D.ints] at e
  | .tup _ :: _, _, _, _, e => by simp [D.ints] at e
  | .scr _ :: _, _, _, _, e => by simp [D.ints] at e
theorem RpA.bls : ∀ {ds : List D} {vs : List V} {is : List Bool}, RpA K F vs ds → D.bls ds = some is → vs = is.map V.bl
  | [], _, _, h, e => by cases h; simp [D.bls] at e; subst e; rfl
  | .bl i :: ds, _, is, h, e => by
    cases h with
    | cons h1 h2 =>
      cases h1
      simp only [D.bls, Option.map_eq_some_iff] at e
      obtain ⟨js, e1, rfl⟩ := e
      rw [h2.bls e1]; rfl
  | .non :: _, _, _, _, e => by simp [D.bls] at e
  | .int _ :: _, _, _, _, e => by simp [D.bls] at e
  | .str _ :: _, _, _, _, e => by simp [D.bls] at e
  | .lst _ :: _, _, _, _, e => by simp [D.bls] at e
  | .tup _ :: _, _, _, _, e => by simp [D.bls] at e
  | .scr _ :: _, _, _, _, e => by simp [D.bls] at e
theorem RpA.ofInts : ∀ (is : List Int), RpA K F (is.map V.int) (is.map D.int)
  | [] => .nil
  | i :: is => .cons (.int i) (RpA.ofInts is)

/-! ### cells -/
mutual
/-- a cell and the addresses that it owns -/
inductive CR (K : PySem.W.Frag) (F H : Hp) : V → Cell → List Addr → Prop
  | im {v : V} {d : D} : Rp K F v d → CR K F H v (.im d) []
  | ow {a : Addr} {vs : List V} {cs : List Cell} {f : List Addr} : F a = none → H a = some (.lst vs) → CRs K F H vs cs f → CR K F H (.ref a) (.ow cs) (a :: f)
inductive CRs (K : PySem.W.Frag) (F H : Hp) : List V → List Cell → List Addr → Prop
  | nil : CRs K F H [] [] []
  | cons {v : V} {vs : List V} {c : Cell} {cs : List Cell} {f g : List Addr} : CR K F H v c f → CRs K F H vs cs g → CRs K F H (v :: vs) (c :: cs) (f ++ g)
end
mutual
theorem CR.mono (e : Same F F') : ∀ {c : Cell} {v : V} {f : List Addr}, CR K F H v c f → (∀ a ∈ f, ∀ o, H a = some o → H' a = some o) → (∀ a ∈ f, F' a = none) → CR K F' H' v c f
  | .im d, _, _, h, _, _ => by
    cases h with
    | im h1 => exact .im (h1.mono e)
  | .ow cs, _, _, h, k, n => by
    cases h with
    | ow h1 h2 h3 => exact .ow (n _ (List.mem_cons_self ..)) (k _ (List.mem_cons_self ..) _ h2) (CRs.mono e h3 (fun a ha => k a (List.mem_cons_of_mem _ ha)) fun a ha => n a (List.mem_cons_of_mem _ ha))
theorem CRs.mono (e : Same F F') : ∀ {cs : List Cell} {vs : List V} {f : List Addr}, CRs K F H vs cs f → (∀ a ∈ f, ∀ o, H a = some o → H' a = some o) → (∀ a ∈ f, F' a = none) → CRs K F' H' vs cs f
  | [], _, _, h, _, _ => by cases h; exact .nil
  | c :: cs, _, _, h, k, n => by
    cases h with
    | cons h1 h2 => exact .cons (CR.mono e h1 (fun a ha => k a (List.mem_append_left _ ha)) fun a ha => n a (List.mem_append_left _ ha)) (CRs.mono e h2 (fun a ha => k a (List.mem_append_right _ ha)) fun a ha => n a (List.mem_append_right _ ha))
end
mutual
theorem CR.own : ∀ {c : Cell} {v : V} {f : List Addr}, CR K F H v c f → ∀ a ∈ f, F a = none ∧ ∃ vs, H a = some (.lst vs)
  | .im d, _, _, h, a, ha => by cases h; cases ha
  | .ow cs, _, _, h, a, ha => by
    cases h with
    | ow h1 h2 h3 =>
      rcases List.mem_cons.mp ha with rfl | ha
      · exact ⟨h1, _, h2⟩
      · exact CRs.own h3 a ha
theorem CRs.own : ∀ {cs : List Cell} {vs : List V} {f : List Addr}, CRs K F H vs cs f → ∀ a ∈ f, F a = none ∧ ∃ vs, H a = some (.lst vs)
  | [], _, _, h, a, ha => by cases h; cases ha
  | c :: cs, _, _, h, a, ha => by
    cases h with
    | cons h1 h2 =>
      rcases List.mem_append.mp ha with ha | ha
      · exact CR.own h1 a ha
      · exact CRs.own h2 a ha
end
/-- F and the owned objects at f -/
def frzF (F H : Hp) (f : List Addr) : Hp := fun a => if a ∈ f then H a else F a
theorem frzF_same {f : List Addr} (n : ∀ a ∈ f, F a = none) : Same F (frzF F H f) := fun a o e => by
  unfold frzF
  rw [if_neg (fun h => by rw [n a h] at e; cases e)]
  exact e
theorem frzF_le {f : List Addr} (s : Same F H) : Same (frzF F H f) H := fun a o e => by
  unfold frzF at e
  split at e
  · exact e
  · exact s a o e
mutual
theorem CR.rp {f0 : List Addr} (n : ∀ a ∈ f0, F a = none) : ∀ {c : Cell} {v : V} {f : List Addr}, CR K F H v c f → (∀ a ∈ f, a ∈ f0) → Rp K (frzF F H f0) v c.frz
  | .im d, _, _, h, _ => by
    cases h with
    | im h1 => exact h1.mono (frzF_same n)
  | .ow cs, _, _, h, s => by
    cases h with
    | ow h1 h2 h3 =>
      refine .lst ?_ (CRs.rp n h3 fun a ha => s a (List.mem_cons_of_mem _ ha))
      unfold frzF
      rw [if_pos (s _ (List.mem_cons_self ..))]
      exact h2
theorem CRs.rp {f0 : List Addr} (n : ∀ a ∈ f0, F a = none) : ∀ {cs : List Cell} {vs : List V} {f : List Addr}, CRs K F H vs cs f → (∀ a ∈ f, a ∈ f0) → RpA K (frzF F H f0) vs (Cell.frzs cs)
  | [], _, _, h, _ => by cases h; exact .nil
  | c :: cs, _, _, h, s => by
    cases h with
    | cons h1 h2 => exact .cons (CR.rp n h1 fun a ha => s a (List.mem_append_left _ ha)) (CRs.rp n h2 fun a ha => s a (List.mem_append_right _ ha))
end
theorem CR.inH {c : Cell} {v : V} {f : List Addr} (h : CR K F H v c f) (s : Same F H) : Rp K H v c.frz :=
  (h.rp (fun a ha => (h.own a ha).1) fun _ z => z).mono (frzF_le s)
theorem CRs.inH {cs : List Cell} {vs : List V} {f : List Addr} (h : CRs K F H vs cs f) (s : Same F H) : RpA K H vs (Cell.frzs cs) :=
  (h.rp (fun a ha => (h.own a ha).1) fun _ z => z).mono (frzF_le s)
theorem CRs.len : ∀ {cs : List Cell} {vs : List V} {f : List Addr}, CRs K F H vs cs f → vs.length = cs.length
  | [], _, _, h => by cases h; rfl
  | c :: cs, _, _, h => by
    cases h with
    | cons h1 h2 => simp [h2.len]
theorem CRs.ims : ∀ {cs : List Cell} {vs : List V} {f : List Addr} {ds : List D}, CRs K F H vs cs f → Cell.ims cs = some ds → RpA K F vs ds ∧ f = []
  | [], _, _, _, h, e => by cases h; simp [Cell.ims] at e; subst e; exact ⟨.nil, rfl⟩
  | .im d :: cs, _, _, ds, h, e => by
    cases h with
    | cons h1 h2 =>
      simp only [Cell.ims, Option.map_eq_some_iff] at e
      obtain ⟨es, e1, rfl⟩ := e
      cases h1 with
      | im h1 =>
        obtain ⟨q, rfl⟩ := h2.ims e1
        exact ⟨.cons h1 q, rfl⟩
  | .ow _ :: _, _, _, _, _, e => by simp [Cell.ims] at e
theorem CRs.ofIms : ∀ {ds : List D} {vs : List V}, RpA K F vs ds → CRs K F H vs (ds.map .im) []
  | [], _, h => by cases h; exact .nil
  | d :: ds, _, h => by
    cases h with
    | cons h1 h2 => exact .cons (.im h1) (CRs.ofIms h2)
theorem ims_map : ∀ ds : List D, Cell.ims (ds.map .im) = some ds
  | [] => rfl
  | d :: ds => by simp [Cell.ims, ims_map ds]
theorem frzs_map : ∀ ds : List D, Cell.frzs (ds.map .im) = ds
  | [] => rfl
  | d :: ds => by simp [Cell.frzs, Cell.frz, frzs_map ds]
theorem ims_frzs : ∀ {cs : List Cell} {ds : List D}, Cell.ims cs = some ds → Cell.frzs cs = ds ∧ cs = ds.map .im
  | [], _, e => by simp [Cell.ims] at e; subst e; exact ⟨rfl, rfl⟩
  | .im d :: cs, ds, e => by
    simp only [Cell.ims, Option.map_eq_some_iff] at e
    obtain ⟨es, e1, rfl⟩ := e
    obtain ⟨h1, h2⟩ := ims_frzs e1
    simp [Cell.frzs, Cell.frz, h1, ← h2]
  | .ow _ :: _, _, e => by simp [Cell.ims] at e
theorem frzs_len : ∀ cs : List Cell, (Cell.frzs cs).length = cs.length
  | [] => rfl
  | c :: cs => by simp [Cell.frzs, frzs_len cs]
/-- a list of data, of whatever kind -/
theorem CR.els {c : Cell} {v : V} {f : List Addr} {ds : List D} (h : CR K F H v c f) (s : Same F H) (e : c.els = some ds) : ∃ a vs, v = .ref a ∧ H a = some (.lst vs) ∧ RpA K F vs ds := by
  cases c with
  | im d =>
    cases d with
    | lst es =>
      simp only [Cell.els, Option.some.injEq] at e
      subst e
      cases h with
      | im h =>
        cases h with
        | lst h1 h2 => exact ⟨_, _, rfl, s _ _ h1, h2⟩
    | _ => simp [Cell.els] at e
  | ow cs =>
    cases h with
    | ow h1 h2 h3 => exact ⟨_, _, rfl, h2, (h3.ims e).1⟩
theorem els_frz {c : Cell} {ds : List D} (e : c.els = some ds) : c.frz = .lst ds := by
  cases c with
  | im d =>
    cases d with
    | lst es => simp only [Cell.els, Option.some.injEq] at e; subst e; rfl
    | _ => simp [Cell.els] at e
  | ow cs => simp only [Cell.frz, (ims_frzs (show Cell.ims cs = some ds from e)).1]
theorem CRs.get : ∀ {cs : List Cell} {vs : List V} {f : List Addr} {i : Nat} {c : Cell}, CRs K F H vs cs f → cs[i]? = some c → ∃ v g, vs[i]? = some v ∧ CR K F H v c g ∧ g.Sublist f
  | [], _, _, _, _, h, e => by simp at e
  | x :: cs, _, _, 0, c, h, e => by
    cases h with
    | cons h1 h2 => simp at e; subst e; exact ⟨_, _, rfl, h1, List.sublist_append_left ..⟩
  | x :: cs, _, _, i + 1, c, h, e => by
    cases h with
    | cons h1 h2 =>
      obtain ⟨v, g, a, b, d⟩ := h2.get (i := i) (by simpa using e)
      exact ⟨v, g, by simpa using a, b, d.trans (List.sublist_append_right ..)⟩
theorem CRs.app : ∀ {cs es : List Cell} {vs us : List V} {f g : List Addr}, CRs K F H vs cs f → CRs K F H us es g → CRs K F H (vs ++ us) (cs ++ es) (f ++ g)
  | [], _, _, _, _, _, h, h' => by cases h; exact h'
  | c :: cs, _, _, _, _, _, h, h' => by
    cases h with
    | cons h1 h2 => rw [List.append_assoc]; exact .cons h1 (h2.app h')
end
end Mi
/-! The slots, the step from one state to a later one. -/
namespace Mi
open PySem PySem.Spec L2

/-- one slot: its value, what is known, what it owns; p: the object that was handed in to be changed -/
inductive SlR (K : PySem.W.Frag) (F H : Hp) (p : Addr) : Option V → Sl → List Addr → Prop
  | no {o : Option V} : SlR K F H p o .no []
  | c {v : V} {c : Cell} {f : List Addr} : CR K F H v c f → SlR K F H p (some v) (.c c) f
  | io : SlR K F H p (some (.ref p)) .io []
inductive ER (K : PySem.W.Frag) (F H : Hp) (p : Addr) : St → List Sl → List Addr → Prop
  | nil : ER K F H p [] [] []
  | cons {o : Option V} {σ : St} {s : Sl} {ρ : List Sl} {f g : List Addr} : SlR K F H p o s f → ER K F H p σ ρ g → ER K F H p (o :: σ) (s :: ρ) (f ++ g)
/-- the object that was handed in to be changed; l: its address, or nothing -/
def IoR (K : PySem.W.Frag) (F H : Hp) (p : Addr) : Option (List D) → List Addr → Prop
  | none, l => l = []
  | some ds, l => l = [p] ∧ F p = none ∧ ∃ vs, H p = some (.lst vs) ∧ RpA K F vs ds
structure SR (K : PySem.W.Frag) (F H : Hp) (σ : St) (S : Sta) (p : Addr) (l f : List Addr) : Prop where
  sub : Same F H
  er : ER K F H p σ S.ρ f
  ior : IoR K F H p S.io l
  nd : (l ++ f).Nodup
section
variable {K : PySem.W.Frag} {F F' F1 F2 H H' H1 H2 : Hp} {p : Addr} {σ : St}
theorem SlR.mono (e : Same F F') {o : Option V} {s : Sl} {f : List Addr} (h : SlR K F H p o s f) (k : ∀ a ∈ f, ∀ o, H a = some o → H' a = some o) (n : ∀ a ∈ f, F' a = none) : SlR K F' H' p o s f := by
  cases h with
  | no => exact .no
  | c h => exact .c (h.mono e k n)
  | io => exact .io
theorem SlR.own {o : Option V} {s : Sl} {f : List Addr} (h : SlR K F H p o s f) : ∀ a ∈ f, F a = none ∧ ∃ vs, H a = some (.lst vs) := by
  cases h with
  | no => intro a ha; cases ha
  | c h => exact h.own
  | io => intro a ha; cases ha
theorem ER.mono (e : Same F F') : ∀ {ρ : List Sl} {σ : St} {f : List Addr}, ER K F H p σ ρ f → (∀ a ∈ f, ∀ o, H a = some o → H' a = some o) → (∀ a ∈ f, F' a = none) → ER K F' H' p σ ρ f
  | [], _, _, h, _, _ => by cases h; exact .nil
  | s :: ρ, _, _, h, k, n => by
    cases h with
    | cons h1 h2 => exact .cons (h1.mono e (fun a ha => k a (List.mem_append_left _ ha)) fun a ha => n a (List.mem_append_left _ ha)) (h2.mono e (fun a ha => k a (List.mem_append_right _ ha)) fun a ha => n a (List.mem_append_right _ ha))
theorem ER.own : ∀ {ρ : List Sl} {σ : St} {f : List Addr}, ER K F H p σ ρ f → ∀ a ∈ f, F a = none ∧ ∃ vs, H a = some (.lst vs)
  | [], _, _, h, a, ha => by cases h; cases ha
  | s :: ρ, _, _, h, a, ha => by
    cases h with
    | cons h1 h2 =>
      rcases List.mem_append.mp ha with ha | ha
      · exact h1.own a ha
      · exact h2.own a ha
theorem ER.len : ∀ {ρ : List Sl} {σ : St} {f : List Addr}, ER K F H p σ ρ f → σ.length = ρ.length
  | [], _, _, h => by cases h; rfl
  | s :: ρ, _, _, h => by
    cases h with
    | cons h1 h2 => simp [h2.len]
/-- one slot taken out: what it owns lies between the others' -/
theorem ER.at : ∀ {ρ : List Sl} {σ : St} {f : List Addr} {i : Nat} {s : Sl}, ER K F H p σ ρ f → ρ[i]? = some s →
    ∃ o f1 g f2, σ[i]? = some o ∧ f = f1 ++ (g ++ f2) ∧ SlR K F H p o s g ∧
      ∀ (F' H' : Hp) (o' : Option V) (s' : Sl) (g' : List Addr), Same F F' → (∀ a ∈ f1 ++ f2, ∀ o, H a = some o → H' a = some o) → (∀ a ∈ f1 ++ f2, F' a = none) → SlR K F' H' p o' s' g' →
        ER K F' H' p (σ.set i o') (ρ.set i s') (f1 ++ (g' ++ f2))
  | [], _, _, _, _, h, e => by simp at e
  | x :: ρ, _, _, 0, s, h, e => by
    cases h with
    | @cons o σ _ _ f g h1 h2 =>
      simp at e; subst e
      exact ⟨o, [], f, g, rfl, rfl, h1, fun F' H' o' s' g' ef k n q => (show ER K F' H' p (o' :: σ) (s' :: ρ) (g' ++ g) from .cons q (h2.mono ef (fun a ha => k a (by simpa using ha)) fun a ha => n a (by simpa using ha)))⟩
  | x :: ρ, _, _, i + 1, s, h, e => by
    cases h with
    | @cons o σ _ _ f g h1 h2 =>
      obtain ⟨o', f1, g', f2, a, b, c, d⟩ := h2.at (i := i) (by simpa using e)
      subst b
      refine ⟨o', f ++ f1, g', f2, by simpa using a, by simp, c, fun F' H' o2 s2 g2 ef k n q => ?_⟩
      have := d F' H' o2 s2 g2 ef (fun a ha => k a (by rcases List.mem_append.mp ha with z | z <;> simp [z])) (fun a ha => n a (by rcases List.mem_append.mp ha with z | z <;> simp [z])) q
      have h1' := h1.mono ef (fun a ha => k a (by simp [ha])) fun a ha => n a (by simp [ha])
      have r := ER.cons h1' this
      simpa using r

/-- the step: from F, H to F', H'. mu: what may change -/
structure Stp (F H F' H' : Hp) (mu : List Addr) : Prop where
  ff : Same F F'
  keep : ∀ a o, H a = some o → a ∉ mu → H' a = some o
  nocap : ∀ a o, H a = some o → F a = none → a ∉ mu → F' a = none
theorem Stp.refl {mu : List Addr} : Stp F H F H mu := ⟨fun _ _ h => h, fun _ _ h _ => h, fun _ _ _ h _ => h⟩
theorem Stp.trans {mu mu' : List Addr} (a : Stp F H F1 H1 mu) (b : Stp F1 H1 F2 H2 mu') (h : ∀ x ∈ mu', x ∈ mu ∨ H x = none) : Stp F H F2 H2 mu := by
  refine ⟨fun x o e => b.ff x o (a.ff x o e), fun x o e n => ?_, fun x o e f n => ?_⟩
  · refine b.keep x o (a.keep x o e n) fun z => ?_
    rcases h x z with z | z
    · exact n z
    · rw [e] at z; cases z
  · refine b.nocap x o (a.keep x o e n) (a.nocap x o e f n) fun z => ?_
    rcases h x z with z | z
    · exact n z
    · rw [e] at z; cases z
theorem Stp.wide {mu mu' : List Addr} (a : Stp F H F1 H1 mu) (h : ∀ x ∈ mu, x ∈ mu') : Stp F H F1 H1 mu' :=
  ⟨a.ff, fun x o e n => a.keep x o e fun z => n (h x z), fun x o e f n => a.nocap x o e f fun z => n (h x z)⟩
/-- nothing changed: all is as it was -/
theorem Stp.same (a : Stp F H F' H' []) : Same H H' := fun x o e => a.keep x o e (by simp)
/-- a cell that is held through a step -/
theorem CR.held {mu : List Addr} {c : Cell} {v : V} {f : List Addr} (h : CR K F H v c f) (a : Stp F H F' H' mu) (n : ∀ x ∈ f, x ∉ mu) : CR K F' H' v c f :=
  h.mono a.ff (fun x hx o e => a.keep x o e (n x hx)) fun x hx => let ⟨h1, vs, h2⟩ := h.own x hx; a.nocap x _ h2 h1 (n x hx)
theorem CRs.held {mu : List Addr} {cs : List Cell} {vs : List V} {f : List Addr} (h : CRs K F H vs cs f) (a : Stp F H F' H' mu) (n : ∀ x ∈ f, x ∉ mu) : CRs K F' H' vs cs f :=
  CRs.mono a.ff h (fun x hx o e => a.keep x o e (n x hx)) fun x hx => let ⟨h1, vs, h2⟩ := h.own x hx; a.nocap x _ h2 h1 (n x hx)
/-- what may change in a term -/
def mus (pu : Bool) (l f : List Addr) : List Addr := if pu then [] else l ++ f
/-- from a state to a later one, with new cells at g -/
structure Go (K : PySem.W.Frag) (σ : St) (p : Addr) (l : List Addr) (F H : Hp) (S : Sta) (f : List Addr) (pu : Bool) (F' H' : Hp) (σ' : St) (S' : Sta) (f' g : List Addr) : Prop where
  st : Stp F H F' H' (mus pu l f)
  sr : SR K F' H' σ' S' p l f'
  nd : (l ++ (f' ++ g)).Nodup
  nw : ∀ a ∈ f' ++ g, a ∈ f ∨ H a = none
  pu : pu = true → S' = S ∧ f' = f ∧ σ' = σ
theorem Go.refl {l f : List Addr} {S : Sta} {pu : Bool} (s : SR K F H σ S p l f) : Go K σ p l F H S f pu F H σ S f [] :=
  ⟨.refl, s, by simpa using s.nd, fun a ha => .inl (by simpa using ha), fun _ => ⟨rfl, rfl, rfl⟩⟩
/-- the new cells of the first step are held through the second -/
theorem Go.trans {l f f1 f2 g1 g2 : List Addr} {S S1 S2 : Sta} {σ1 σ2 : St} {pu pu' : Bool} (a : Go K σ p l F H S f pu F1 H1 σ1 S1 f1 g1) (b : Go K σ1 p l F1 H1 S1 f1 pu' F2 H2 σ2 S2 f2 g2)
    (own : ∀ x ∈ g1, F1 x = none ∧ ∃ vs, H1 x = some (.lst vs)) : Go K σ p l F H S f (pu && pu') F2 H2 σ2 S2 f2 (g1 ++ g2) ∧ Stp F1 H1 F2 H2 (mus pu' l f1) ∧ ∀ x ∈ g1, x ∉ mus pu' l f1 := by
  have nd1 := a.nd
  have nd2 := b.nd
  have hg : ∀ x ∈ g1, x ∉ l ++ f1 := fun x hx z => by
    rw [← List.append_assoc, List.nodup_append] at nd1
    exact nd1.2.2 x z x hx rfl
  have hg' : ∀ x ∈ g1, x ∉ mus pu' l f1 := fun x hx z => by
    unfold mus at z
    split at z
    · cases z
    · exact hg x hx z
  have hnew : ∀ x ∈ f2 ++ g2, x ∉ g1 := fun x hx z => by
    rcases b.nw x hx with q | q
    · exact hg x z (List.mem_append_right _ q)
    · obtain ⟨_, vs, e⟩ := own x z
      rw [e] at q; cases q
  have hnone : ∀ x, H1 x = none → x ∉ mus pu l f → H x = none := fun x hx hm => by
    cases e : H x with
    | none => rfl
    | some o => rw [a.st.keep x o e hm] at hx; cases hx
  have hmus : ∀ x, x ∈ f1 ++ g1 → x ∈ f ∨ H x = none := a.nw
  have mm : ∀ x ∈ mus pu' l f1, x ∈ mus (pu && pu') l f ∨ H x = none := fun x hx => by
    unfold mus at hx ⊢
    cases pu' with
    | true => cases hx
    | false =>
      rw [if_neg (by simp)] at hx
      rw [Bool.and_false, if_neg (by simp)]
      rcases List.mem_append.mp hx with z | z
      · exact .inl (List.mem_append_left _ z)
      · rcases hmus x (List.mem_append_left _ z) with q | q
        · exact .inl (List.mem_append_right _ q)
        · exact .inr q
  refine ⟨⟨(a.st.wide fun x hx => ?_).trans b.st mm, b.sr, ?_, fun x hx => ?_, fun h => ?_⟩, b.st, hg'⟩
  · unfold mus at hx ⊢
    cases pu with
    | true => cases hx
    | false => simpa using hx
  · rw [List.nodup_append] at nd1 nd2 ⊢
    refine ⟨nd2.1, ?_, fun x hx y hy => ?_⟩
    · have n2 := nd2.2.1
      have n1 := nd1.2.1
      rw [List.nodup_append] at n1 n2 ⊢
      refine ⟨n2.1, ?_, fun x hx y hy => ?_⟩
      · rw [List.nodup_append]
        refine ⟨n1.2.1, n2.2.1, fun x hx y hy e => ?_⟩
        subst e
        exact hnew x (List.mem_append_right _ hy) hx
      · rcases List.mem_append.mp hy with z | z
        · exact fun e => hnew x (List.mem_append_left _ hx) (by rw [e]; exact z)
        · exact n2.2.2 x hx y z
    · rcases List.mem_append.mp hy with z | z
      · exact nd2.2.2 x hx y (List.mem_append_left _ z)
      · rcases List.mem_append.mp z with z | z
        · exact nd1.2.2 x hx y (List.mem_append_right _ z)
        · exact nd2.2.2 x hx y (List.mem_append_right _ z)
  · rcases List.mem_append.mp hx with z | z
    · rcases b.nw x (List.mem_append_left _ z) with q | q
      · exact hmus x (List.mem_append_left _ q)
      · by_cases m : x ∈ mus pu l f
        · unfold mus at m
          split at m
          · cases m
          · rcases List.mem_append.mp m with m | m
            · exact absurd rfl (nd2 |> fun n => by rw [List.nodup_append] at n; exact n.2.2 x m x (List.mem_append_left _ z))
            · exact .inl m
        · exact .inr (hnone x q m)
    · rcases List.mem_append.mp z with z | z
      · exact hmus x (List.mem_append_right _ z)
      · rcases b.nw x (List.mem_append_right _ z) with q | q
        · exact hmus x (List.mem_append_left _ q)
        · by_cases m : x ∈ mus pu l f
          · unfold mus at m
            split at m
            · cases m
            · rcases List.mem_append.mp m with m | m
              · exact absurd rfl (nd2 |> fun n => by rw [List.nodup_append] at n; exact n.2.2 x m x (List.mem_append_right _ z))
              · exact .inl m
          · exact .inr (hnone x q m)
  · simp only [Bool.and_eq_true] at h
    obtain ⟨h1, h2, h3⟩ := a.pu h.1
    obtain ⟨k1, k2, k3⟩ := b.pu h.2
    exact ⟨k1.trans h1, k2.trans h2, k3.trans h3⟩
/-- fewer new cells -/
theorem Go.less {l f f1 g g' : List Addr} {S S1 : Sta} {σ1 : St} {pu : Bool} (a : Go K σ p l F H S f pu F1 H1 σ1 S1 f1 g) (s : g'.Sublist g) : Go K σ p l F H S f pu F1 H1 σ1 S1 f1 g' :=
  ⟨a.st, a.sr, a.nd.sublist ((List.Sublist.refl l).append ((List.Sublist.refl f1).append s)), fun x hx => a.nw x (by
    rcases List.mem_append.mp hx with z | z
    · exact List.mem_append_left _ z
    · exact List.mem_append_right _ (s.subset z)), a.pu⟩
theorem Go.nil {l f f1 g : List Addr} {S S1 : Sta} {σ1 : St} {pu : Bool} (a : Go K σ p l F H S f pu F1 H1 σ1 S1 f1 g) : Go K σ p l F H S f pu F1 H1 σ1 S1 f1 [] := a.less (List.nil_sublist _)
theorem Go.unpure {l f f1 g : List Addr} {S S1 : Sta} {σ1 : St} {pu : Bool} (a : Go K σ p l F H S f pu F1 H1 σ1 S1 f1 g) : Go K σ p l F H S f false F1 H1 σ1 S1 f1 g :=
  ⟨a.st.wide fun x hx => by
    unfold mus at hx ⊢
    split at hx
    · cases hx
    · simpa using hx, a.sr, a.nd, a.nw, fun h => by cases h⟩
/-- a step of H, F on the untracked new: the state is as it was -/
theorem SR.step {l f : List Addr} {S : Sta} (s : SR K F H σ S p l f) (a : Stp F H F' H' []) (sub : Same F' H') : SR K F' H' σ S p l f := by
  refine ⟨sub, s.er.mono a.ff (fun x _ o e => a.same x o e) fun x hx => ?_, ?_, s.nd⟩
  · obtain ⟨h1, vs, h2⟩ := s.er.own x hx
    exact a.nocap x _ h2 h1 (by simp)
  · have q := s.ior
    unfold IoR at q ⊢
    split at q
    · exact q
    · obtain ⟨q1, q2, vs, q3, q4⟩ := q
      exact ⟨q1, a.nocap _ _ q3 q2 (by simp), vs, a.same _ _ q3, q4.mono a.ff⟩
theorem Go.step {l f f1 g g' : List Addr} {S S1 : Sta} {σ1 : St} {pu : Bool} (a : Go K σ p l F H S f pu F1 H1 σ1 S1 f1 g) (b : Stp F1 H1 F2 H2 []) (sub : Same F2 H2) (new : ∀ x ∈ g', x ∈ g ∨ H1 x = none) (ng : g'.Nodup) : Go K σ p l F H S f pu F2 H2 σ1 S1 f1 g' := by
  have nd := a.nd
  have lf : ∀ x ∈ l ++ f1, ∃ o, H1 x = some o := fun x hx => by
    rcases List.mem_append.mp hx with z | z
    · have q := a.sr.ior
      unfold IoR at q
      split at q
      · subst q; cases z
      · obtain ⟨q1, q2, vs, q3, q4⟩ := q
        subst q1
        have : x = p := by simpa using z
        subst this
        exact ⟨_, q3⟩
    · obtain ⟨_, vs, e⟩ := a.sr.er.own x z
      exact ⟨_, e⟩
  have dis : ∀ x ∈ l ++ f1, ∀ y ∈ g', x ≠ y := fun x hx y hy e => by
    subst e
    rcases new x hy with z | z
    · rw [← List.append_assoc, List.nodup_append] at nd
      exact nd.2.2 x hx x z rfl
    · obtain ⟨o, e⟩ := lf x hx
      rw [e] at z; cases z
  refine ⟨a.st.trans b (fun x hx => by cases hx), a.sr.step b sub, ?_, fun x hx => ?_, a.pu⟩
  · rw [← List.append_assoc, List.nodup_append]
    rw [← List.append_assoc, List.nodup_append] at nd
    exact ⟨nd.1, ng, dis⟩
  · rcases List.mem_append.mp hx with z | z
    · exact a.nw x (List.mem_append_left _ z)
    · rcases new x z with q | q
      · exact a.nw x (List.mem_append_right _ q)
      · cases e : H x with
        | none => exact .inr rfl
        | some o =>
          by_cases m : x ∈ mus pu l f
          · unfold mus at m
            split at m
            · cases m
            · rcases List.mem_append.mp m with m | m
              · exact absurd rfl (dis x (List.mem_append_left _ m) x z)
              · exact .inl m
          · rw [a.st.keep x o e m] at q; cases q
/-- a new object of H alone -/
theorem Go.newH {l f f1 g : List Addr} {S S1 : Sta} {σ1 : St} {pu : Bool} {q : Addr} {o : HO} (a : Go K σ p l F H S f pu F1 H1 σ1 S1 f1 g) (n : H1 q = none) (own : ∀ x ∈ g, ∃ o, H1 x = some o) :
    Go K σ p l F H S f pu F1 (upd H1 q o) σ1 S1 f1 (q :: g) ∧ F1 q = none ∧ Stp F1 H1 F1 (upd H1 q o) [] := by
  have fq : F1 q = none := by
    cases e : F1 q with
    | none => rfl
    | some u => rw [a.sr.sub _ _ e] at n; cases n
  have st : Stp F1 H1 F1 (upd H1 q o) [] := ⟨fun _ _ h => h, fun x u e _ => by rw [upd_ne (ne_of_none e n)]; exact e, fun _ _ _ h _ => h⟩
  refine ⟨a.step st (fun x u e => by rw [upd_ne (ne_of_none (a.sr.sub _ _ e) n)]; exact a.sr.sub _ _ e) (fun x hx => ?_) ?_, fq, st⟩
  · rcases List.mem_cons.mp hx with rfl | hx
    · exact .inr n
    · exact .inl hx
  · have nd := a.nd
    refine List.nodup_cons.mpr ⟨fun z => ?_, ?_⟩
    · obtain ⟨u, e⟩ := own _ z
      rw [e] at n; cases n
    · rw [List.nodup_append] at nd
      have := nd.2.1
      rw [List.nodup_append] at this
      exact this.2.1
theorem Go.new1 {l f f1 g : List Addr} {S S1 : Sta} {σ1 : St} {pu : Bool} {q : Addr} {o : HO} (a : Go K σ p l F H S f pu F1 H1 σ1 S1 f1 g) (n : H1 q = none) :
    Go K σ p l F H S f pu F1 (upd H1 q o) σ1 S1 f1 [q] ∧ F1 q = none ∧ Stp F1 H1 F1 (upd H1 q o) [] := a.nil.newH n fun _ z => nomatch z
/-- a new object of F -/
theorem Go.newF {l f f1 g : List Addr} {S S1 : Sta} {σ1 : St} {pu : Bool} {q : Addr} {o : HO} (a : Go K σ p l F H S f pu F1 H1 σ1 S1 f1 g) (n : H1 q = none) :
    Go K σ p l F H S f pu (upd F1 q o) (upd H1 q o) σ1 S1 f1 [] ∧ Stp F1 H1 (upd F1 q o) (upd H1 q o) [] := by
  have fq : F1 q = none := by
    cases e : F1 q with
    | none => rfl
    | some u => rw [a.sr.sub _ _ e] at n; cases n
  have st : Stp F1 H1 (upd F1 q o) (upd H1 q o) [] := ⟨fun x u e => by rw [upd_ne (ne_of_none e fq)]; exact e, fun x u e _ => by rw [upd_ne (ne_of_none e n)]; exact e, fun x u e h _ => by rw [upd_ne (ne_of_none e n)]; exact h⟩
  refine ⟨a.step st (fun x u e => ?_) (fun x hx => nomatch hx) List.nodup_nil, st⟩
  by_cases h : x = q
  · subst h; rw [upd_same] at e ⊢; exact e
  · rw [upd_ne h] at e ⊢; exact a.sr.sub _ _ e
/-- new cells are frozen -/
theorem Go.freeze {l f f1 g : List Addr} {S S1 : Sta} {σ1 : St} {pu : Bool} (a : Go K σ p l F H S f pu F1 H1 σ1 S1 f1 g) (own : ∀ x ∈ g, F1 x = none) :
    Go K σ p l F H S f pu (frzF F1 H1 g) H1 σ1 S1 f1 [] := by
  have nd := a.nd
  have ff : Same F1 (frzF F1 H1 g) := frzF_same own
  have le : Same (frzF F1 H1 g) H1 := frzF_le a.sr.sub
  have out : ∀ x, x ∉ g → frzF F1 H1 g x = F1 x := fun x h => by unfold frzF; rw [if_neg h]
  have dis : ∀ x ∈ l ++ f1, x ∉ g := fun x hx z => by
    rw [← List.append_assoc, List.nodup_append] at nd
    exact nd.2.2 x hx x z rfl
  have hm : ∀ x ∈ g, ∀ o, H x = some o → F x = none → x ∉ mus pu l f → False := fun x hx o e h m => by
    rcases a.nw x (List.mem_append_right _ hx) with z | z
    · cases hp : pu with
      | false => rw [hp] at m; exact m (by unfold mus; rw [if_neg (by simp)]; exact List.mem_append_right _ z)
      | true =>
        have := (a.pu hp).2.1
        exact dis x (List.mem_append_right _ (by rw [this]; exact z)) hx
    · rw [e] at z; cases z
  refine ⟨⟨fun x o e => ff x o (a.st.ff x o e), a.st.keep, fun x o e h m => ?_⟩, ⟨le, a.sr.er.mono ff (fun _ _ _ h => h) (fun x hx => ?_), ?_, a.sr.nd⟩, by simpa using a.sr.nd, fun x hx => a.nw x (by simp at hx; exact List.mem_append_left _ hx), a.pu⟩
  · by_cases hx : x ∈ g
    · exact (hm x hx o e h m).elim
    · rw [out x hx]; exact a.st.nocap x o e h m
  · rw [out x (dis x (List.mem_append_right _ hx))]
    exact (a.sr.er.own x hx).1
  · have q := a.sr.ior
    unfold IoR at q ⊢
    split at q
    · exact q
    · obtain ⟨q1, q2, vs, q3, q4⟩ := q
      exact ⟨q1, by rw [out p (dis p (List.mem_append_left _ (by rw [q1]; simp)))]; exact q2, vs, q3, q4.mono ff⟩
end
end Mi
namespace Mi
open PySem PySem.Spec PyProof.Rows L2
/-! ### a def's promise where no repr is under way -/
structure FnG (P : Program) (w : World) (K : PySem.W.Frag) (mg : Str → Option Value) (base : Heap) (k : Nat) (f : Addr) (fd : FuncData) (ps : List Str) (sp : Sp) : Prop where
  ln : ∀ vs H Q E, sp vs H Q E → vs.length = ps.length
  go : ∀ (A : Around) (ot : List Env) (s : Shared) (H : Hp) (ar : Args) (us : List Value) (vs : List V) (Q : VK) (E : XK), Room k A → A.guards = some [] → Env0 P w K mg base A ot s H → BindsTo s fd ar (ps.zip us) → Vals vs us → sp vs H Q E →
    codeAny (model P w) A (.call (.ref f) ar) (L2.CR CX0 ot P w H s Q E) s
theorem FnG.up {P : Program} {w : World} {K : PySem.W.Frag} {mg : Str → Option Value} {base : Heap} {i k : Nat} {f : Addr} {fd : FuncData} {ps : List Str} {sp : Sp} (F : FnG P w K mg base i f fd ps sp) (h : i ≤ k) : FnG P w K mg base k f fd ps sp :=
  ⟨F.ln, fun A ot s H ar us vs Q E hr hg he hb hv hs => F.go A ot s H ar us vs Q E (hr.mono h) hg he hb hv hs⟩
section
variable {X : Cx} {k : Nat} {f : Addr} {fd : FuncData} {ps : List Str} {sp : Sp} {E : XK} {x : Str} {p pos : Pos} {e : Expr} {es : List Expr} {t : TA}
theorem run_G {pins : List (Addr × Obj)} {σ : L2.St} {H : Hp} {s : Shared} {Q : VK} {us : List Value} {vs : List V} (F : FnG X.prog X.w X.K X.mg X.base k f fd ps sp) (hr : Room k X.A) (hg : X.A.guards = some []) (hb : Binds X.K fd ps []) (hx : Passes CX0 X E)
    (I : Inv X pins σ H s) (r : Vals vs us) (h : sp vs H Q E) : wpAny (model X.prog X.w) X.A (call (.ref f) us) (EP X pins σ Q) X.xe s := by
  have lu : us.length = ps.length := r.length.symm.trans (F.ln _ _ _ _ h)
  have b0 := hb s us I.kIn (by rw [List.append_nil]; exact lu)
  rw [List.append_nil] at b0
  refine wpAny_call (codeAny_mono (F.go X.A X.stack s H ⟨us, []⟩ us vs Q E hr hg I.env0 b0 r h) fun res s2 q => ?_)
  match res, q with
  | .error e, q => exact hx pins σ H s e s2 I q
  | .ok (.ret u), q => exact I.after q
theorem pe_callG (F : FnG X.prog X.w X.K X.mg X.base k f fd ps sp) (hr : Room k X.A) (hu : X.A.guards = some []) (hg : Gl X x) (hm : X.mg x = some (.ref f)) (hk : PySem.W.keepIn X.K (.ref f) = true) (hb : Binds X.K fd ps []) (hx : Passes CX0 X E)
    (ha : PA X (e :: es) t) (hdb : (x == ("__debug__" : Str)) = false) (he : starEach (e :: es) X.env = (false, eval e X.env) :: starEach es X.env) (hpl : (backTo pos (starEach es X.env)).any (·.1) = false) :
    PE X (.Call (.Name x p) (e :: es) [] pos) (fun σ H Q => t σ H fun vs H1 => sp vs H1 Q E) :=
  ⟨fun pins s σ H Q I h => wpAny_Call_Name_kw (ld_glob I hg hm (PySem.W.callWith_K (h₀ := X.base) I.ok.mod.kin hk (thn (ha.run pos pins s σ H _ I h) fun us s1 ⟨vs, H1, I1, r, q⟩ => ⟨I1.kIn, run_G F hr hu hb hx I1 r q⟩) he hpl) hdb)⟩
theorem pe_callG0 (F : FnG X.prog X.w X.K X.mg X.base k f fd ps sp) (hr : Room k X.A) (hu : X.A.guards = some []) (hg : Gl X x) (hm : X.mg x = some (.ref f)) (hk : PySem.W.keepIn X.K (.ref f) = true) (hb : Binds X.K fd ps []) (hx : Passes CX0 X E)
    (hdb : (x == ("__debug__" : Str)) = false) : PE X (.Call (.Name x p) [] [] pos) (fun σ H Q => sp [] H Q E) :=
  ⟨fun pins s σ H Q I h => wpAny_Call_Name_kw (ld_glob I hg hm (PySem.W.callWith_K0 I.kIn hk (run_G (us := []) F hr hu hb hx I .nil h)) hdb)⟩
end
end Mi
namespace Mi
open PySem PySem.Spec PyProof.Rows L2
section
variable {P : Program} {w : World} {K : PySem.W.Frag} {mg : Str → Option Value} {base : Heap}
theorem okG {x qual : Str} {st : Stmt} {f : Addr} {fd : FuncData} {N ps : List Str} {k : Nat} {sp : Sp} (F : L2.Fun K x qual st f fd) (S : FnScope N ps (defScope st)) (ln : ∀ vs H Q E, sp vs H Q E → vs.length = ps.length)
    (body : ∀ (cdv : Value) (A : Around) (ot : List Env) (s : Shared) (H : Hp) (vs : List V) (Q : VK) (E : XK), Room k (A.deeper (envOfC qual (defScope st) s.heap.objs.size f cdv)) → A.guards = some [] → sp vs H Q E →
      ∃ t, PSs (cxOf CX0 P w K mg base N qual (defScope st) f cdv A ot s H E).nox (defBody st) t ∧ t { nx := fun _ G => Q .non G, rt := Q } (start N vs) H) : FnG P w K mg base (k + 1) f fd ps sp := by
  obtain ⟨oc, od, kV, doc, pm, an, cdv, ct, osl, rfl, lk, cin⟩ := F.ex
  constructor
  · exact ln
  · intro A ot s H ar us vs Q E hr hg e0 hb rel q
    have same : ∀ b o, base.get? b = some o → s.heap.get? b = some o := fun b o z => (e0.bs b o z).1
    have kin : K.In s.heap := e0.mod.kin.keeps same
    have nol := e0.mod.nolimit.keeps same
    have kd : ∀ y ∈ ps.zip us, (defScope st).names.lookup y.1 = some .local ∨ ((defScope st).names.lookup y.1 = some .cell ∧ ((cellsFrom (s.heap.objs.size + 1) (defScope st).names []).lookup y.1).isSome = true) := by
      rintro ⟨m, v⟩ hy
      exact (S.par m (List.of_mem_zip hy).1).imp id fun z => ⟨z, PySem.W.cellsFrom_some _ _ _ (.inl z)⟩
    apply codeAny_call_function hr.depth (kin _ _ lk) rfl S.co S.gen rfl (PySem.W.codeRec_of kin cin)
    apply hb
    apply wpAny_newFunctionEnv_cells S.kind kd
    intro env he s1 x1
    subst he
    refine ⟨nol.keeps x1.toInCall.keep, codeAny_func ?_⟩
    obtain ⟨t, pt, ht⟩ := body cdv A ot s H vs Q E (hr.deeper _) hg q
    have I1 := inv_start (CX := CX0) (P := P) (w := w) (mg := mg) (base := base) (f := f) (cd := cdv) (E := E) S hr.hd e0 (ln _ _ _ _ q) rel x1
    apply wpAny_mono (pt.nox.run [] s1 (start N vs) H _ I1 ht)
    · intro fl s2 hs
      cases fl with
      | next =>
        obtain ⟨σ2, H2, J, z⟩ := hs
        exact ⟨V.non, H2, J.os, J.bare, J.base, J.hok, rfl, z⟩
      | ret u =>
        obtain ⟨v, σ2, H2, J, rv, z⟩ := hs
        exact ⟨v, H2, J.os, J.bare, J.base, J.hok, rv, z⟩
      | brk => obtain ⟨_, _, _, z⟩ := hs; exact z.elim
      | cont => obtain ⟨_, _, _, z⟩ := hs; exact z.elim
    · exact fun _ _ z => z
end
end Mi
namespace Mi
open PySem PySem.Spec PyProof.Rows L2
/-- a law's own call, over a script at a -/
theorem lawG {P : Program} {w : World} {K : PySem.W.Frag} {mg mb : Str → Option Value} {k : Nat} {fa a : Addr} {fd : FuncData} {x : Str} {sp : Sp} {s : Shared} {us : List Value} {ns : List Int}
    (kx : K.In s.heap) (g1 : s.heap.Ns mainGlobals mg) (g2 : s.heap.Ns builtinsNs mb) (g3 : ∀ y : Str, y ≠ "__name__" → mb y = bootBuiltins y) (nol : s.heap.NoLimit) (gen : s.gens = #[])
    (at0 : s.heap.get? a = some { cls := .type "list", data := .seq us.toArray }) (hint : IntsAre us ns) (len : ns.length ≤ sizeLine) (room : Room k callerA)
    (F : ∀ base : Heap, K.In base → base.Ns mainGlobals mg → FnG P w K mg base k fa fd [x] sp) (bind : ∀ (s : Shared) (u : Value), BindsTo s fd ⟨[u], []⟩ [(x, u)])
    (hsp : ∀ H : Hp, Only H → SqL K H a (ns.map V.int) → sp [.ref a] H (fun v _ => v = .bl true) fun _ _ _ => False) :
    codeAny (model P w) callerA (.call (.ref fa) ⟨[.ref a], []⟩) (fun r t => r = .ok (.ret (.bool true)) ∧ OldK s.heap t.heap ∧ t.os = s.os ∧ AllBare t.gens) s := by
  have rv := vals_ints hint
  have lu : us.length = ns.length := hint.length
  -- a heap that tracks the script at most
  have main : ∀ G : Hp, Only G → SqL K G a (ns.map V.int) → HOk P w G s.heap → (∀ b, G b ≠ none → b = a ∧ K.lookup a = none) →
      codeAny (model P w) callerA (.call (.ref fa) ⟨[.ref a], []⟩) (fun r t => r = .ok (.ret (.bool true)) ∧ OldK s.heap t.heap ∧ t.os = s.os ∧ AllBare t.gens) s := by
    intro G only sq hok lone
    have free : ∀ {b : Addr}, b ≠ a → G b = none := fun {b} ne => by
      cases z : G b with
      | none => rfl
      | some u => exact absurd (lone b (by rw [z]; nofun)).1 ne
    have dictFree : ∀ {b : Addr} {o : Obj} {es : Array DictEntry} {ep : Nat}, s.heap.get? b = some o → o.data = .dict es ep → G b = none := fun {b o es ep} e d => free fun z => by
      subst z
      rw [at0] at e
      cases e
      have d2 : Data.seq us.toArray _ = Data.dict es ep := d
      cases d2
    have nsH : ∀ {b : Addr} {m : Str → Option Value}, s.heap.Ns b m → (hidT s.heap G).Ns b m := by
      rintro b m ⟨o, es, ep, e, d, r⟩
      exact ⟨o, es, ep, hidT_get e (dictFree e d), d, r⟩
    have inH : K.In (hidT s.heap G) := fun b o e => hidT_get (kx b o e) (by
      cases z : G b with
      | none => rfl
      | some u =>
        obtain ⟨e1, e2⟩ := lone b (by rw [z]; nofun)
        subst e1
        rw [e2] at e
        cases e)
    have md : Mod K mg (hidT s.heap G) := by
      obtain ⟨mc, l1, l2⟩ := nol
      exact ⟨inH, nsH g1, ⟨mb, nsH g2, g3⟩, ⟨mc, nsH l1, l2⟩⟩
    have e0 : Env0 P w K mg (hidT s.heap G) callerA [] s G := by
      refine ⟨rfl, md, fun b o e => of_hidT e, Nat.le_of_eq (hidT_size _ _), trivial, ?_, hok, .of_eq gen⟩
      intro b hb
      cases (show b ∈ ([] : List Addr) from hb)
    have run := (F _ inH (nsH g1)).go callerA [] s G ⟨[.ref a], []⟩ [.ref a] [.ref a] _ _ room rfl e0 (bind s (.ref a)) (.cons rfl .nil) (hsp G only sq)
    refine codeAny_mono run fun r t h => ?_
    match r, h with
    | .error e, h => exact h.elim
    | .ok (.ret u), ⟨v, G2, os, bare, un, hok2, r2, q⟩ =>
      have q2 : v = .bl true := q
      subst q2
      have ru : u = Value.bool true := r2
      subst ru
      refine ⟨rfl, OldK.of_keep fun b o e => ?_, os, bare⟩
      cases z : G b with
      | none =>
        refine un.keep b o e z ?_ ?_
        · intro y; cases (show b ∈ ([] : List Addr) from y)
        · simp
      | some u =>
        rcases only b with y | ⟨ob, xs, y⟩
        · rw [z] at y; cases y
        · have f1 := (hok _ _ y).1
          have f2 := (hok2 _ _ (un.frzs b ob _ y)).1
          rw [e] at f1
          cases f1
          exact f2
  cases hk : K.lookup a with
  | some o =>
    have e := kx a o hk
    rw [at0] at e
    cases e
    have sq : SqL K (fun _ => none) a (ns.map V.int) := .inr ⟨_, us.toArray, _, hk, rfl, rfl, rfl, by rw [List.size_toArray, lu]; exact len, by simpa using rv⟩
    exact main (fun _ => none) (fun _ => .inl rfl) sq (fun _ _ z => nomatch z) fun _ z => (z rfl).elim
  | none =>
    let G : Hp := fun b => if b = a then some (.frz { cls := .type "list", data := .seq us.toArray } (.lst (ns.map V.int))) else none
    have Ga : G a = some (.frz { cls := .type "list", data := .seq us.toArray } (.lst (ns.map V.int))) := if_pos rfl
    have Gn : ∀ b, b ≠ a → G b = none := fun b h => if_neg h
    refine main G (fun b => ?_) (.inl (.inr ⟨_, Ga⟩)) (fun b u z => ?_) fun b z => ?_
    · by_cases h : b = a
      · subst h; exact .inr ⟨_, _, Ga⟩
      · exact .inl (Gn b h)
    · by_cases h : b = a
      · subst h
        rw [Ga] at z
        cases z
        exact ⟨at0, by rw [List.length_map]; exact len, us, _, rv, at0⟩
      · rw [Gn b h] at z
        cases z
    · by_cases h : b = a
      · exact ⟨h, hk⟩
      · exact absurd (Gn b h) z
theorem walkG {l : PySem.W.OpenLaw} {n k : Nat} {q : Program} {loose : List Str} {XP : (Str → Option Value) → Heap → Prop} {YP : World → Heap → Prop} {d : DefRec} {K : Params → PySem.W.Frag} {sp : World → Sp} {x : Str}
    (most : l.most = some n) (small : n ≤ sizeLine) (plain : d.params.defaults = []) (room : Room k callerA) (part : ∀ (w : World) (h : Heap), YP w h → (K w.params).In h)
    (F : ∀ (w : World) (mg : Str → Option Value) (fa : Addr) (h : Heap), (K w.params).In h → h.Ns mainGlobals mg → mg d.name = some (.ref fa) →
      ∃ fd : FuncData, (∀ (s : Shared) (v : Value), BindsTo s fd ⟨[v], []⟩ [(x, v)]) ∧ ∀ base : Heap, (K w.params).In base → base.Ns mainGlobals mg → FnG l.prog w (K w.params) mg base k fa fd [x] (sp w))
    (hsp : ∀ (w : World) (H : Hp) (a : Addr) (ns : List Int), ns.length ≤ n → SqL (K w.params) H a (ns.map V.int) → sp w [.ref a] H (fun v _ => v = .bl true) fun _ _ _ => False) :
    PySem.W.WalkO q loose XP YP l.row.toRowW d [] (fun f vs => PySem.call f vs) := by
  apply Att.attach_call most plain
  intro w s0 s1 mg mb fa o pm cd doc a us ns G Y ho hd hcd hmg hobj hint len gen
  obtain ⟨fd, hb, hF⟩ := F w mg fa _ (part w _ Y) G.T.g hmg
  exact lawG (part w _ Y) G.T.g G.T.b G.T.builtins G.T.nolimit gen hobj hint (Nat.le_trans len small) room hF hb fun H _ hS => hsp w H a ns len hS
end Mi
/-! How a term stands to the written text; what its reading is; the operations. -/
namespace Mi
open PySem PySem.Spec L2

/-! ### the text -/
def Vs (sc : Scope) (x : Str) : Prop := sc.names.lookup x = some .local ∨ sc.names.lookup x = some .cell ∨ sc.names.lookup x = some .free
def vsB (sc : Scope) (x : Str) : Bool := match sc.names.lookup x with | some .local => true | some .cell => true | some .free => true | _ => false
def glB (sc : Scope) (x : Str) : Bool := match sc.names.lookup x with | some .globalImplicit => true | _ => false
def nmB (x : Str) : Bool := !(x == "__debug__") && !(x == "__classdict__") && !(x == "__name__")
def lcB (sc : Scope) (x : Str) : Bool := match sc.names.lookup x with | some .local => true | some .cell => true | _ => false
/-- an expression of a plain form -/
def plE : Expr → Bool
  | .Set .. => false | .Starred .. => false | .SetComp .. => false | .DictComp .. => false | .GeneratorExp .. => false | .Slice .. => false | .NamedExpr .. => false | .Yield .. => false | .YieldFrom .. => false | .Await .. => false
  | .Lambda .. => false | .Dict .. => false | .FormattedValue .. => false | .JoinedStr .. => false | _ => true
/-- the names of built-ins that calls may have -/
def bltNs : List Str := ["len", "int", "max", "min", "sum", "any", "all", "abs", "list", "sorted", "tuple", "repr"]
/-- what the text's own part tells: the defs' names, the constants -/
structure Txt where
  fs : List (Str × Bool)
  cs : List (Str × Int)
def ctEq (c : Const) : ME → Bool := fun m => match m, c with
  | .non, .none => true
  | .bl b, .bool k => b == k
  | .int i, .int k => i == k
  | .str s, .str k => s == k
  | _, _ => false
def boolE : Expr → Bool
  | .BoolOp .. => true | _ => false
def tstB : Expr → Bool
  | .UnaryOp .Not _ _ => false | .BoolOp .. => false | .IfExp .. => false | .Compare .. => false | _ => true
def nm1 (N : List Str) (sc : Scope) (i : Nat) : Expr → Bool
  | .Name x _ => decide (N[i]? = some x) && vsB sc x && nmB x
  | _ => false
mutual
def tgt (N : List Str) (sc : Scope) (own : Option (List Nat)) : MT → Expr → Bool
  | .nm i, .Name x _ => decide (N[i]? = some x) && lcB sc x && nmB x && (match own with | none => true | some vs => vs.contains i)
  | .tp ts, .Tuple es _ _ => tgts N sc own ts es
  | _, _ => false
def tgts (N : List Str) (sc : Scope) (own : Option (List Nat)) : MTs → List Expr → Bool
  | .nil, [] => true
  | .cons t ts, e :: es => tgt N sc own t e && tgts N sc own ts es
  | _, _ => false
end
def noCall : Expr → Bool
  | .Call .. => false | _ => true
def isTupE : Expr → Bool
  | .Tuple .. => true | _ => false
mutual
def mt (tx : Txt) (N : List Str) (sc : Scope) : ME → Expr → Bool
  | .var i, e => nm1 N sc i e
  | .fvar i, e => nm1 N sc i e
  | .mvar i, e => nm1 N sc i e
  | .non, .Constant c _ _ => ctEq c .non
  | .bl b, .Constant c _ _ => ctEq c (.bl b)
  | .int i, .Constant c _ _ => ctEq c (.int i)
  | .str s, .Constant c _ _ => ctEq c (.str s)
  | .glob x i, .Name y _ => decide (x = y) && glB sc x && nmB x && tx.cs.contains (x, i)
  | .bin op a b, .BinOp x o y _ => decide (op = o) && mt tx N sc a x && mt tx N sc b y
  | .neg a, .UnaryOp .USub x _ => mt tx N sc a x
  | .not a, .UnaryOp .Not x _ => mt tx N sc a x
  | .cmp op a b, .Compare x [o] [y] _ => decide (op = o) && mt tx N sc a x && mt tx N sc b y
  | .chain o1 o2 a b c, .Compare x [p1, p2] [y, z] _ => decide (o1 = p1) && decide (o2 = p2) && mt tx N sc a x && mt tx N sc b y && mt tx N sc c z
  | .and a r, .BoolOp .And (x :: y :: rest) pos => mt tx N sc a x && mt tx N sc r (.BoolOp .And (y :: rest) pos)
  | .or a r, .BoolOp .Or (x :: y :: rest) pos => mt tx N sc a x && mt tx N sc r (.BoolOp .Or (y :: rest) pos)
  | .one a, .BoolOp _ [x] _ => mt tx N sc a x
  | .ite c a b, .IfExp x y z _ => mt tx N sc c x && mt tx N sc a y && mt tx N sc b z
  | .tup es, .Tuple xs _ _ => mts tx N sc es xs
  | .lst es, .List xs _ => mts tx N sc es xs
  | .idx a i, .Subscript x y _ => mt tx N sc a x && mt tx N sc i y
  | .slc a lo hi, .Subscript x (.Slice l h none _) _ => mt tx N sc a x && (match l with | none => lo.isNo | some e => !lo.isNo && mt tx N sc lo e) && (match h with | none => hi.isNo | some e => !hi.isNo && mt tx N sc hi e)
  | .rev a, .Subscript x (.Slice none none (some (.UnaryOp .USub (.Constant (.int i) _ _) _)) _) _ => decide (i = 1) && mt tx N sc a x
  | .comp own e t it c, .ListComp x [⟨tg, iter, ifs, z⟩] scope _ => decide (z = 0) && blkC N sc scope own && mtI tx N sc it iter tg && tgt N scope (some (own.map (·.2))) t tg && mts tx N (relS scope sc) c ifs && mt tx N (relS scope sc) e x && decide (ifs.length ≤ 1)
  | .comp2 own e t it c vs1 t1 it1 c1, .ListComp x [⟨tg, iter, ifs, z⟩, ⟨tg1, iter1, ifs1, z1⟩] scope _ => decide (z = 0) && decide (z1 = 0) && blkC N sc scope own && mtI tx N sc it iter tg && tgt N scope (some (own.map (·.2))) t tg && mts tx N (relS scope sc) c ifs &&
      mtI tx N (relS scope sc) it1 iter1 tg1 && tgt N scope (some vs1) t1 tg1 && mts tx N (relS scope sc) c1 ifs1 && mt tx N (relS scope sc) e x && decide (ifs.length ≤ 1) && decide (ifs1.length ≤ 1)
  | .call f args, .Call (.Name x _) (e :: es) [] _ => decide (tx.fs[f]? = some (x, false)) && glB sc x && nmB x && mts tx N sc args (e :: es)
  | .callIo f i args, .Call (.Name x _) (e :: es) [] _ => decide (tx.fs[f]? = some (x, true)) && glB sc x && nmB x && nm1 N sc i e && mts tx N sc args es
  | .blt b args, .Call (.Name x _) (e :: es) [] _ => decide (b = x) && bltNs.contains b && glB sc x && nmB x && mts tx N sc args (e :: es)
  | .lrng1 a, .Call (.Name l _) [.Call (.Name r _) [x] [] _] [] _ => decide (l = "list") && decide (r = "range") && glB sc l && glB sc r && mt tx N sc a x
  | .lrng2 a b, .Call (.Name l _) [.Call (.Name r _) [x, y] [] _] [] _ => decide (l = "list") && decide (r = "range") && glB sc l && glB sc r && mt tx N sc a x && mt tx N sc b y
  | .isi a tup ts, .Call (.Name x _) [e, ty] [] _ => decide (x = "isinstance") && glB sc x && mt tx N sc a e && (match tup, ty, ts with
      | false, .Name t _, [u] => decide (t = u) && glB sc t && nmB t
      | true, .Tuple es _ _, us => isiNs sc us es && decide (us.length ≤ 9) && us.all (fun u => (["int", "bool", "str", "list", "tuple"] : List Str).contains u) && !us.isEmpty
      | _, _, _ => false)
  | .pop0 i, .Call (.Attribute y m ap) [] [] p => decide (m = "pop") && nm1 N sc i y && (ap.endLine == p.line)
  | .pop i e, .Call (.Attribute y m ap) [x] [] p => decide (m = "pop") && nm1 N sc i y && mt tx N sc e x && (ap.endLine == p.line)
  | .fz e, y => plE y && (mt tx N sc e y && tstB y && !boolE y)
  | .ixof a e, .Call (.Attribute y m ap) [x] [] p => decide (m = "index") && noCall y && mt tx N sc a y && mt tx N sc e x && (ap.endLine == p.line)
  | .never, e => plE e
  | _, _ => false
def mts (tx : Txt) (N : List Str) (sc : Scope) : Es → List Expr → Bool
  | .nil, [] => true
  | .cons e es, x :: xs => mt tx N sc e x && mts tx N sc es xs
  | _, _ => false
def mtI (tx : Txt) (N : List Str) (sc : Scope) : MI → Expr → Expr → Bool
  | .ex e, x, _ => mt tx N sc e x
  | .rng1 a, .Call (.Name r _) [x] [] _, _ => decide (r = "range") && glB sc r && mt tx N sc a x
  | .rng2 a b, .Call (.Name r _) [x, y] [] _, _ => decide (r = "range") && glB sc r && mt tx N sc a x && mt tx N sc b y
  | .enum e, .Call (.Name r _) [x] [] _, tg => decide (r = "enumerate") && glB sc r && mt tx N sc e x && isTupE tg
  | .zip a b, .Call (.Name r _) [x, y] [] _, tg => decide (r = "zip") && glB sc r && mt tx N sc a x && mt tx N sc b y && isTupE tg
  | .never, e, _ => plE e
  | _, _, _ => false
def isiNs (sc : Scope) : List Str → List Expr → Bool
  | [], [] => true
  | u :: us, .Name t _ :: es => decide (t = u) && glB sc t && nmB t && isiNs sc us es
  | _, _ => false
end
theorem nm1_of {N : List Str} {sc : Scope} {i : Nat} {e : Expr} (h : nm1 N sc i e = true) : ∃ x pos, e = .Name x pos ∧ N[i]? = some x ∧ Vs sc x ∧ (x == ("__debug__" : Str)) = false ∧ (x == ("__classdict__" : Str)) = false := by
  unfold nm1 at h
  split at h
  · rename_i x pos
    simp only [Bool.and_eq_true, decide_eq_true_eq] at h
    obtain ⟨⟨h1, h2⟩, h3⟩ := h
    refine ⟨x, pos, rfl, h1, ?_, ?_, ?_⟩
    · unfold vsB at h2
      unfold Vs
      split at h2 <;> simp_all
    · unfold nmB at h3; simp at h3; simp [h3]
    · unfold nmB at h3; simp at h3; simp [h3]
  · cases h
theorem plE_of {tx : Txt} {N : List Str} {sc : Scope} {m : ME} {e : Expr} (h : mt tx N sc m e = true) : plE e = true := by
  cases m with
  | fz m => unfold mt at h; simp only [Bool.and_eq_true] at h; exact h.1
  | _ => cases e <;> first | rfl | (simp [mt, nm1] at h; done) | (simpa [mt] using h)
theorem mts_pl {tx : Txt} {N : List Str} {sc : Scope} : ∀ {es : Es} {xs : List Expr}, mts tx N sc es xs = true → ∀ x ∈ xs, plE x = true
  | .nil, [], _, x, hx => nomatch hx
  | .nil, _ :: _, h, _, _ => by simp [mts] at h
  | .cons e es, [], h, _, _ => by simp [mts] at h
  | .cons e es, y :: ys, h, x, hx => by
    simp only [mts, Bool.and_eq_true] at h
    rcases List.mem_cons.mp hx with rfl | hx
    · exact plE_of h.1
    · exact mts_pl h.2 x hx
theorem starEach_pl {e : Expr} (h : plE e = true) (es : List Expr) (env : Env) : starEach (e :: es) env = (false, eval e env) :: starEach es env := by
  cases e <;> first | rfl | (simp [plE] at h)
theorem back_pl {pos : Pos} {env : Env} : ∀ {es : List Expr}, (∀ x ∈ es, plE x = true) → (backTo pos (starEach es env)).any (·.1) = false
  | [], _ => rfl
  | e :: es, h => by
    rw [starEach_pl (h e (List.mem_cons_self ..))]
    have := back_pl (pos := pos) (env := env) (es := es) fun x hx => h x (List.mem_cons_of_mem _ hx)
    simp only [backTo, List.map_cons, List.any_cons] at this ⊢
    simpa using this
theorem plainIx_pl {e : Expr} (h : plE e = true) : PlainIx e := by
  intro o i
  cases e <;> first | rfl | (simp [plE] at h)
theorem marks_pl {e : Expr} (h : plE e = true) (op : CmpOp) : behindInMarks op e = false := by
  cases e <;> first | rfl | (simp [plE] at h)
theorem folded_pl {e : Expr} (h : plE e = true) (env : Env) (x : Value) : foldedSetIterable e env x = pure x := by
  cases e <;> first | rfl | (simp [plE] at h)
theorem attr_pl {e : Expr} {m : Str} {env : Env} (h : ∀ f as ks p, e ≠ .Call f as ks p) : attributeBase e m env (eval e env) = eval e env := by
  cases e <;> first | rfl | exact absurd rfl (h _ _ _ _)

/-! ### the facts of the place where code runs -/
/-- what a def's call comes to, as a promise. u: the object to be changed -/
def IoA (K : PySem.W.Frag) (F H : Hp) : Option (List D) → List V → List V → Option Addr → Prop
  | none, vs, ws, q => vs = ws ∧ q = none
  | some ds, vs, ws, q => ∃ p us, vs = .ref p :: ws ∧ q = some p ∧ F p = none ∧ H p = some (.lst us) ∧ RpA K F us ds
def spF (cf : CF) (f : Nat) (n : Nat) (K : PySem.W.Frag) : Sp := fun vs H Q _ => vs.length = n ∧ ∃ F u ws q ds, Same F H ∧ IoA K F H u vs ws q ∧ RpA K F ws ds ∧ ∃ c u', cf f ds u = some (c, u') ∧
  ∀ v F' H' g, Stp F H F' H' q.toList → Same F' H' → CR K F' H' v c g → g.Nodup → (∀ a ∈ g, H a = none) → (∀ w, u' = some w → u.isSome = true → ∃ p us, q = some p ∧ F' p = none ∧ H' p = some (.lst us) ∧ RpA K F' us w) → Q v H'
structure Fx (tx : Txt) (cf : CF) (k : Nat) (N : List Str) (X : Cx) : Prop where
  hN : X.N = N
  nd : N.Nodup
  calm : X.calm = true
  room : Room (k + 1) X.A
  fn : ∀ f x b, tx.fs[f]? = some (x, b) → ∃ fa fd ps, X.mg x = some (.ref fa) ∧ PySem.W.keepIn X.K (.ref fa) = true ∧ Binds X.K fd ps [] ∧ FnG X.prog X.w X.K X.mg X.base k fa fd ps (spF cf f ps.length X.K) ∧ (∀ ds u r, cf f ds u = some r → u.isSome = b ∧ r.2.isSome = b ∧ ds.length + (if b then 1 else 0) = ps.length)
  cst : ∀ x i, (x, i) ∈ tx.cs → ∃ t, X.mg x = some (.int i t)
  blt : ∀ x ∈ (["len", "int", "max", "min", "sum", "any", "all", "abs", "list", "sorted", "range", "enumerate", "zip", "isinstance", "bool", "str", "tuple", "repr"] : List Str), X.mg x = none
  gd : X.A.guards = some []
theorem Fx.blk {tx : Txt} {cf : CF} {k : Nat} {N : List Str} {X : Cx} (h : Fx tx cf k N X) (s : Shared) (H : Hp) (scope : Scope) (cenv : Env) (fp : List Addr) : Fx tx cf k N (X.blk s H scope cenv fp) :=
  ⟨h.hN, h.nd, h.calm, h.room, h.fn, h.cst, h.blt, h.gd⟩
theorem Fx.nox {tx : Txt} {cf : CF} {k : Nat} {N : List Str} {X : Cx} (h : Fx tx cf k N X) : Fx tx cf k N X.nox :=
  ⟨h.hN, h.nd, h.calm, h.room, h.fn, h.cst, h.blt, h.gd⟩

/-! ### readings -/
def RR (K : PySem.W.Frag) (F H : Hp) (l f : List Addr) (v : V) : R → List Addr → Prop
  | .own c, g => CR K F H v c g
  | .bor c, g => g = [] ∧ ∃ b, CR K F H v c b ∧ ∀ a ∈ b, a ∈ l ++ f
/-- a term's reading -/
def tE (K : PySem.W.Frag) (t : Sta → Option (R × Sta)) (pu : Bool) : TE := fun σ H Q => ∃ F S p l f, SR K F H σ S p l f ∧ ∃ r S', t S = some (r, S') ∧
  ∀ v F' H' f' g, Go K σ p l F H S f pu F' H' σ S' f' g → RR K F' H' l f' v r g → Q v H'
def tT (K : PySem.W.Frag) (t : Sta → Option (Bool × Sta)) (pu : Bool) : TT := fun σ H Q => ∃ F S p l f, SR K F H σ S p l f ∧ ∃ b S', t S = some (b, S') ∧
  ∀ F' H' f', Go K σ p l F H S f pu F' H' σ S' f' [] → Q b H'
section
variable {K : PySem.W.Frag} {F F' F1 F2 H H' H1 H2 : Hp} {p : Addr} {σ : L2.St} {l f g : List Addr} {v : V} {r : R} {c : Cell}
theorem RR.cr (h : RR K F H l f v r g) : ∃ b, CR K F H v r.c b := by
  cases r with
  | own c => exact ⟨g, h⟩
  | bor c => exact ⟨_, h.2.choose_spec.1⟩
theorem RR.ownG (h : RR K F H l f v r g) : ∀ x ∈ g, F x = none ∧ ∃ vs, H x = some (.lst vs) := by
  cases r with
  | own c => exact CR.own h
  | bor c => intro x hx; rw [h.1] at hx; cases hx
/-- a result that is held through a step which, if it belongs to a slot, changes nothing -/
theorem RR.held {f1 : List Addr} {mu : List Addr} (h : RR K F H l f v r g) (a : Stp F H F' H' mu) (n : ∀ x ∈ g, x ∉ mu) (hb : r.isBor = true → mu = [] ∧ f1 = f) : RR K F' H' l f1 v r g := by
  cases r with
  | own c => exact CR.held h a n
  | bor c =>
    obtain ⟨rfl, rfl⟩ := hb rfl
    obtain ⟨h1, b, h2, h3⟩ := h
    exact ⟨h1, b, h2.held a (fun x _ z => nomatch z), h3⟩
/-- what an operation makes -/
inductive New (K : PySem.W.Frag) (F H : Hp) : Cell → V → Hp → Hp → Prop
  | sc {v : V} {d : D} : Rp K F v d → New K F H (.im d) v F H
  | lst {q : Addr} {vs : List V} {ds : List D} : H q = none → RpA K F vs ds → New K F H (.ow (ds.map .im)) (.ref q) F (upd H q (.lst vs))
  | tup {q : Addr} {vs : List V} {ds : List D} : H q = none → RpA K F vs ds → New K F H (.im (.tup ds)) (.ref q) (upd F q (.tup vs)) (upd H q (.tup vs))
theorem Go.made {S S1 : Sta} {f1 : List Addr} {σ1 : L2.St} {pu : Bool} (a : Go K σ p l F H S f pu F1 H1 σ1 S1 f1 g) (n : New K F1 H1 c v F2 H2) :
    ∃ g', Go K σ p l F H S f pu F2 H2 σ1 S1 f1 g' ∧ CR K F2 H2 v c g' ∧ Stp F1 H1 F2 H2 [] := by
  cases n with
  | sc h => exact ⟨[], a.nil, .im h, .refl⟩
  | lst h1 h2 =>
    obtain ⟨b, fq, st⟩ := a.new1 h1
    refine ⟨_, b, ?_, st⟩
    exact .ow fq upd_same (CRs.ofIms h2)
  | @tup q vs ds h1 h2 =>
    obtain ⟨go3, st⟩ := a.newF (o := .tup vs) h1
    exact ⟨[], go3, .im (.tup (.inl (.inl upd_same)) (h2.mono st.ff)), st⟩
end

/-! ### operations by values -/
theorem OpR.imp {X : Cx} {f : Value → Value → Sem Value} {r r' : R2} (h : OpR X f r) (i : ∀ x y H Q, r' x y H Q → r x y H Q) : OpR X f r' :=
  fun pins s σ H x y v u Q I rx ry q => h pins s σ H x y v u Q I rx ry (i x y H Q q)
section
variable {X : Cx} {K : PySem.W.Frag} {F H : Hp}
theorem frz_int {c : Cell} {i : Int} (h : c.frz = .int i) : c = .im (.int i) := by
  cases c with
  | im d => simp only [Cell.frz] at h; rw [h]
  | ow cs => simp [Cell.frz] at h
theorem CR.int {v : V} {i : Int} {f : List Addr} (h : CR K F H v (.im (.int i)) f) : v = .int i := by
  cases h with
  | im h => cases h; rfl
theorem RpA.sum {vs : List V} {ds : List D} (h : RpA K F vs ds) : True := trivial
/-- a op b -/
def rBin (op : Operator) (K : PySem.W.Frag) : R2 := fun x y H Q => ∃ F ca cb fa fb c, Same F H ∧ CR K F H x ca fa ∧ CR K F H y cb fb ∧ binC op ca cb = some c ∧ ∀ v F' H', New K F H c v F' H' → Q v H'
theorem op_bin (op : Operator) : OpR X (binaryOp op) (rBin op X.K) := by
  intro pins s σ H x y v u Q I rx ry h
  obtain ⟨F, ca, cb, fa, fb, c, sub, ha, hb, e, k⟩ := h
  have hs : sizeLine = 16777216 := sizeLine_eq
  unfold binC at e
  split at e
  · rename_i i j hi hj
    rw [frz_int hi] at ha
    rw [frz_int hj] at hb
    have hx := ha.int
    have hy := hb.int
    subst hx hy
    simp only [Option.map_eq_some_iff] at e
    obtain ⟨z, e, rfl⟩ := e
    have fin : Q (.int z) H := k _ _ _ (.sc (.int z))
    unfold ibin at e
    split at e <;> first
      | (cases e; first
          | exact op_add pins s σ H _ _ v u Q I rx ry ⟨_, _, rfl, rfl, fin⟩
          | exact op_sub pins s σ H _ _ v u Q I rx ry ⟨_, _, rfl, rfl, fin⟩
          | exact op_and pins s σ H _ _ v u Q I rx ry ⟨_, _, rfl, rfl, fin⟩
          | exact op_or pins s σ H _ _ v u Q I rx ry ⟨_, _, rfl, rfl, fin⟩
          | exact op_xor pins s σ H _ _ v u Q I rx ry ⟨_, _, rfl, rfl, fin⟩)
      | (split at e
         · rename_i hc
           cases e
           first
            | exact op_mul pins s σ H _ _ v u Q I rx ry ⟨_, _, rfl, rfl, hc, fin⟩
            | exact op_fdiv pins s σ H _ _ v u Q I rx ry ⟨_, _, rfl, rfl, hc, fin⟩
            | exact op_mod pins s σ H _ _ v u Q I rx ry ⟨_, _, rfl, rfl, hc, fin⟩
            | exact op_pow pins s σ H _ _ v u Q I rx ry ⟨_, _, rfl, rfl, hc, fin⟩
            | exact op_shl pins s σ H _ _ v u Q I rx ry ⟨_, _, rfl, rfl, hc, fin⟩
            | exact op_shr pins s σ H _ _ v u Q I rx ry ⟨_, _, rfl, rfl, hc, fin⟩
         · cases e)
      | (cases e; done)
  · split at e
    · rename_i xs ys hx hy
      split at e
      · rename_i hz
        cases e
        obtain ⟨a, vs, rfl, e1, r1⟩ := ha.els sub hx
        obtain ⟨b, us, rfl, e2, r2⟩ := hb.els sub hy
        exact op_cat pins s σ H _ _ v u Q I rx ry ⟨a, b, vs, us, rfl, rfl, e1, e2, by rw [r1.len, r2.len, hs]; exact hz, fun q hq => k _ _ _ (.lst hq (r1.app r2))⟩
      · cases e
    · cases e
  · rename_i ds kk hlst hki
    split at e
    · rename_i xs hx
      split at e
      · rename_i hz
        cases e
        obtain ⟨a, vs, rfl, e1, r1⟩ := ha.els sub hx
        rw [frz_int hki] at hb
        have hy := hb.int
        subst hy
        exact op_rep pins s σ H _ _ v u Q I rx ry ⟨a, _, vs, rfl, rfl, e1, hz.1, hz.2.1, by rw [r1.len, hs]; exact hz.2.2, fun q hq => k _ _ _ (.lst hq (r1.rep _))⟩
      · cases e
    · cases e
  · cases e
/-- the comparison of two data -/
def rCmp (op : CmpOp) (K : PySem.W.Frag) : R2 := fun x y H Q => ∃ a b k, Rp K H x a ∧ Rp K H y b ∧ scmp op a b = some k ∧ Q (.bl k) H
theorem pys_any (ds : List D) (a : D) (j : Nat) (h : D.shps j ds = true) (h' : a.shp 60 = true) : ((D.pys ds).any fun z => PyData.eqv z a.py) = ds.any fun z => z.eqv a := by
  induction ds with
  | nil => rfl
  | cons d ds ih =>
    have s' : d.shp j = true ∧ D.shps j ds = true := by simpa [D.shps] using h
    simp only [D.pys, List.any_cons]
    rw [ih s'.2, eqv_py d a j 60 s'.1 h']
theorem op_cmp (op : CmpOp) (hr : Room 1 X.A) : OpR X (compareOp op) (rCmp op X.K) := by
  intro pins s σ H x y v u Q I rx ry h
  obtain ⟨a, b, k, ra, rb, e, q⟩ := h
  have hu : X.A.units + 65 < cLine := by have := hr.un; omega
  unfold scmp at e
  split at e
  · split at e
    · rename_i hs
      simp only [Bool.and_eq_true] at hs
      cases e
      exact op_eqD (by omega) pins s σ H x y v u Q I rx ry ⟨_, _, ra.dp hs.1, rb.dp hs.2, shp_shaped hs.1, shp_shaped hs.2, by rw [eqv_py a b 60 60 hs.1 hs.2]; exact q⟩
    · cases e
  · split at e
    · rename_i hs
      simp only [Bool.and_eq_true] at hs
      cases e
      exact op_neD (by omega) pins s σ H x y v u Q I rx ry ⟨_, _, ra.dp hs.1, rb.dp hs.2, shp_shaped hs.1, shp_shaped hs.2, by rw [eqv_py a b 60 60 hs.1 hs.2]; exact q⟩
    · cases e
  · split at e
    · cases rb
      refine op_isN pins s σ H x _ v u Q I rx ry ⟨rfl, ?_⟩
      cases ra <;> (cases e; exact q)
    · cases e
  · split at e
    · cases rb
      refine op_notN pins s σ H x _ v u Q I rx ry ⟨rfl, ?_⟩
      cases ra <;> (cases e; exact q)
    · cases e
  · split at e
    · rename_i ds
      split at e
      · rename_i hs
        simp only [Bool.and_eq_true] at hs
        cases e
        have hl : (D.lst ds).shp 60 = true := by simpa [D.shp] using hs.2
        refine op_inD hu pins s σ H x y v u Q I rx ry ⟨_, _, ra.dp hs.1, rb.dp hl, shp_shaped hs.1, shp_shaped hl, ?_⟩
        rw [pys_any ds a 59 hs.2 hs.1]
        exact q
      · cases e
    · cases e
  · split at e
    · rename_i ds
      split at e
      · rename_i hs
        simp only [Bool.and_eq_true] at hs
        cases e
        have hl : (D.lst ds).shp 60 = true := by simpa [D.shp] using hs.2
        refine op_notInD hu pins s σ H x y v u Q I rx ry ⟨_, _, ra.dp hs.1, rb.dp hl, shp_shaped hs.1, shp_shaped hl, ?_⟩
        rw [pys_any ds a 59 hs.2 hs.1]
        exact q
      · cases e
    · cases e
  · split at e
    · cases ra; cases rb; cases e
      exact op_lt pins s σ H _ _ v u Q I rx ry ⟨_, _, rfl, rfl, q⟩
    · rename_i xs ys
      split at e
      · rename_i is js h1 h2
        cases e
        cases ra with
        | tup ta tb =>
          cases rb with
          | tup tc td =>
            rw [tb.ints h1] at ta
            rw [td.ints h2] at tc
            exact op_ltT (by omega) pins s σ H _ _ v u Q I rx ry ⟨_, _, _, _, rfl, rfl, ta, tc, q⟩
      · cases e
    · cases e
  · split at e
    · cases ra; cases rb; cases e
      exact op_le pins s σ H _ _ v u Q I rx ry ⟨_, _, rfl, rfl, q⟩
    · cases e
  · split at e
    · cases ra; cases rb; cases e
      exact op_gt pins s σ H _ _ v u Q I rx ry ⟨_, _, rfl, rfl, q⟩
    · cases e
  · split at e
    · cases ra; cases rb; cases e
      exact op_ge pins s σ H _ _ v u Q I rx ry ⟨_, _, rfl, rfl, q⟩
    · cases e
/-- truth -/
theorem tru_of {x : V} {d : D} {b : Bool} (h : Rp K H x d) (e : d.tru = some b) : TruV K x H b := by
  cases h with
  | non => simp [D.tru] at e; subst e; exact rfl
  | bl k => simp [D.tru] at e; subst e; exact rfl
  | int i => simp [D.tru] at e; subst e; exact rfl
  | str _ => simp [D.tru] at e
  | @lst a vs ds h1 h2 =>
    simp only [D.tru, Option.some.injEq] at e
    subst e
    refine .inl ⟨vs, .inl (.inl h1), ?_⟩
    cases h2 <;> rfl
  | @tup a vs ds h1 h2 =>
    simp only [D.tru, Option.some.injEq] at e
    subst e
    refine .inr (.inl ⟨vs, h1, ?_⟩)
    cases h2 <;> rfl
  | scr _ => simp [D.tru] at e
end
end Mi
/-! Each construct's reading, from its parts'. -/
namespace Mi
open PySem PySem.Spec L2

theorem _root_.L2.PE.imp {X : Cx} {e : Expr} {t t' : TE} (h : PE X e t) (i : ∀ σ H Q, t' σ H Q → t σ H Q) : PE X e t' := ⟨fun pins s σ H Q I q => h.run pins s σ H Q I (i σ H Q q)⟩
theorem _root_.L2.PT.imp {X : Cx} {e : Expr} {t t' : TT} (h : PT X e t) (i : ∀ σ H Q, t' σ H Q → t σ H Q) : PT X e t' := ⟨fun pins s σ H Q I q => h.run pins s σ H Q I (i σ H Q q)⟩
section
variable {X : Cx} {K : PySem.W.Frag} {F F' F1 F2 H H' H1 H2 : Hp} {σ : L2.St} {ta tb : Sta → Option (R × Sta)} {pa pb : Bool} {Q : VK}

theorem pu_l {a b : Bool} (h : (a && b) = true) : a = true := by simp at h; exact h.1

theorem tE_mono {t : Sta → Option (R × Sta)} {pu : Bool} {Q' : VK} (h : tE K t pu σ H Q) (i : ∀ v H', Q v H' → Q' v H') : tE K t pu σ H Q' := by
  obtain ⟨F, S, p, l, f, s, r, S', e, k⟩ := h
  exact ⟨F, S, p, l, f, s, r, S', e, fun v F' H' f' g go rr => i _ _ (k v F' H' f' g go rr)⟩
/-- one part -/
theorem one {G : R → Sta → Option (R × Sta)} (h : tE K (fun S => (ta S).bind fun p => G p.1 p.2) pa σ H Q) : tE K ta pa σ H fun x H1 => ∃ F0 H0 S0 p l f F1 S1 f1 g ra r S',
    Go K σ p l F0 H0 S0 f pa F1 H1 σ S1 f1 g ∧ RR K F1 H1 l f1 x ra g ∧ G ra S1 = some (r, S') ∧ ∀ v F' H' f' g, Go K σ p l F0 H0 S0 f pa F' H' σ S' f' g → RR K F' H' l f' v r g → Q v H' := by
  obtain ⟨F, S, p, l, f, s, r, S', e, k⟩ := h
  simp only [Option.bind_eq_some_iff] at e
  obtain ⟨⟨ra, S1⟩, e1, e2⟩ := e
  exact ⟨F, S, p, l, f, s, ra, S1, e1, fun x F1 H1 f1 g go rr => ⟨F, H, S, p, l, f, F1, S1, f1, g, ra, r, S', go, rr, e2, k⟩⟩
/-- two parts, the first held -/
theorem two {G : R → R → Sta → Option (R × Sta)} (h : tE K (fun S => (ta S).bind fun p => (tb p.2).bind fun q => if p.1.isBor && !pb then none else G p.1 q.1 q.2) (pa && pb) σ H Q) :
    tE K ta pa σ H fun x H1 => tE K tb pb σ H1 fun y H2 => ∃ F0 H0 S0 p l f F2 S2 f2 ga gb ra rb r S',
      Go K σ p l F0 H0 S0 f (pa && pb) F2 H2 σ S2 f2 (ga ++ gb) ∧ RR K F2 H2 l f2 x ra ga ∧ RR K F2 H2 l f2 y rb gb ∧ G ra rb S2 = some (r, S') ∧
        ∀ v F' H' f' g, Go K σ p l F0 H0 S0 f (pa && pb) F' H' σ S' f' g → RR K F' H' l f' v r g → Q v H' := by
  obtain ⟨F, S, p, l, f, s, r, S', e, k⟩ := h
  simp only [Option.bind_eq_some_iff] at e
  obtain ⟨⟨ra, S1⟩, e1, ⟨rb, S2⟩, e2, e3⟩ := e
  refine ⟨F, S, p, l, f, s, ra, S1, e1, fun x F1 H1 f1 ga go1 rr1 => ⟨F1, S1, p, l, f1, go1.sr, rb, S2, e2, fun y F2 H2 f2 gb go2 rr2 => ?_⟩⟩
  split at e3
  · cases e3
  · rename_i hb
    obtain ⟨go, st, dis⟩ := go1.trans go2 rr1.ownG
    refine ⟨F, H, S, p, l, f, F2, S2, f2, ga, gb, ra, rb, r, S', go, rr1.held st dis fun hbor => ?_, rr2, e3, k⟩
    have : pb = true := by
      cases pb
      · simp [hbor] at hb
      · rfl
    subst this
    exact ⟨rfl, (go2.pu rfl).2.1⟩
/-- two parts, the first one data or dropped -/
theorem two' {G : R → R → Sta → Option (R × Sta)} (h : tE K (fun S => (ta S).bind fun p => (tb p.2).bind fun q => G p.1 q.1 q.2) (pa && pb) σ H Q) (im : ∀ ra rb S z, G ra rb S = some z → ra.isBor = false) :
    tE K ta pa σ H fun x H1 => tE K tb pb σ H1 fun y H2 => ∃ F0 H0 S0 p l f F2 S2 f2 ga gb ra rb r S',
      Go K σ p l F0 H0 S0 f (pa && pb) F2 H2 σ S2 f2 (ga ++ gb) ∧ RR K F2 H2 l f2 x ra ga ∧ RR K F2 H2 l f2 y rb gb ∧ G ra rb S2 = some (r, S') ∧
        ∀ v F' H' f' g, Go K σ p l F0 H0 S0 f (pa && pb) F' H' σ S' f' g → RR K F' H' l f' v r g → Q v H' := by
  refine two (G := G) ?_
  obtain ⟨F, S, p, l, f, s, r, S', e, k⟩ := h
  refine ⟨F, S, p, l, f, s, r, S', ?_, k⟩
  simp only [Option.bind_eq_some_iff] at e ⊢
  obtain ⟨⟨ra, S1⟩, e1, ⟨rb, S2⟩, e2, e3⟩ := e
  exact ⟨⟨ra, S1⟩, e1, ⟨rb, S2⟩, e2, by rw [im _ _ _ _ e3]; exact e3⟩

variable {tx : Txt} {cf : CF} {k : Nat} {N : List Str}
theorem Fx.room1 (fx : Fx tx cf k N X) : Room 1 X.A := fx.room.mono (by omega)
/-- what is made is held still -/
theorem s_fz {e : Expr} (ha : PE X e (tE X.K ta pa)) : PE X e (tE X.K (fun S => (ta S).bind fun p => match p.1 with
    | .own c => some (.own (.im c.frz), p.2)
    | .bor _ => none) pa) := by
  refine ha.imp fun σ H Q ⟨F, S, p, l, f, s, r, S', e, q⟩ => ?_
  simp only [Option.bind_eq_some_iff] at e
  obtain ⟨⟨r0, S1⟩, e1, e2⟩ := e
  cases r0 with
  | bor c => cases e2
  | own c =>
    cases e2
    refine ⟨F, S, p, l, f, s, _, _, e1, fun v F' H' f' g go rr => ?_⟩
    have cr : CR X.K F' H' v c g := rr
    have own : ∀ x ∈ g, F' x = none := fun x hx => (cr.own x hx).1
    exact q _ _ _ _ [] (go.freeze own) (CR.im (cr.rp own fun _ z => z))
/-! ### names, constants -/
theorem vis_of {x : Str} (h : Vs X.env.scope x) : Vis X.env.scope x := h
theorem s_var (fx : Fx tx cf k N X) {i : Nat} {e : Expr} (h : nm1 N X.env.scope i e = true) : PE X e (tE K (fun S => (rdV i S).map fun r => (r, S)) true) := by
  obtain ⟨x, pos, rfl, h1, h2, h3, h4⟩ := nm1_of h
  refine (pe_var (i := i) (by rw [fx.hN]; exact h1) h2 h3 h4).imp fun σ H Q ⟨F, S, p, l, f, s, r, S', e, q⟩ => ?_
  simp only [Option.map_eq_some_iff] at e
  obtain ⟨r', e, e'⟩ := e
  cases e'
  unfold rdV at e
  split at e
  · rename_i d hd
    cases e
    obtain ⟨o, f1, g, f2, a, b, c, _⟩ := s.er.at hd
    cases c with
    | c c =>
      cases c with
      | im c => exact ⟨_, a, q _ _ _ _ [] (.refl s) (CR.im c)⟩
  · rename_i cs hd
    cases e
    obtain ⟨o, f1, g, f2, a, b, c, _⟩ := s.er.at hd
    cases c with
    | c c => exact ⟨_, a, q _ _ _ _ [] (.refl s) ⟨rfl, g, c, fun a ha => by rw [b]; simp [ha]⟩⟩
  · rename_i hd
    simp only [Option.map_eq_some_iff] at e
    obtain ⟨ds, e1, rfl⟩ := e
    obtain ⟨o, f1, g, f2, a, b, c, _⟩ := s.er.at hd
    cases c with
    | io =>
      have i0 := s.ior
      unfold IoR at i0
      rw [e1] at i0
      obtain ⟨rfl, i1, vs, i2, i3⟩ := i0
      exact ⟨_, a, q _ _ _ _ [] (.refl s) ⟨rfl, [p], CR.ow i1 i2 (CRs.ofIms i3), fun a ha => by simp at ha; simp [ha]⟩⟩
  · cases e
theorem nodup_put {l f1 f2 g g' : List Addr} (h : (l ++ ((f1 ++ (g ++ f2)) ++ g')).Nodup) : (l ++ (f1 ++ (g' ++ f2))).Nodup := by
  simp only [List.nodup_append, List.mem_append] at h ⊢
  grind
theorem nodup_take {l f1 f2 g : List Addr} (h : (l ++ (f1 ++ (g ++ f2))).Nodup) : (l ++ ((f1 ++ ([] ++ f2)) ++ g)).Nodup := by
  simp only [List.nodup_append, List.mem_append] at h ⊢
  grind
theorem IoR.mono {io : Option (List D)} {l : List Addr} {p : Addr} (h : IoR K F H p io l) (e : Same F F') (k : ∀ x ∈ l, ∀ o, H x = some o → H' x = some o ∧ (F x = none → F' x = none)) : IoR K F' H' p io l := by
  cases io with
  | none => exact h
  | some ds =>
    obtain ⟨h1, h2, vs, h3, h4⟩ := h
    have := k p (by rw [h1]; simp) _ h3
    exact ⟨h1, this.2 h2, vs, this.1, h4.mono e⟩
theorem s_fvar (fx : Fx tx cf k N X) {i : Nat} {e : Expr} (h : nm1 N X.env.scope i e = true) : PE X e (tE K (fun S => match S.ρ[i]? with
    | some (.c c) => some (.own (.im c.frz), ⟨S.ρ.set i (.c (.im c.frz)), S.io⟩)
    | _ => none) false) := by
  obtain ⟨x, pos, rfl, h1, h2, h3, h4⟩ := nm1_of h
  refine (pe_var (i := i) (by rw [fx.hN]; exact h1) h2 h3 h4).imp fun σ H Q ⟨F, S, p, l, f, s, r, S', e, q⟩ => ?_
  dsimp only at e
  split at e
  · rename_i c hd
    cases e
    obtain ⟨o, f1, g, f2, a, b, c', put⟩ := s.er.at hd
    cases c' with
    | @c v _ _ c' =>
      have own := c'.own
      have nd := s.nd
      rw [b] at nd
      have gn : ∀ x ∈ g, F x = none := fun x hx => (own x hx).1
      have dis : ∀ x ∈ f1 ++ f2, x ∉ g := fun x hx z => by
        simp only [List.nodup_append, List.mem_append] at nd hx
        grind
      have disl : ∀ x ∈ l, x ∉ g := fun x hx z => by
        simp only [List.nodup_append, List.mem_append] at nd hx
        grind
      have out : ∀ x, x ∉ g → frzF F H g x = F x := fun x h => by unfold frzF; rw [if_neg h]
      have rp := c'.rp gn fun _ z => z
      have er := put (frzF F H g) H (some v) (.c (.im c.frz)) [] (frzF_same gn) (fun _ _ _ h => h) (fun x hx => by
        rw [out x (dis x hx)]
        exact (s.er.own x (by rw [b]; rcases List.mem_append.mp hx with z | z <;> simp [z])).1) (.c (.im rp))
      have ev : σ.set i (some v) = σ := List.ext_getElem? fun j => by
        by_cases hj : i = j
        · subst hj
          have : i < σ.length := (List.getElem?_eq_some_iff.mp a).1
          rw [List.getElem?_set_self this, a]
        · rw [List.getElem?_set_ne hj]
      rw [ev] at er
      have sr : SR K (frzF F H g) H σ ⟨S.ρ.set i (.c (.im c.frz)), S.io⟩ p l (f1 ++ ([] ++ f2)) :=
        ⟨frzF_le s.sub, er, s.ior.mono (frzF_same gn) (fun x hx o h => ⟨h, by rw [out x (disl x hx)]; intro z; exact z⟩), (nodup_take nd).sublist ((List.Sublist.refl l).append (List.sublist_append_left ..))⟩
      refine ⟨v, a, q v _ _ (f1 ++ ([] ++ f2)) [] ⟨⟨frzF_same gn, fun _ _ h _ => h, fun x o e h m => ?_⟩, sr, by simpa using sr.nd, fun x hx => .inl ?_, fun h => by cases h⟩ (CR.im rp)⟩
      · rw [out x fun z => m ?_]
        · exact h
        · unfold mus; rw [if_neg (by simp), b]; simp [z]
      · rw [b]; simp at hx; rcases hx with z | z <;> simp [z]
  · cases e
theorem s_mvar (fx : Fx tx cf k N X) {i : Nat} {e : Expr} (h : nm1 N X.env.scope i e = true) : PE X e (tE K (fun S => match S.ρ[i]? with
    | some (.c c) => some (.own c, ⟨S.ρ.set i .no, S.io⟩)
    | _ => none) false) := by
  obtain ⟨x, pos, rfl, h1, h2, h3, h4⟩ := nm1_of h
  refine (pe_var (i := i) (by rw [fx.hN]; exact h1) h2 h3 h4).imp fun σ H Q ⟨F, S, p, l, f, s, r, S', e, q⟩ => ?_
  dsimp only at e
  split at e
  · rename_i c hd
    cases e
    obtain ⟨o, f1, g, f2, a, b, c', put⟩ := s.er.at hd
    cases c' with
    | @c v _ _ c' =>
      have nd := s.nd
      rw [b] at nd
      have er := put F H (some v) .no [] (fun _ _ h => h) (fun _ _ _ h => h) (fun x hx => (s.er.own x (by rw [b]; rcases List.mem_append.mp hx with z | z <;> simp [z])).1) .no
      have ev : σ.set i (some v) = σ := List.ext_getElem? fun j => by
        by_cases hj : i = j
        · subst hj
          have : i < σ.length := (List.getElem?_eq_some_iff.mp a).1
          rw [List.getElem?_set_self this, a]
        · rw [List.getElem?_set_ne hj]
      rw [ev] at er
      have nd2 := nodup_take nd
      refine ⟨v, a, q v _ _ (f1 ++ ([] ++ f2)) g ⟨.refl, ⟨s.sub, er, s.ior, nd2.sublist ((List.Sublist.refl l).append (List.sublist_append_left ..))⟩, nd2, fun x hx => .inl ?_, fun h => by cases h⟩ c'⟩
      rw [b]; simp at hx; rcases hx with z | z | z <;> simp [z]
  · cases e
theorem s_im {e : Expr} {v : V} {d : D} (h : PE X e (tC v)) (r : ∀ F, Rp K F v d) : PE X e (tE K (fun S => some (.own (.im d), S)) true) :=
  h.imp fun σ H Q ⟨F, S, p, l, f, s, r', S', e, q⟩ => by
    cases e
    exact q v _ _ _ [] (.refl s) (CR.im (r F))
/-! ### operations -/
theorem s_bin {x y : Expr} {op : Operator} {pos : Pos} (ha : PE X x (tE X.K ta pa)) (hb : PE X y (tE X.K tb pb)) :
    PE X (.BinOp x op y pos) (tE X.K (fun S => (ta S).bind fun p => (tb p.2).bind fun q => if p.1.isBor && !pb then none else (binC op p.1.c q.1.c).map fun c => (.own c, q.2)) (pa && pb)) := by
  refine (pe_op (op_bin op) ha hb).imp fun σ H Q h => ?_
  refine tE_mono (two (G := fun a b S => (binC op a.c b.c).map fun c => (.own c, S)) h) fun x H1 q => tE_mono q fun y H2 ⟨F0, H0, S0, p, l, f, F2, S2, f2, ga, gb, ra, rb, r, S', go, rr1, rr2, e, k⟩ => ?_
  simp only [Option.map_eq_some_iff] at e
  obtain ⟨c, e, e'⟩ := e
  cases e'
  obtain ⟨b1, c1⟩ := rr1.cr
  obtain ⟨b2, c2⟩ := rr2.cr
  refine ⟨F2, _, _, _, _, c, go.sr.sub, c1, c2, e, fun v F' H' n => ?_⟩
  obtain ⟨g', go', cr, _⟩ := go.made n
  exact k v F' H' f2 g' go' cr
theorem s_neg {x : Expr} {pos : Pos} (ha : PE X x (tE X.K ta pa)) :
    PE X (.UnaryOp .USub x pos) (tE X.K (fun S => (ta S).bind fun p => match p.1 with | .own (.im (.int i)) => some (.own (.im (.int (-i))), p.2) | _ => none) pa) := by
  refine (pe_un un_neg ha).imp fun σ H Q h => ?_
  refine tE_mono (one (G := fun a S => match a with | .own (.im (.int i)) => some (.own (.im (.int (-i))), S) | _ => none) h) fun x H1 ⟨F0, H0, S0, p, l, f, F1, S1, f1, g, ra, r, S', go, rr, e, k⟩ => ?_
  split at e
  · cases e
    have hx := CR.int rr
    subst hx
    exact ⟨_, rfl, k _ _ _ _ [] go.nil (CR.im (.int _))⟩
  · cases e
theorem s_not {x : Expr} {pos : Pos} (ha : PE X x (tE X.K ta pa)) :
    PE X (.UnaryOp .Not x pos) (tE X.K (fun S => (ta S).bind fun p => p.1.c.frz.tru.map fun b => (.own (.im (.bl !b)), p.2)) pa) := by
  refine (pe_notT ha).imp fun σ H Q h => ?_
  refine tE_mono (one (G := fun a S => a.c.frz.tru.map fun b => (.own (.im (.bl !b)), S)) h) fun x H1 ⟨F0, H0, S0, p, l, f, F1, S1, f1, g, ra, r, S', go, rr, e, k⟩ => ?_
  simp only [Option.map_eq_some_iff] at e
  obtain ⟨b, e, e'⟩ := e
  cases e'
  obtain ⟨b1, c1⟩ := rr.cr
  exact ⟨b, tru_of (c1.inH go.sr.sub) e, k _ _ _ _ [] go.nil (CR.im (.bl _))⟩
theorem s_cmp (fx : Fx tx cf k N X) {x y : Expr} {op : CmpOp} {pos : Pos} (ha : PE X x (tE X.K ta pa)) (hb : PE X y (tE X.K tb pb)) (py : plE y = true) :
    PE X (.Compare x [op] [y] pos) (tE X.K (fun S => (ta S).bind fun p => (tb p.2).bind fun q => if p.1.isBor && !pb then none else (scmp op p.1.c.frz q.1.c.frz).map fun k => (.own (.im (.bl k)), q.2)) (pa && pb)) := by
  refine (pe_cmpR (op_cmp op fx.room1) ha hb (marks_pl py op)).imp fun σ H Q h => ?_
  refine tE_mono (two (G := fun a b S => (scmp op a.c.frz b.c.frz).map fun k => (.own (.im (.bl k)), S)) h) fun x H1 q => tE_mono q fun y H2 ⟨F0, H0, S0, p, l, f, F2, S2, f2, ga, gb, ra, rb, r, S', go, rr1, rr2, e, k⟩ => ?_
  simp only [Option.map_eq_some_iff] at e
  obtain ⟨c, e, e'⟩ := e
  cases e'
  obtain ⟨b1, c1⟩ := rr1.cr
  obtain ⟨b2, c2⟩ := rr2.cr
  exact ⟨_, _, c, c1.inH go.sr.sub, c2.inH go.sr.sub, e, k _ _ _ _ [] go.nil (CR.im (.bl _))⟩
/-- a test from a value -/
theorem t_of {e : Expr} {tv : Sta → Option (R × Sta)} {pu : Bool} {Qt : Bool → Hp → Prop} (h : tT K (mkV tv).t pu σ H Qt) : tE K tv pu σ H fun x H1 => ∃ b, TruV K x H1 b ∧ Qt b H1 := by
  obtain ⟨F, S, p, l, f, s, b, S', e, k⟩ := h
  simp only [mkV, Option.bind_eq_some_iff, Option.map_eq_some_iff] at e
  obtain ⟨⟨r, S1⟩, e1, b', e2, e3⟩ := e
  cases e3
  refine ⟨F, S, p, l, f, s, r, S1, e1, fun v F' H' f' g go rr => ?_⟩
  obtain ⟨b1, c1⟩ := rr.cr
  exact ⟨b, tru_of (c1.inH go.sr.sub) e2, k _ _ _ go.nil⟩
/-- whose test is its value's truth -/
theorem s_tst {e : Expr} {pu : Bool} (h : PE X e (tE X.K ta pu)) (he : tstB e = true) : PT X e (tT X.K (mkV ta).t pu) := by
  refine (pt_truth h fun wh => ?_).imp fun σ H Q q => t_of (e := e) q
  cases e <;> first
    | rfl
    | (rename_i op _ _; cases op <;> first | rfl | (simp [tstB] at he; done))
    | (simp [tstB] at he; done)
theorem s_tcmp (fx : Fx tx cf k N X) {x y : Expr} {op : CmpOp} {pos : Pos} (ha : PE X x (tE X.K ta pa)) (hb : PE X y (tE X.K tb pb)) (py : plE y = true) :
    PT X (.Compare x [op] [y] pos) (tT X.K (mkV (fun S => (ta S).bind fun p => (tb p.2).bind fun q => if p.1.isBor && !pb then none else (scmp op p.1.c.frz q.1.c.frz).map fun k => (.own (.im (.bl k)), q.2))).t (pa && pb)) := by
  refine (pt_cmpR (op_cmp op fx.room1) ha hb (marks_pl py op)).imp fun σ H Q h => ?_
  have h' := t_of (e := x) h
  refine tE_mono (two (G := fun a b S => (scmp op a.c.frz b.c.frz).map fun k => (.own (.im (.bl k)), S)) h') fun x H1 q => tE_mono q fun y H2 ⟨F0, H0, S0, p, l, f, F2, S2, f2, ga, gb, ra, rb, r, S', go, rr1, rr2, e, k⟩ => ?_
  simp only [Option.map_eq_some_iff] at e
  obtain ⟨c, e, e'⟩ := e
  cases e'
  obtain ⟨b1, c1⟩ := rr1.cr
  obtain ⟨b2, c2⟩ := rr2.cr
  refine ⟨_, _, c, c1.inH go.sr.sub, c2.inH go.sr.sub, e, c, rfl, ?_⟩
  obtain ⟨b, hb, q⟩ := k _ _ _ _ [] go.nil (CR.im (.bl c))
  have hb : b = c := hb
  subst hb
  exact q
theorem s_chain (fx : Fx tx cf k N X) {x y z : Expr} {o1 o2 : CmpOp} {pos : Pos} {tc : Sta → Option (R × Sta)} {pc : Bool} (ha : PE X x (tE X.K ta pa)) (hb : PE X y (tE X.K tb pb)) (hc : PE X z (tE X.K tc pc)) (pz : plE z = true) :
    PE X (.Compare x [o1, o2] [y, z] pos) (tE X.K (fun S => (ta S).bind fun p => (tb p.2).bind fun q => match p.1, q.1 with
    | .own (.im x), .own (.im y) => (scmp o1 x y).bind fun k =>
      if k then (tc q.2).bind fun r => (scmp o2 y r.1.c.frz).map fun k2 => (.own (.im (.bl k2)), r.2)
      else some (.own (.im (.bl false)), q.2)
    | _, _ => none) (pa && pb && pc)) ∧
    PT X (.Compare x [o1, o2] [y, z] pos) (tT X.K (mkV (fun S => (ta S).bind fun p => (tb p.2).bind fun q => match p.1, q.1 with
    | .own (.im x), .own (.im y) => (scmp o1 x y).bind fun k =>
      if k then (tc q.2).bind fun r => (scmp o2 y r.1.c.frz).map fun k2 => (.own (.im (.bl k2)), r.2)
      else some (.own (.im (.bl false)), q.2)
    | _, _ => none)).t (pa && pb && pc)) := by
  have key : ∀ (σ : L2.St) (H : Hp) (Q : VK), tE X.K (fun S => (ta S).bind fun p => (tb p.2).bind fun q => match p.1, q.1 with
    | .own (.im x), .own (.im y) => (scmp o1 x y).bind fun k =>
      if k then (tc q.2).bind fun r => (scmp o2 y r.1.c.frz).map fun k2 => (.own (.im (.bl k2)), r.2)
      else some (.own (.im (.bl false)), q.2)
    | _, _ => none) (pa && pb && pc) σ H Q → tChain (rCmp o1 X.K) (rCmp o2 X.K) (tE X.K ta pa) (tE X.K tb pb) (tE X.K tc pc) σ H Q := by
    intro σ H Q h
    obtain ⟨F, S, p, l, f, s, r, S', e, k⟩ := h
    simp only [Option.bind_eq_some_iff] at e
    obtain ⟨⟨ra, S1⟩, e1, ⟨rb, S2⟩, e2, e3⟩ := e
    dsimp only at e3
    split at e3
    · rename_i dx dy
      simp only [Option.bind_eq_some_iff] at e3
      obtain ⟨c, e3, e4⟩ := e3
      refine ⟨F, S, p, l, f, s, _, S1, e1, fun v1 F1 H1 f1 g1 go1 rr1 => ⟨F1, S1, p, l, f1, go1.sr, _, S2, e2, fun v2 F2 H2 f2 g2 go2 rr2 => ?_⟩⟩
      obtain ⟨go, st, dis⟩ := go1.trans go2 rr1.ownG
      have c1 : CR X.K F2 H2 v1 (.im dx) g1 := CR.held rr1 st dis
      refine ⟨dx, dy, c, c1.inH go2.sr.sub, CR.inH rr2 go2.sr.sub, e3, c, rfl, ?_⟩
      cases c with
      | true =>
        rw [if_pos rfl] at e4 ⊢
        simp only [Option.bind_eq_some_iff, Option.map_eq_some_iff] at e4
        obtain ⟨⟨rc, S3⟩, e4, k2, e5, e6⟩ := e4
        cases e6
        refine ⟨F2, S2, p, l, f2, go2.sr, rc, S3, e4, fun v3 F3 H3 f3 g3 go3 rr3 => ?_⟩
        have go2' : Go X.K σ p l F H S f (pa && pb) F2 H2 σ S2 f2 [] := go.nil
        obtain ⟨go', st3, dis3⟩ := go2'.trans go3 fun _ z => nomatch z
        obtain ⟨b3, c3⟩ := rr3.cr
        have nd := go.nd
        have rr2' : CR X.K F2 H2 v2 (.im dy) g2 := rr2
        cases rr2' with
        | im r2 =>
        refine ⟨dy, _, k2, (r2.mono st3.ff).mono go3.sr.sub, c3.inH go3.sr.sub, e5, k _ _ _ _ [] go'.nil (CR.im (.bl _))⟩
      | false =>
        rw [if_neg (by simp)] at e4 ⊢
        cases e4
        have : Go X.K σ p l F H S f (pa && pb && pc) F2 H2 σ S' f2 [] := by
          refine ⟨go.st.wide fun x hx => ?_, go.sr, go.nil.nd, go.nil.nw, fun h => go.pu (pu_l h)⟩
          unfold mus at hx ⊢
          split at hx
          · cases hx
          · rename_i hh
            rw [if_neg (by intro z; exact hh (pu_l z))]; exact hx
        exact k _ _ _ _ [] this (CR.im (.bl _))
    · cases e3
  have hm : lastMarks [o1, o2] [y, z] = false := marks_pl pz o2
  refine ⟨(pe_chain (op_cmp o1 fx.room1) (op_cmp o2 fx.room1) ha hb hc hm).imp key, (pt_chain (op_cmp o1 fx.room1) (op_cmp o2 fx.room1) ha hb hc hm).imp fun σ H Q h => ?_⟩
  obtain ⟨F, S, p, l, f, s, b, S', e, kk⟩ := h
  simp only [mkV] at e
  rw [Option.bind_eq_some_iff] at e
  obtain ⟨⟨r, S1⟩, e1, e2⟩ := e
  simp only [Option.map_eq_some_iff] at e2
  obtain ⟨b', e2, e3⟩ := e2
  cases e3
  have hr : ∃ k, r = .own (.im (.bl k)) := by
    simp only [Option.bind_eq_some_iff] at e1
    obtain ⟨⟨ra, S2⟩, e4, ⟨rb, S3⟩, e5, e6⟩ := e1
    dsimp only at e6
    split at e6
    · simp only [Option.bind_eq_some_iff] at e6
      obtain ⟨c, _, e7⟩ := e6
      split at e7
      · simp only [Option.bind_eq_some_iff, Option.map_eq_some_iff] at e7
        obtain ⟨_, _, k2, _, e8⟩ := e7
        cases e8; exact ⟨_, rfl⟩
      · cases e7; exact ⟨_, rfl⟩
    · cases e6
  obtain ⟨c, rfl⟩ := hr
  have hb : b = c := by simp [R.c, Cell.frz, D.tru] at e2; exact e2.symm
  subst hb
  refine key σ H (fun x H1 => ∃ k, x = .bl k ∧ Q k H1) ⟨F, S, p, l, f, s, _, S', e1, fun v F' H' f' g go rr => ?_⟩
  have rr' : CR X.K F' H' v (.im (.bl b)) g := rr
  cases rr' with
  | im r1 =>
    cases r1
    exact ⟨_, rfl, kk _ _ _ go⟩
end
end Mi
/-! Displays, subscripts, calls. -/
namespace Mi
open PySem PySem.Spec L2

inductive RRs (K : PySem.W.Frag) (F H : Hp) (l f : List Addr) : List V → List R → List Addr → Prop
  | nil : RRs K F H l f [] [] []
  | cons {v : V} {vs : List V} {r : R} {rs : List R} {g g' : List Addr} : RR K F H l f v r g → RRs K F H l f vs rs g' → RRs K F H l f (v :: vs) (r :: rs) (g ++ g')
def tA (K : PySem.W.Frag) (t : Sta → Option (List R × Sta)) (pu : Bool) : TA := fun σ H Q => ∃ F S p l f, SR K F H σ S p l f ∧ ∃ rs S', t S = some (rs, S') ∧
  ∀ vs F' H' f' g, Go K σ p l F H S f pu F' H' σ S' f' g → RRs K F' H' l f' vs rs g → Q vs H'
section
variable {X : Cx} {K : PySem.W.Frag} {F F' F1 F2 H H' H1 H2 : Hp} {σ : L2.St} {ta tb tc : Sta → Option (R × Sta)} {ts : Sta → Option (List R × Sta)} {pa pb pc ps : Bool} {Q : VK} {l f g : List Addr}
variable {tx : Txt} {cf : CF} {k : Nat} {N : List Str}
theorem tA_mono {QA Q' : List V → Hp → Prop} {pu : Bool} (h : tA K ts pu σ H QA) (i : ∀ v H', QA v H' → Q' v H') : tA K ts pu σ H Q' := by
  obtain ⟨F, S, p, l, f, s, r, S', e, k⟩ := h
  exact ⟨F, S, p, l, f, s, r, S', e, fun v F' H' f' g go rr => i _ _ (k v F' H' f' g go rr)⟩
theorem oneA {G : List R → Sta → Option (R × Sta)} (h : tE K (fun S => (ts S).bind fun p => G p.1 p.2) ps σ H Q) : tA K ts ps σ H fun xs H1 => ∃ F0 H0 S0 p l f F1 S1 f1 g rs r S',
    Go K σ p l F0 H0 S0 f ps F1 H1 σ S1 f1 g ∧ RRs K F1 H1 l f1 xs rs g ∧ G rs S1 = some (r, S') ∧ ∀ v F' H' f' g, Go K σ p l F0 H0 S0 f ps F' H' σ S' f' g → RR K F' H' l f' v r g → Q v H' := by
  obtain ⟨F, S, p, l, f, s, r, S', e, k⟩ := h
  simp only [Option.bind_eq_some_iff] at e
  obtain ⟨⟨ra, S1⟩, e1, e2⟩ := e
  exact ⟨F, S, p, l, f, s, ra, S1, e1, fun x F1 H1 f1 g go rr => ⟨F, H, S, p, l, f, F1, S1, f1, g, ra, r, S', go, rr, e2, k⟩⟩
theorem _root_.L2.PA.imp {es : List Expr} {t t' : TA} (h : PA X es t) (i : ∀ σ H Q, t' σ H Q → t σ H Q) : PA X es t' := ⟨fun pos pins s σ H Q I q => h.run pos pins s σ H Q I (i σ H Q q)⟩
theorem s_anil : PA X [] (tA X.K (fun S => some ([], S)) true) :=
  pa_nil.imp fun σ H Q ⟨F, S, p, l, f, s, r, S', e, k⟩ => by cases e; exact k _ _ _ _ _ (.refl s) .nil
theorem s_acons {e : Expr} {es : List Expr} (ha : PE X e (tE X.K ta pa)) (hr : PA X es (tA X.K ts ps)) (pl : plE e = true) :
    PA X (e :: es) (tA X.K (fun S => (ta S).bind fun p => (ts p.2).bind fun q => if p.1.isBor && !ps then none else some (p.1 :: q.1, q.2)) (pa && ps)) := by
  refine (pa_cons ha hr (starEach_pl pl _ _)).imp fun σ H Q ⟨F, S, p, l, f, s, r, S', e, k⟩ => ?_
  simp only [Option.bind_eq_some_iff] at e
  obtain ⟨⟨ra, S1⟩, e1, ⟨rb, S2⟩, e2, e3⟩ := e
  refine ⟨F, S, p, l, f, s, ra, S1, e1, fun x F1 H1 f1 ga go1 rr1 => ⟨F1, S1, p, l, f1, go1.sr, rb, S2, e2, fun y F2 H2 f2 gb go2 rr2 => ?_⟩⟩
  split at e3
  · cases e3
  · rename_i hb
    cases e3
    obtain ⟨go, st, dis⟩ := go1.trans go2 rr1.ownG
    refine k _ _ _ _ _ go (.cons (rr1.held st dis fun hbor => ?_) rr2)
    have : ps = true := by
      cases ps
      · simp [hbor] at hb
      · rfl
    subst this
    exact ⟨rfl, (go2.pu rfl).2.1⟩
theorem RRs.cells : ∀ {rs : List R} {vs : List V} {g : List Addr} {cs : List Cell}, RRs K F H l f vs rs g → ownC rs = some cs → CRs K F H vs cs g
  | [], _, _, _, h, e => by cases h; simp [ownC] at e; subst e; exact .nil
  | .own c :: rs, _, _, _, h, e => by
    cases h with
    | cons h1 h2 =>
      simp only [ownC, Option.map_eq_some_iff] at e
      obtain ⟨cs, e, rfl⟩ := e
      exact .cons h1 (h2.cells e)
  | .bor _ :: _, _, _, _, _, e => by simp [ownC] at e
/-- all cells, their addresses together -/
theorem RRs.all : ∀ {rs : List R} {vs : List V} {g : List Addr}, RRs K F H l f vs rs g → ∃ B : List Addr, (∀ a ∈ B, F a = none ∧ ∃ us, H a = some (.lst us)) ∧
    ∀ B0 : List Addr, (∀ a ∈ B, a ∈ B0) → (∀ a ∈ B0, F a = none) → RpA K (frzF F H B0) vs (rs.map fun r => r.c.frz)
  | [], _, _, h => by cases h; exact ⟨[], (fun _ z => nomatch z), fun _ _ _ => RpA.nil⟩
  | r :: rs, _, _, h => by
    cases h with
    | cons h1 h2 =>
      obtain ⟨b, c⟩ := h1.cr
      obtain ⟨B, own, rp⟩ := h2.all
      refine ⟨b ++ B, fun a ha => ?_, fun B0 s n => .cons (c.rp n fun a ha => s a (List.mem_append_left _ ha)) (rp B0 (fun a ha => s a (List.mem_append_right _ ha)) n)⟩
      rcases List.mem_append.mp ha with z | z
      · exact c.own a z
      · exact own a z
theorem RRs.inH {rs : List R} {vs : List V} {g : List Addr} (h : RRs K F H l f vs rs g) (s : Same F H) : RpA K H vs (rs.map fun r => r.c.frz) := by
  obtain ⟨B, own, rp⟩ := h.all
  exact (rp B (fun _ z => z) fun a ha => (own a ha).1).mono (frzF_le s)

/-! ### and, or, tests -/
theorem Go.weak {p : Addr} {S S1 : Sta} {f1 : List Addr} {σ1 : L2.St} (go1 : Go K σ p l F H S f pa F1 H1 σ1 S1 f1 g) : Go K σ p l F H S f (pa && pb) F1 H1 σ1 S1 f1 g := by
  refine ⟨go1.st.wide fun x hx => ?_, go1.sr, go1.nd, go1.nw, fun h => go1.pu (pu_l h)⟩
  unfold mus at hx ⊢
  split at hx
  · cases hx
  · rename_i hh
    rw [if_neg (by intro z; exact hh (pu_l z))]; exact hx
theorem s_and {x y : Expr} {rest : List Expr} {pos : Pos} (ha : PE X x (tE X.K ta pa)) (hb : PE X (.BoolOp .And (y :: rest) pos) (tE X.K tb pb)) :
    PE X (.BoolOp .And (x :: y :: rest) pos) (tE X.K (fun S => (ta S).bind fun p => match p.1 with
    | .own (.im (.bl true)) => tb p.2
    | .own (.im (.bl false)) => some (.own (.im (.bl false)), p.2)
    | _ => none) (pa && pb)) := by
  refine (pe_and ha hb).imp fun σ H Q ⟨F, S, p, l, f, s, r, S', e, k⟩ => ?_
  simp only [Option.bind_eq_some_iff] at e
  obtain ⟨⟨ra, S1⟩, e1, e2⟩ := e
  refine ⟨F, S, p, l, f, s, ra, S1, e1, fun x F1 H1 f1 ga go1 rr1 => ?_⟩
  dsimp only at e2
  split at e2
  · have rr' : CR X.K F1 H1 x (.im (.bl true)) ga := rr1
    cases rr' with
    | im r1 =>
      cases r1
      refine ⟨true, rfl, ?_⟩
      rw [if_pos rfl]
      exact ⟨F1, S1, p, l, f1, go1.sr, r, S', e2, fun v F2 H2 f2 gb go2 rr2 => k _ _ _ _ _ (go1.nil.trans go2 fun _ z => nomatch z).1 rr2⟩
  · have rr' : CR X.K F1 H1 x (.im (.bl false)) ga := rr1
    cases e2
    cases rr' with
    | im r1 =>
      cases r1
      refine ⟨false, rfl, ?_⟩
      rw [if_neg (by simp)]
      exact k _ _ _ _ [] go1.nil.weak (CR.im (.bl _))
  · cases e2
theorem s_or {x y : Expr} {rest : List Expr} {pos : Pos} (ha : PE X x (tE X.K ta pa)) (hb : PE X (.BoolOp .Or (y :: rest) pos) (tE X.K tb pb)) :
    PE X (.BoolOp .Or (x :: y :: rest) pos) (tE X.K (fun S => (ta S).bind fun p => match p.1 with
    | .own (.im (.bl true)) => some (.own (.im (.bl true)), p.2)
    | .own (.im (.bl false)) => tb p.2
    | _ => none) (pa && pb)) := by
  refine (pe_or ha hb).imp fun σ H Q ⟨F, S, p, l, f, s, r, S', e, k⟩ => ?_
  simp only [Option.bind_eq_some_iff] at e
  obtain ⟨⟨ra, S1⟩, e1, e2⟩ := e
  refine ⟨F, S, p, l, f, s, ra, S1, e1, fun x F1 H1 f1 ga go1 rr1 => ?_⟩
  dsimp only at e2
  split at e2
  · have rr' : CR X.K F1 H1 x (.im (.bl true)) ga := rr1
    cases e2
    cases rr' with
    | im r1 =>
      cases r1
      refine ⟨true, rfl, ?_⟩
      rw [if_pos rfl]
      exact k _ _ _ _ [] go1.nil.weak (CR.im (.bl _))
  · have rr' : CR X.K F1 H1 x (.im (.bl false)) ga := rr1
    cases rr' with
    | im r1 =>
      cases r1
      refine ⟨false, rfl, ?_⟩
      rw [if_neg (by simp)]
      exact ⟨F1, S1, p, l, f1, go1.sr, r, S', e2, fun v F2 H2 f2 gb go2 rr2 => k _ _ _ _ _ (go1.nil.trans go2 fun _ z => nomatch z).1 rr2⟩
  · cases e2
variable {ua ub : Sta → Option (Bool × Sta)}
theorem s_tand {x y : Expr} {rest : List Expr} {pos : Pos} (ha : PT X x (tT X.K ua pa)) (hb : PW X (.BoolOp .And (y :: rest) pos) (tT X.K ub pb)) :
    PW X (.BoolOp .And (x :: y :: rest) pos) (tT X.K (fun S => (ua S).bind fun p => if p.1 then ub p.2 else some (false, p.2)) (pa && pb)) := by
  refine ⟨fun wh pins s σ H Q I h => (pw_and ha hb).run wh pins s σ H Q I ?_⟩
  obtain ⟨F, S, p, l, f, s, r, S', e, k⟩ := h
  simp only [Option.bind_eq_some_iff] at e
  obtain ⟨⟨ra, S1⟩, e1, e2⟩ := e
  refine ⟨F, S, p, l, f, s, ra, S1, e1, fun F1 H1 f1 go1 => ?_⟩
  cases ra with
  | true =>
    rw [if_pos rfl] at e2 ⊢
    exact ⟨F1, S1, p, l, f1, go1.sr, r, S', e2, fun F2 H2 f2 go2 => k _ _ _ (go1.trans go2 fun _ z => nomatch z).1⟩
  | false =>
    rw [if_neg (by simp)] at e2 ⊢
    cases e2
    exact k _ _ _ go1.weak
theorem s_tor {x y : Expr} {rest : List Expr} {pos : Pos} (ha : PT X x (tT X.K ua pa)) (hb : PW X (.BoolOp .Or (y :: rest) pos) (tT X.K ub pb)) :
    PW X (.BoolOp .Or (x :: y :: rest) pos) (tT X.K (fun S => (ua S).bind fun p => if p.1 then some (true, p.2) else ub p.2) (pa && pb)) := by
  refine ⟨fun wh pins s σ H Q I h => (pw_or ha hb).run wh pins s σ H Q I ?_⟩
  obtain ⟨F, S, p, l, f, s, r, S', e, k⟩ := h
  simp only [Option.bind_eq_some_iff] at e
  obtain ⟨⟨ra, S1⟩, e1, e2⟩ := e
  refine ⟨F, S, p, l, f, s, ra, S1, e1, fun F1 H1 f1 go1 => ?_⟩
  cases ra with
  | true =>
    rw [if_pos rfl] at e2 ⊢
    cases e2
    exact k _ _ _ go1.weak
  | false =>
    rw [if_neg (by simp)] at e2 ⊢
    exact ⟨F1, S1, p, l, f1, go1.sr, r, S', e2, fun F2 H2 f2 go2 => k _ _ _ (go1.trans go2 fun _ z => nomatch z).1⟩
theorem s_tnot {x : Expr} {pos : Pos} (ha : PT X x (tT X.K ua pa)) : PT X (.UnaryOp .Not x pos) (tT X.K (fun S => (ua S).map fun p => (!p.1, p.2)) pa) := by
  refine (pt_not ha).imp fun σ H Q ⟨F, S, p, l, f, s, b, S', e, k⟩ => ?_
  simp only [Option.map_eq_some_iff] at e
  obtain ⟨⟨c, S1⟩, e1, e2⟩ := e
  cases e2
  exact ⟨F, S, p, l, f, s, c, S1, e1, fun F' H' f' go => k _ _ _ go⟩
theorem s_ite {c a b : Expr} {pos : Pos} (hc : PT X c (tT X.K ua pc)) (ha : PE X a (tE X.K ta pa)) (hb : PE X b (tE X.K tb pb)) :
    PE X (.IfExp c a b pos) (tE X.K (fun S => (ua S).bind fun p => if p.1 then ta p.2 else tb p.2) (pc && pa && pb)) := by
  refine (pe_ifExp hc ha hb).imp fun σ H Q ⟨F, S, p, l, f, s, r, S', e, k⟩ => ?_
  simp only [Option.bind_eq_some_iff] at e
  obtain ⟨⟨ra, S1⟩, e1, e2⟩ := e
  refine ⟨F, S, p, l, f, s, ra, S1, e1, fun F1 H1 f1 go1 => ?_⟩
  cases ra with
  | true =>
    rw [if_pos rfl] at e2 ⊢
    exact ⟨F1, S1, p, l, f1, go1.sr, r, S', e2, fun v F2 H2 f2 g go2 rr => k _ _ _ _ _ (go1.trans go2 fun _ z => nomatch z).1.weak rr⟩
  | false =>
    rw [if_neg (by simp)] at e2 ⊢
    refine ⟨F1, S1, p, l, f1, go1.sr, r, S', e2, fun v F2 H2 f2 g go2 rr => k _ _ _ _ _ ?_ rr⟩
    have := (go1.trans go2 fun _ z => nomatch z).1
    have h2 := this.weak (pb := pa)
    rw [Bool.and_right_comm] at h2
    exact h2

/-! ### displays -/
theorem s_tup {es : List Expr} {n : Nat} {pos : Pos} (ha : PA X es (tA X.K ts ps)) :
    PE X (.Tuple es n pos) (tE X.K (fun S => (ts S).bind fun p => (ownC p.1).bind fun cs => if cs.length ≤ 16777216 then some (.own (.im (.tup (Cell.frzs cs))), p.2) else none) ps) := by
  refine (pe_tup ha).imp fun σ H Q h => ?_
  refine tA_mono (oneA (G := fun rs S => (ownC rs).bind fun cs => if cs.length ≤ 16777216 then some (.own (.im (.tup (Cell.frzs cs))), S) else none) h) fun xs H1 ⟨F0, H0, S0, p, l, f, F1, S1, f1, g, rs, r, S', go, rr, e, k⟩ => ?_
  simp only [Option.bind_eq_some_iff] at e
  obtain ⟨cs, e1, e2⟩ := e
  split at e2
  · rename_i hz
    cases e2
    have c := rr.cells e1
    have go2 := go.freeze fun x hx => (c.own x hx).1
    have rp := c.rp (fun x hx => (c.own x hx).1) fun _ z => z
    refine ⟨by rw [c.len, sizeLine_eq]; exact hz, fun q hq => ?_⟩
    obtain ⟨go3, st⟩ := go2.newF (o := .tup xs) hq
    exact k _ _ _ _ [] go3 (CR.im (.tup (.inl (.inl upd_same)) (rp.mono st.ff)))
  · cases e2
theorem s_lst {es : List Expr} {pos : Pos} (ha : PA X es (tA X.K ts ps)) :
    PE X (.List es pos) (tE X.K (fun S => (ts S).bind fun p => (ownC p.1).bind fun cs => if cs.length ≤ 16777216 then some (.own (.ow cs), p.2) else none) ps) := by
  refine (pe_lst ha).imp fun σ H Q h => ?_
  refine tA_mono (oneA (G := fun rs S => (ownC rs).bind fun cs => if cs.length ≤ 16777216 then some (.own (.ow cs), S) else none) h) fun xs H1 ⟨F0, H0, S0, p, l, f, F1, S1, f1, g, rs, r, S', go, rr, e, k⟩ => ?_
  simp only [Option.bind_eq_some_iff] at e
  obtain ⟨cs, e1, e2⟩ := e
  split at e2
  · rename_i hz
    cases e2
    have c := rr.cells e1
    refine ⟨by rw [c.len, sizeLine_eq]; exact hz, fun q hq => ?_⟩
    obtain ⟨go3, fq, st⟩ := go.newH (o := .lst xs) hq fun x hx => let ⟨_, vs, e⟩ := c.own x hx; ⟨_, e⟩
    exact k _ _ _ _ _ go3 (CR.ow fq upd_same (CRs.held c st fun _ _ z => nomatch z))
  · cases e2
/-! ### subscripts -/
theorem atI_len {α β : Type} {xs : List α} {ys : List β} {i : Int} {y : β} (hl : xs.length = ys.length) (h : atI ys i = some y) (get : ∀ (j : Nat) (y : β), ys[j]? = some y → ∃ x, xs[j]? = some x) : ∃ (j : Nat) (x : α), atI xs i = some x ∧ xs[j]? = some x ∧ ys[j]? = some y := by
  unfold atI at h
  simp only [Option.bind_eq_some_iff] at h
  obtain ⟨j, h1, h2⟩ := h
  obtain ⟨x, hx⟩ := get j y h2
  refine ⟨j, x, ?_, hx, h2⟩
  unfold atI
  rw [hl, h1]
  exact hx
theorem s_idx {x y : Expr} {pos : Pos} (ha : PE X x (tE X.K ta pa)) (hb : PE X y (tE X.K tb pb)) (py : plE y = true) :
    PE X (.Subscript x y pos) (tE X.K (fun S => (ta S).bind fun p => (tb p.2).bind fun q => if p.1.isBor && !pb then none else match q.1 with
      | .own (.im (.int k)) => (idxR p.1 k).map fun r => (r, q.2)
      | _ => none) (pa && pb)) := by
  refine (pe_ix ix_seq ha hb (plainIx_pl py)).imp fun σ H Q h => ?_
  refine tE_mono (two (G := fun a b S => match b with
      | .own (.im (.int k)) => (idxR a k).map fun r => (r, S)
      | _ => none) h) fun x H1 q => tE_mono q fun y H2 ⟨F0, H0, S0, p, l, f, F2, S2, f2, ga, gb, ra, rb, r, S', go, rr1, rr2, e, k⟩ => ?_
  split at e
  · rename_i n
    have hy : y = .int n := CR.int rr2
    subst hy
    simp only [Option.map_eq_some_iff] at e
    obtain ⟨r', e, e'⟩ := e
    cases e'
    unfold idxR at e
    split at e
    · rename_i ds
      simp only [Option.map_eq_some_iff] at e
      obtain ⟨d, e, rfl⟩ := e
      have c : CR X.K F2 H2 x (.im (.lst ds)) ga := rr1
      cases c with
      | im c =>
        cases c with
        | lst c1 c2 =>
          obtain ⟨j, v, h1, h2, h3⟩ := atI_len c2.len e fun j y hj => let ⟨v, a, _⟩ := c2.get hj; ⟨v, a⟩
          obtain ⟨v', h4, h5⟩ := c2.get h3
          rw [h2] at h4; cases h4
          exact .inl ⟨_, _, _, v, rfl, rfl, .inl (.inl (go.sr.sub _ _ c1)), h1, k _ _ _ _ [] go.nil (CR.im h5)⟩
    · rename_i ds
      simp only [Option.map_eq_some_iff] at e
      obtain ⟨d, e, rfl⟩ := e
      have c : CR X.K F2 H2 x (.im (.tup ds)) ga := rr1
      cases c with
      | im c =>
        cases c with
        | tup c1 c2 =>
          obtain ⟨j, v, h1, h2, h3⟩ := atI_len c2.len e fun j y hj => let ⟨v, a, _⟩ := c2.get hj; ⟨v, a⟩
          obtain ⟨v', h4, h5⟩ := c2.get h3
          rw [h2] at h4; cases h4
          exact .inr (.inl ⟨_, _, _, v, rfl, rfl, same_tup go.sr.sub c1, h1, k _ _ _ _ [] go.nil (CR.im h5)⟩)
    · rename_i cs
      simp only [Option.map_eq_some_iff] at e
      obtain ⟨d, e, rfl⟩ := e
      have c : CR X.K F2 H2 x (.ow cs) ga := rr1
      cases c with
      | ow c1 c2 c3 =>
        obtain ⟨j, v, h1, h2, h3⟩ := atI_len c3.len e fun j y hj => let ⟨v, g, a, _⟩ := c3.get hj; ⟨v, a⟩
        obtain ⟨v', g', h4, h5, h6⟩ := c3.get h3
        rw [h2] at h4; cases h4
        refine .inl ⟨_, _, _, v, rfl, rfl, .inl (.inl c2), h1, k _ _ _ _ g' (go.less ?_) h5⟩
        exact (h6.trans (List.sublist_cons_self ..)).trans (List.sublist_append_left ..)
    · rename_i cs
      simp only [Option.map_eq_some_iff] at e
      obtain ⟨d, e, rfl⟩ := e
      obtain ⟨g0, b, c, hb⟩ := rr1
      cases c with
      | ow c1 c2 c3 =>
        obtain ⟨j, v, h1, h2, h3⟩ := atI_len c3.len e fun j y hj => let ⟨v, g, a, _⟩ := c3.get hj; ⟨v, a⟩
        obtain ⟨v', g', h4, h5, h6⟩ := c3.get h3
        rw [h2] at h4; cases h4
        refine .inl ⟨_, _, _, v, rfl, rfl, .inl (.inl c2), h1, ?_⟩
        cases d with
        | im d =>
          cases h5 with
          | im h5 => exact k _ _ _ _ [] go.nil (CR.im h5)
        | ow xs => exact k _ _ _ _ [] go.nil ⟨rfl, g', h5, fun a ha => hb a (List.mem_cons_of_mem _ (h6.subset ha))⟩
    · cases e
  · cases e
theorem s_rev {x : Expr} {n : Nat} {p1 p2 p3 pos : Pos} (ha : PE X x (tE X.K ta pa)) :
    PE X (.Subscript x (.Slice none none (some (.UnaryOp .USub (.Constant (.int 1) n p1) p2)) p3) pos) (tE X.K (fun S => (ta S).bind fun p => p.1.c.els.map fun ds => (.own (.ow (ds.reverse.map .im)), p.2)) pa) := by
  refine (pe_revL ha).imp fun σ H Q h => ?_
  refine tE_mono (one (G := fun a S => a.c.els.map fun ds => (.own (.ow (ds.reverse.map .im)), S)) h) fun x H1 ⟨F0, H0, S0, p, l, f, F1, S1, f1, g, ra, r, S', go, rr, e, k⟩ => ?_
  simp only [Option.map_eq_some_iff] at e
  obtain ⟨ds, e, e'⟩ := e
  cases e'
  obtain ⟨b1, c1⟩ := rr.cr
  obtain ⟨a, vs, rfl, h1, h2⟩ := c1.els go.sr.sub e
  refine ⟨a, vs, rfl, .inl (.inl h1), fun q hq => ?_⟩
  obtain ⟨g', go', cr, _⟩ := go.made (.lst hq h2.rev)
  exact k _ _ _ _ _ go' cr
theorem RpA.cut {vs : List V} {ds : List D} (h : RpA K F vs ds) (lo hi : Option Int) : RpA K F (cutV vs lo hi) (cutL ds lo hi) := by
  unfold cutV cutL
  rw [h.len]
  exact (h.drop _).take _
/-- a bound of a slice -/
theorem s_bound {m : ME} {o : Option Expr} {tl : Sta → Option (R × Sta)} (hm : m.isNo = true ∧ o = none ∨ m.isNo = false ∧ ∃ e, o = some e ∧ PE X e (tE X.K tl true)) :
    PO X o (fun σ H Q => ∃ F S p l f, SR X.K F H σ S p l f ∧ ∃ z, (if m.isNo then some none else (intOf (tl S)).map some) = some z ∧ ∀ F' H' f', Go X.K σ p l F H S f true F' H' σ S f' [] → Q z H') := by
  rcases hm with ⟨h1, rfl⟩ | ⟨h1, e, rfl, he⟩
  · refine ⟨fun pins s σ H Q I ⟨F, S, p, l, f, sr, z, e, k⟩ => po_none.run pins s σ H Q I ?_⟩
    rw [if_pos h1] at e
    cases e
    exact k _ _ _ (.refl sr)
  · refine ⟨fun pins s σ H Q I ⟨F, S, p, l, f, sr, z, e', k⟩ => (po_some he).run pins s σ H Q I ?_⟩
    rw [if_neg (by rw [h1]; simp)] at e'
    simp only [Option.map_eq_some_iff] at e'
    obtain ⟨i, e', rfl⟩ := e'
    unfold intOf at e'
    split at e'
    · rename_i S1 hh
      cases e'
      refine ⟨F, S, p, l, f, sr, _, S1, hh, fun v F' H' f' g go rr => ?_⟩
      have hv : v = .int i := CR.int rr
      subst hv
      have := (go.pu rfl).1
      subst this
      exact ⟨i, rfl, k _ _ _ go.nil⟩
    · cases e'
theorem s_slc {x : Expr} {lo hi : ME} {ol oh : Option Expr} {tl th : Sta → Option (R × Sta)} {p2 pos : Pos} {pl ph : Bool} (ha : PE X x (tE X.K ta pa))
    (hl : lo.isNo = true ∧ ol = none ∨ lo.isNo = false ∧ ∃ e, ol = some e ∧ PE X e (tE X.K tl pl)) (hh : hi.isNo = true ∧ oh = none ∨ hi.isNo = false ∧ ∃ e, oh = some e ∧ PE X e (tE X.K th ph)) :
    PE X (.Subscript x (.Slice ol oh none p2) pos) (tE X.K (fun S => (ta S).bind fun p =>
      if pl && ph then
        (if lo.isNo then some none else (intOf (tl p.2)).map some).bind fun l => (if hi.isNo then some none else (intOf (th p.2)).map some).bind fun h =>
          p.1.c.els.map fun ds => (.own (.ow ((cutL ds l h).map .im)), p.2)
      else none) (pa && pl && ph)) := by
  by_cases hp : (pl && ph) = true
  · simp only [Bool.and_eq_true] at hp
    obtain ⟨rfl, rfl⟩ := hp
    refine (pe_slice sl_list ha (s_bound hl) (s_bound hh)).imp fun σ H Q h => ?_
    simp only [Bool.and_true] at h
    refine tE_mono (one (G := fun a S => if true = true then (if lo.isNo then some none else (intOf (tl S)).map some).bind fun l => (if hi.isNo then some none else (intOf (th S)).map some).bind fun h =>
          a.c.els.map fun ds => (.own (.ow ((cutL ds l h).map .im)), S) else none) h) fun x H1 ⟨F0, H0, S0, p, l, f, F1, S1, f1, g, ra, r, S', go, rr, e, k⟩ => ?_
    rw [if_pos rfl] at e
    simp only [Option.bind_eq_some_iff, Option.map_eq_some_iff] at e
    obtain ⟨zl, e1, zh, e2, ds, e3, e4⟩ := e
    cases e4
    refine ⟨F1, S1, p, l, f1, go.sr, zl, e1, fun F2 H2 f2 go2 => ⟨F2, S1, p, l, f2, go2.sr, zh, e2, fun F3 H3 f3 go3 => ?_⟩⟩
    obtain ⟨go12, st1, dis1⟩ := go.trans go2 rr.ownG
    have rr2 := rr.held (f1 := f2) st1 dis1 fun _ => ⟨rfl, (go2.pu rfl).2.1⟩
    rw [List.append_nil] at go12
    obtain ⟨go13, st2, dis2⟩ := go12.trans go3 rr2.ownG
    have rr3 := rr2.held (f1 := f3) st2 dis2 fun _ => ⟨rfl, (go3.pu rfl).2.1⟩
    obtain ⟨b1, c1⟩ := rr3.cr
    obtain ⟨a, vs, rfl, h1, h2⟩ := c1.els go3.sr.sub e3
    rw [Bool.and_true, Bool.and_true] at go13
    refine ⟨a, vs, rfl, .inl (.inl h1), fun q hq => ?_⟩
    obtain ⟨g', go', cr, _⟩ := go13.made (.lst hq (h2.cut zl zh))
    exact k _ _ _ _ _ go' cr
  · refine ⟨fun pins s σ H Q I h => ?_⟩
    obtain ⟨F, S, p, l, f, sr, r, S', e, k⟩ := h
    simp only [Option.bind_eq_some_iff] at e
    obtain ⟨⟨ra, S1⟩, e1, e2⟩ := e
    rw [if_neg hp] at e2
    cases e2
end
end Mi
/-! Calls, of defs, built-ins, methods. -/
namespace Mi
open PySem PySem.Spec L2
section
variable {X : Cx} {K : PySem.W.Frag} {F F' F1 F2 H H' H1 H2 : Hp} {σ : L2.St} {ta tb tc : Sta → Option (R × Sta)} {ts : Sta → Option (List R × Sta)} {pa pb pc ps : Bool} {Q : VK} {l f g : List Addr}
variable {tx : Txt} {cf : CF} {k : Nat} {N : List Str}
theorem Rp.scal {d : D} {v : V} (h : Rp K F v d) (s : d.scal = true) : ∀ F', Rp K F' v d := fun F' => by
  cases h with
  | non => exact .non
  | bl b => exact .bl b
  | int i => exact .int i
  | str x => exact .str x
  | lst _ _ => cases s
  | tup _ _ => cases s
  | scr _ => cases s
theorem s_call (fx : Fx tx cf k N X) {fn : Nat} {x : Str} {e : Expr} {es : List Expr} {p pos : Pos} (hf : tx.fs[fn]? = some (x, false)) (hg : glB X.env.scope x = true) (hn : nmB x = true) (pl : ∀ y ∈ e :: es, plE y = true)
    (ha : PA X (e :: es) (tA X.K ts ps)) : PE X (.Call (.Name x p) (e :: es) [] pos) (tE X.K (fun S => (ts S).bind fun p => match ownC p.1 with
      | some cs => (cf fn (Cell.frzs cs) none).map fun q => (.own q.1, p.2)
      | none => (cf fn (p.1.map fun r => r.c.frz) none).bind fun q => if q.1.scal then some (.own q.1, p.2) else none) ps) := by
  obtain ⟨fa, fd, pr, mgx, kp, bd, F, len⟩ := fx.fn fn x false hf
  have hdb : (x == ("__debug__" : Str)) = false := by unfold nmB at hn; simp at hn; simp [hn]
  have hgl : Gl X x := by
    unfold glB at hg
    show X.env.scope.names.lookup x = some .globalImplicit
    split at hg <;> simp_all
  refine (pe_callG F (fx.room.mono (by omega)) fx.gd hgl mgx kp bd pass0 ha hdb (starEach_pl (pl e (List.mem_cons_self ..)) _ _) (back_pl fun y hy => pl y (List.mem_cons_of_mem _ hy))).imp fun σ H Q h => ?_
  refine tA_mono (oneA (G := fun rs S => match ownC rs with
      | some cs => (cf fn (Cell.frzs cs) none).map fun q => (.own q.1, S)
      | none => (cf fn (rs.map fun r => r.c.frz) none).bind fun q => if q.1.scal then some (.own q.1, S) else none) h) fun vs H1 ⟨F0, H0, S0, p, l, f, F1, S1, f1, g, rs, r, S', go, rr, e, k⟩ => ?_
  split at e
  · rename_i cs hcs
    simp only [Option.map_eq_some_iff] at e
    obtain ⟨⟨c, u'⟩, e1, e2⟩ := e
    cases e2
    have c0 := rr.cells hcs
    have own : ∀ x ∈ g, F1 x = none := fun x hx => (c0.own x hx).1
    have go2 := go.freeze own
    have rp := c0.rp own fun _ z => z
    have hl := (len _ _ _ e1).2.2
    refine ⟨by rw [rp.len]; simpa using hl, _, none, vs, none, _, go2.sr.sub, ⟨rfl, rfl⟩, rp, c, u', e1, fun v F' H' g' st sub cr nd new _ => ?_⟩
    exact k _ _ _ _ g' (go2.step st sub (fun x hx => .inr (new x hx)) nd) cr
  · simp only [Option.bind_eq_some_iff] at e
    obtain ⟨⟨c, u'⟩, e1, e2⟩ := e
    split at e2
    · rename_i hsc
      cases e2
      obtain ⟨B, own, rp⟩ := rr.all
      have rp := rp B (fun _ z => z) fun x hx => (own x hx).1
      have hl := (len _ _ _ e1).2.2
      have ownB : ∀ x ∈ B, F1 x = none := fun x hx => (own x hx).1
      refine ⟨by rw [rp.len]; simpa using hl, _, none, vs, none, _, frzF_le go.sr.sub, ⟨rfl, rfl⟩, rp, c, u', e1, fun v F' H' g' st sub cr nd new _ => ?_⟩
      cases c with
      | ow _ => cases hsc
      | im d =>
        cases cr with
        | im cr =>
          -- F' without what was only lent
          have out : ∀ x, x ∉ B → frzF F1 H1 B x = F1 x := fun x h => by unfold frzF; rw [if_neg h]
          have st' : Stp F1 H1 (fun a => if a ∈ B then none else F' a) H' [] := by
            refine ⟨fun x o h => ?_, st.keep, fun x o h1 h2 _ => ?_⟩
            · show (if x ∈ B then none else F' x) = some o
              rw [if_neg fun z => by rw [ownB x z] at h; cases h]
              exact st.ff x o (frzF_same ownB x o h)
            · show (if x ∈ B then none else F' x) = none
              split
              · rfl
              · rename_i hx
                exact st.nocap x o h1 (by rw [out x hx]; exact h2) (by simp)
          refine k _ _ _ _ [] (go.step st' (fun x o h => ?_) (fun _ z => nomatch z) List.nodup_nil) (CR.im (cr.scal hsc _))
          have h : (if x ∈ B then none else F' x) = some o := h
          split at h
          · cases h
          · exact sub x o h
    · cases e2
theorem nodup_set {l f1 f2 : List Addr} {a : Addr} (h : (l ++ (f1 ++ ([a] ++ f2))).Nodup) {g : List Addr} (hg : g.Nodup) (dis : ∀ x ∈ g, x ∉ l ++ (f1 ++ ([a] ++ f2))) : (l ++ (f1 ++ ([a] ++ f2) ++ g)).Nodup := by
  rw [← List.append_assoc, List.nodup_append]
  exact ⟨h, hg, fun x hx y hy e => dis y hy (by rw [← e]; exact hx)⟩
theorem s_callIo (fx : Fx tx cf k N X) {fn i : Nat} {x : Str} {e : Expr} {es : List Expr} {p pos : Pos} (hf : tx.fs[fn]? = some (x, true)) (hg : glB X.env.scope x = true) (hn : nmB x = true) (hi : nm1 N X.env.scope i e = true) (pl : ∀ y ∈ es, plE y = true)
    (ha : PA X es (tA X.K ts ps)) : PE X (.Call (.Name x p) (e :: es) [] pos) (tE X.K (fun S => if !ownB S i then none else (ts S).bind fun p => (ownC p.1).bind fun cs => match p.2.ρ[i]? with
      | some .io => p.2.io.bind fun u => (cf fn (Cell.frzs cs) (some u)).bind fun q => q.2.map fun w => (.own q.1, ⟨p.2.ρ, some w⟩)
      | some (.c (.ow xs)) => (Cell.ims xs).bind fun u => (cf fn (Cell.frzs cs) (some u)).bind fun q => q.2.map fun w => (.own q.1, ⟨p.2.ρ.set i (.c (.ow (w.map .im))), p.2.io⟩)
      | _ => none) false) := by
  obtain ⟨fa, fd, pr, mgx, kp, bd, FO, len⟩ := fx.fn fn x true hf
  obtain ⟨y, py, rfl, y1, y2, y3, y4⟩ := nm1_of hi
  have hdb : (x == ("__debug__" : Str)) = false := by unfold nmB at hn; simp at hn; simp [hn]
  have hgl : Gl X x := by
    unfold glB at hg
    show X.env.scope.names.lookup x = some .globalImplicit
    split at hg <;> simp_all
  have hv := pe_var (X := X) (i := i) (pos := py) (by rw [fx.hN]; exact y1) y2 y3 y4
  refine (pe_callG FO (fx.room.mono (by omega)) fx.gd hgl mgx kp bd pass0 (pa_cons hv ha) hdb rfl (back_pl pl)).imp fun σ H Q h => ?_
  obtain ⟨F, S, p, l, f, sr, r, S', e, k⟩ := h
  dsimp only at e
  split at e
  · cases e
  · rename_i hob
    simp only [Option.bind_eq_some_iff] at e
    obtain ⟨⟨rs, S1⟩, e1, cs, e2, e3⟩ := e
    have hob : ownB S i = true := by simpa using hob
    have hvi : ∃ v, σ[i]? = some (some v) := by
      unfold ownB at hob
      split at hob
      · rename_i hd
        obtain ⟨o, f1, g, f2, a, b, c, _⟩ := sr.er.at hd
        cases c with
        | c c => exact ⟨_, a⟩
      · rename_i hd
        obtain ⟨o, f1, g, f2, a, b, c, _⟩ := sr.er.at hd
        cases c with
        | io => exact ⟨_, a⟩
      · cases hob
    obtain ⟨v0, hv0⟩ := hvi
    refine ⟨v0, hv0, F, S, p, l, f, sr, rs, S1, e1, fun vs F1 H1 f1 g go rr => ?_⟩
    show spF cf fn pr.length X.K (v0 :: vs) H1 Q E0
    have c0 := rr.cells e2
    have own : ∀ x ∈ g, F1 x = none := fun x hx => (c0.own x hx).1
    have go2 := (go.freeze own).unpure
    have rp := c0.rp own fun _ z => z
    have sr2 := go2.sr
    dsimp only at e3
    split at e3
    · rename_i hd
      simp only [Option.bind_eq_some_iff, Option.map_eq_some_iff] at e3
      obtain ⟨u, e4, ⟨c, u'⟩, e5, w, e6, e7⟩ := e3
      cases e7
      have e6 : u' = some w := e6
      subst e6
      obtain ⟨o, fa1, ga, fa2, a, b, c1, _⟩ := sr2.er.at hd
      cases c1 with
      | io =>
        rw [hv0] at a; cases a
        have ir := sr2.ior
        unfold IoR at ir
        rw [e4] at ir
        obtain ⟨rfl, i1, us, i2, i3⟩ := ir
        have hl := (len _ _ _ e5).2.2
        refine ⟨by rw [List.length_cons, rp.len]; simpa using hl, _, some u, vs, some p, _, sr2.sub, ⟨p, us, rfl, rfl, i1, i2, i3⟩, rp, c, some w, e5, fun v F' H' g' st sub cr nd new io => ?_⟩
        obtain ⟨p', us', j1, j2, j3, j4⟩ := io w rfl rfl
        cases j1
        have nd2 := go2.sr.nd
        have pf : p ∉ f1 := fun z => by
          rw [List.nodup_append] at nd2
          exact nd2.2.2 p (by simp) p z rfl
        have hkeep : ∀ x ∈ f1, ∀ o, H1 x = some o → H' x = some o := fun x hx o h => st.keep x o h (by simp; intro z; subst z; exact pf hx)
        have hnone : ∀ x ∈ f1, F' x = none := fun x hx => by
          obtain ⟨q1, us, q2⟩ := go2.sr.er.own x hx
          exact st.nocap x _ q2 q1 (by simp; intro z; subst z; exact pf hx)
        have sr' : SR X.K F' H' σ ⟨S1.ρ, some w⟩ p [p] f1 := ⟨sub, go2.sr.er.mono st.ff hkeep hnone, ⟨rfl, j2, us', j3, j4⟩, nd2⟩
        have dis : ∀ x ∈ g', x ∉ [p] ++ f1 := fun x hx z => by
          have n := new x hx
          rcases List.mem_append.mp z with z | z
          · have : x = p := by simpa using z
            subst this
            rw [i2] at n; cases n
          · obtain ⟨_, us, q2⟩ := go2.sr.er.own x z
            rw [q2] at n; cases n
        refine k _ _ _ _ g' ⟨go2.st.trans (st.wide (mu' := [p] ++ f1) (by simp)) (fun x hx => ?_), sr', ?_, fun x hx => ?_, fun h => by cases h⟩ cr
        · unfold mus
          rw [if_neg (by simp)]
          rcases List.mem_append.mp hx with z | z
          · exact .inl (List.mem_append_left _ z)
          · rcases go2.nw x (by simp [z]) with q | q
            · exact .inl (List.mem_append_right _ q)
            · exact .inr q
        · rw [← List.append_assoc, List.nodup_append]
          exact ⟨nd2, nd, fun x hx y hy e => dis y hy (by rw [← e]; exact hx)⟩
        · rcases List.mem_append.mp hx with z | z
          · exact go2.nw x (by simp [z])
          · have n := new x z
            cases e : H x with
            | none => exact .inr rfl
            | some o =>
              by_cases m : x ∈ mus false [p] f
              · unfold mus at m
                rw [if_neg (by simp)] at m
                rcases List.mem_append.mp m with m | m
                · exact absurd (List.mem_append_left _ m) (dis x z)
                · exact .inl m
              · rw [go2.st.keep x o e m] at n; cases n
    · rename_i xs hd
      simp only [Option.bind_eq_some_iff, Option.map_eq_some_iff] at e3
      obtain ⟨u, e4, ⟨c, u'⟩, e5, w, e6, e7⟩ := e3
      cases e7
      have e6 : u' = some w := e6
      subst e6
      obtain ⟨o, fa1, ga, fa2, a, b, c1, put⟩ := sr2.er.at hd
      cases c1 with
      | c c1 =>
      cases c1 with
      | @ow p0 us _ _ i1 i2 i3 =>
        rw [hv0] at a; cases a
        obtain ⟨i4, rfl⟩ := i3.ims e4
        have hl := (len _ _ _ e5).2.2
        refine ⟨by rw [List.length_cons, rp.len]; simpa using hl, _, some u, vs, some p0, _, sr2.sub, ⟨p0, us, rfl, rfl, i1, i2, i4⟩, rp, c, some w, e5, fun v F' H' g' st sub cr nd new io => ?_⟩
        obtain ⟨p', us', j1, j2, j3, j4⟩ := io w rfl rfl
        cases j1
        have nd2 := go2.sr.nd
        rw [b] at nd2
        have inF : ∀ x ∈ fa1 ++ fa2, x ∈ f1 ∧ x ≠ p0 := fun x hx => by
          refine ⟨by rw [b]; rcases List.mem_append.mp hx with z | z <;> simp [z], fun z => ?_⟩
          subst z
          simp only [List.nodup_append, List.mem_append] at nd2 hx
          grind
        have er := put F' H' (some (.ref p0)) (.c (.ow (w.map .im))) [p0] st.ff
          (fun x hx o h => st.keep x o h (by simpa using (inF x hx).2))
          (fun x hx => let ⟨q1, us, q2⟩ := go2.sr.er.own x (inF x hx).1; st.nocap x _ q2 q1 (by simpa using (inF x hx).2))
          (.c (.ow j2 j3 (CRs.ofIms j4)))
        have ev : σ.set i (some (.ref p0)) = σ := List.ext_getElem? fun j => by
          by_cases hj : i = j
          · subst hj
            have : i < σ.length := (List.getElem?_eq_some_iff.mp hv0).1
            rw [List.getElem?_set_self this, hv0]
          · rw [List.getElem?_set_ne hj]
        rw [ev] at er
        have lp : ∀ x ∈ l, x ≠ p0 := fun x hx z => by
          subst z
          simp only [List.nodup_append, List.mem_append] at nd2
          grind
        have sr' : SR X.K F' H' σ ⟨S1.ρ.set i (.c (.ow (w.map .im))), S1.io⟩ p l (fa1 ++ ([p0] ++ fa2)) :=
          ⟨sub, er, go2.sr.ior.mono st.ff fun x hx o h => ⟨st.keep x o h (by simpa using lp x hx), fun n => st.nocap x o h n (by simpa using lp x hx)⟩, nd2⟩
        have dis : ∀ x ∈ g', x ∉ l ++ (fa1 ++ ([p0] ++ fa2)) := fun x hx z => by
          have n := new x hx
          rcases List.mem_append.mp z with z | z
          · have q := go2.sr.ior
            unfold IoR at q
            split at q
            · subst q; cases z
            · obtain ⟨q1, q2, vs, q3, q4⟩ := q
              subst q1
              have : x = p := by simpa using z
              subst this
              rw [q3] at n; cases n
          · have : x ∈ f1 := by rw [b]; exact z
            obtain ⟨_, us, q2⟩ := go2.sr.er.own x this
            rw [q2] at n; cases n
        have b' : f1 = fa1 ++ ([p0] ++ fa2) := b
        refine k _ _ _ _ g' ⟨go2.st.trans (st.wide (mu' := l ++ f1) (by rw [b']; simp)) (fun x hx => ?_), sr', nodup_set nd2 nd dis, fun x hx => ?_, fun h => by cases h⟩ cr
        · unfold mus
          rw [if_neg (by simp)]
          rcases List.mem_append.mp hx with z | z
          · exact .inl (List.mem_append_left _ z)
          · rcases go2.nw x (by simp [z]) with q | q
            · exact .inl (List.mem_append_right _ q)
            · exact .inr q
        · rcases List.mem_append.mp hx with z | z
          · exact go2.nw x (by rw [b']; simpa using z)
          · have n := new x z
            cases e : H x with
            | none => exact .inr rfl
            | some o =>
              by_cases m : x ∈ mus false l f
              · unfold mus at m
                rw [if_neg (by simp)] at m
                rcases List.mem_append.mp m with m | m
                · exact absurd (List.mem_append_left _ m) (dis x z)
                · exact .inl m
              · rw [go2.st.keep x o e m] at n; cases n
    · cases e3
end
end Mi
/-! Built-ins and methods. -/
namespace Mi
open PySem PySem.Spec L2
section
variable {X : Cx} {K : PySem.W.Frag} {F F' F1 F2 H H' H1 H2 : Hp} {σ : L2.St} {ta tb tc : Sta → Option (R × Sta)} {ts : Sta → Option (List R × Sta)} {pa pb pc ps : Bool} {Q : VK} {l f g : List Addr}
variable {tx : Txt} {cf : CF} {k : Nat} {N : List Str}
/-- the arguments of a built-in: each stands for a cell -/
inductive ACR (K : PySem.W.Frag) (F H : Hp) : List V → List Cell → Prop
  | nil : ACR K F H [] []
  | cons {v : V} {vs : List V} {c : Cell} {cs : List Cell} {f : List Addr} : CR K F H v c f → ACR K F H vs cs → ACR K F H (v :: vs) (c :: cs)
theorem RRs.acr : ∀ {rs : List R} {vs : List V} {g : List Addr}, RRs K F H l f vs rs g → ACR K F H vs (rs.map R.c)
  | [], _, _, h => by cases h; exact ACR.nil
  | r :: rs, _, _, h => by
    cases h with
    | cons h1 h2 =>
      obtain ⟨b, c⟩ := h1.cr
      exact ACR.cons c h2.acr
def rBlt (b : Str) (K : PySem.W.Frag) : List V → Hp → VK → Prop := fun vs H Q => ∃ F cs c, Same F H ∧ ACR K F H vs cs ∧ bltC b cs = some c ∧ ∀ v F' H', New K F H c v F' H' → Q v H'
theorem CallR.imp {f : Value} {r r' : List V → Hp → VK → Prop} (h : CallR X f r) (i : ∀ xs H Q, r' xs H Q → r xs H Q) : CallR X f r' :=
  fun pins s σ H xs us Q I r q => h pins s σ H xs us Q I r (i xs H Q q)
theorem Rp.itsD {d : D} {v : V} {ds : List D} (h : Rp K F v d) (e : d.itsD = some ds) : ∃ a vs, v = .ref a ∧ (SqL K F a vs ∨ SqT K F a vs) ∧ RpA K F vs ds := by
  cases h with
  | lst h1 h2 => cases e; exact ⟨_, _, rfl, .inl (.inl (.inl h1)), h2⟩
  | tup h1 h2 => cases e; exact ⟨_, _, rfl, .inr h1, h2⟩
  | _ => cases e
theorem maxL_spec : ∀ (xs : List Int), xs ≠ [] → maxL xs ∈ xs ∧ ∀ y ∈ xs, y ≤ maxL xs
  | [], h => absurd rfl h
  | [x], _ => by simp [maxL]
  | x :: y :: ys, _ => by
    have ih := maxL_spec (y :: ys) (by simp)
    simp only [maxL]
    split
    · rename_i hlt
      refine ⟨List.mem_cons_self .., fun z hz => ?_⟩
      rcases List.mem_cons.mp hz with rfl | hz
      · exact Int.le_refl _
      · exact Int.le_trans (ih.2 z hz) (Int.le_of_lt hlt)
    · rename_i hlt
      refine ⟨List.mem_cons_of_mem _ ih.1, fun z hz => ?_⟩
      rcases List.mem_cons.mp hz with rfl | hz
      · omega
      · exact ih.2 z hz
theorem minL_spec : ∀ (xs : List Int), xs ≠ [] → minL xs ∈ xs ∧ ∀ y ∈ xs, minL xs ≤ y
  | [], h => absurd rfl h
  | [x], _ => by simp [minL]
  | x :: y :: ys, _ => by
    have ih := minL_spec (y :: ys) (by simp)
    simp only [minL]
    split
    · rename_i hlt
      refine ⟨List.mem_cons_self .., fun z hz => ?_⟩
      rcases List.mem_cons.mp hz with rfl | hz
      · exact Int.le_refl _
      · exact Int.le_trans (Int.le_of_lt hlt) (ih.2 z hz)
    · rename_i hlt
      refine ⟨List.mem_cons_of_mem _ ih.1, fun z hz => ?_⟩
      rcases List.mem_cons.mp hz with rfl | hz
      · omega
      · exact ih.2 z hz
theorem insI_perm (x : Int) : ∀ ys : List Int, (insI x ys).Perm (x :: ys)
  | [] => List.Perm.refl _
  | y :: ys => by
    simp only [insI]
    split
    · exact List.Perm.refl _
    · exact ((insI_perm x ys).cons y).trans (List.Perm.swap ..)
theorem insI_sorted (x : Int) : ∀ ys : List Int, ys.Pairwise (· ≤ ·) → (insI x ys).Pairwise (· ≤ ·)
  | [], _ => by simp [insI]
  | y :: ys, h => by
    simp only [insI]
    rw [List.pairwise_cons] at h
    split
    · rename_i hxy
      rw [List.pairwise_cons]
      refine ⟨fun z hz => ?_, List.pairwise_cons.mpr h⟩
      rcases List.mem_cons.mp hz with rfl | hz
      · exact hxy
      · exact Int.le_trans hxy (h.1 z hz)
    · rename_i hxy
      rw [List.pairwise_cons]
      refine ⟨fun z hz => ?_, insI_sorted x ys h.2⟩
      have := (insI_perm x ys).mem_iff.mp hz
      rcases List.mem_cons.mp this with rfl | hz
      · omega
      · exact h.1 z hz
theorem sortI_perm : ∀ xs : List Int, (sortI xs).Perm xs
  | [] => List.Perm.refl _
  | x :: xs => (insI_perm x _).trans ((sortI_perm xs).cons x)
theorem sortI_sorted : ∀ xs : List Int, (sortI xs).Pairwise (· ≤ ·)
  | [] => List.Pairwise.nil
  | x :: xs => insI_sorted x _ (sortI_sorted xs)
theorem sorted_uniq {xs ys : List Int} (p : xs.Perm ys) (h1 : xs.Pairwise (· ≤ ·)) (h2 : ys.Pairwise (· ≤ ·)) : xs = ys :=
  List.Perm.eq_of_pairwise (fun a b _ _ => Int.le_antisymm) h1 h2 p
theorem ACR.one {vs : List V} {c : Cell} (h : ACR K F H vs [c]) : ∃ v f, vs = [v] ∧ CR K F H v c f := by
  cases h with
  | cons h1 h2 => cases h2; exact ⟨_, _, rfl, h1⟩
theorem ACR.two {vs : List V} {c d : Cell} (h : ACR K F H vs [c, d]) : ∃ v u f g, vs = [v, u] ∧ CR K F H v c f ∧ CR K F H u d g := by
  cases h with
  | cons h1 h2 =>
    cases h2 with
    | cons h2 h3 => cases h3; exact ⟨_, _, _, _, rfl, h1, h2⟩
theorem map_one {α β : Type} {h : α → β} {cs : List α} {b : β} (e : cs.map h = [b]) : ∃ c, cs = [c] ∧ h c = b := by
  cases cs with
  | nil => cases e
  | cons c cs =>
    cases cs with
    | nil => simp at e; exact ⟨c, rfl, e⟩
    | cons _ _ => simp at e
theorem map_two {α β : Type} {h : α → β} {cs : List α} {b b' : β} (e : cs.map h = [b, b']) : ∃ c c', cs = [c, c'] ∧ h c = b ∧ h c' = b' := by
  cases cs with
  | nil => cases e
  | cons c cs =>
    cases cs with
    | nil => simp at e
    | cons d cs =>
      cases cs with
      | nil => simp at e; exact ⟨c, d, rfl, e.1, e.2⟩
      | cons _ _ => simp at e
/-- the data of a built-in that gives data -/
theorem blt_d {b : Str} {cs : List Cell} {c : Cell} (h1 : b ≠ "list" ∧ b ≠ "tuple" ∧ b ≠ "repr") (h2 : b ≠ "sorted") (e : bltC b cs = some c) : ∃ d, bltD b (cs.map Cell.frz) = some d ∧ c = .im d := by
  unfold bltC at e
  rw [if_neg h1.1, if_neg h2, if_neg h1.2.1, if_neg h1.2.2] at e
  simp only [Option.map_eq_some_iff] at e
  obtain ⟨d, e, rfl⟩ := e
  exact ⟨d, e, rfl⟩
theorem cr_len : CallR X (.builtin "len") (rBlt "len" X.K) := by
  refine CallR.imp call_len_seq fun vs H Q ⟨F, cs, c, sub, a, e, k⟩ => ?_
  obtain ⟨d, e0, hc0⟩ := blt_d (by decide) (by decide) e
  subst hc0
  clear e
  have e := e0
  clear e0
  unfold bltD at e
  rw [if_pos rfl] at e
  split at e
  · rename_i d0 hd
    obtain ⟨c, rfl, hc⟩ := map_one hd
    obtain ⟨v, f, rfl, cr⟩ := a.one
    simp only [Option.map_eq_some_iff] at e
    obtain ⟨ds, e, rfl⟩ := e
    have rp := cr.inH sub
    rw [hc] at rp
    obtain ⟨p, ys, rfl, h1, h2⟩ := rp.itsD e
    exact ⟨p, ys, rfl, h1, by rw [h2.len]; exact k _ _ _ (.sc (.int _))⟩
  · cases e
theorem cr_int : CallR X (.type "int") (rBlt "int" X.K) := by
  refine CallR.imp call_int1 fun vs H Q ⟨F, cs, c, sub, a, e, k⟩ => ?_
  obtain ⟨d, e0, hc0⟩ := blt_d (by decide) (by decide) e
  subst hc0
  clear e
  have e := e0
  clear e0
  unfold bltD at e
  rw [if_neg (by decide), if_pos rfl] at e
  split at e
  · rename_i d0 hd
    obtain ⟨c, rfl, hc⟩ := map_one hd
    obtain ⟨v, f, rfl, cr⟩ := a.one
    have rp := cr.inH sub
    rw [hc] at rp
    cases e; cases rp
    exact .inl ⟨_, rfl, k _ _ _ (.sc (.int _))⟩
  · rename_i d0 hd
    obtain ⟨c, rfl, hc⟩ := map_one hd
    obtain ⟨v, f, rfl, cr⟩ := a.one
    have rp := cr.inH sub
    rw [hc] at rp
    cases e; cases rp
    exact .inr ⟨_, rfl, k _ _ _ (.sc (.int _))⟩
  · cases e
theorem Rp.lst_ints {v : V} {ds : List D} {is : List Int} (h : Rp K F v (.lst ds)) (e : D.ints ds = some is) : ∃ a, v = .ref a ∧ SqL K F a (is.map V.int) := by
  cases h with
  | lst h1 h2 => rw [h2.ints e] at h1; exact ⟨_, rfl, .inl (.inl h1)⟩
theorem Rp.lst_bls {v : V} {ds : List D} {is : List Bool} (h : Rp K F v (.lst ds)) (e : D.bls ds = some is) : ∃ a, v = .ref a ∧ SqL K F a (is.map V.bl) := by
  cases h with
  | lst h1 h2 => rw [h2.bls e] at h1; exact ⟨_, rfl, .inl (.inl h1)⟩
theorem cr_maxm (hc : X.calm = true) : CallR X (.builtin "max") (rBlt "max" X.K) := by
  refine CallR.imp ((call_max2 hc).or (L2.cr_max hc)) fun vs H Q ⟨F, cs, c, sub, a, e, k⟩ => ?_
  obtain ⟨d, e0, hc0⟩ := blt_d (by decide) (by decide) e
  subst hc0
  clear e
  have e := e0
  clear e0
  unfold bltD at e
  rw [if_neg (by decide), if_neg (by decide), if_pos rfl] at e
  split at e
  · rename_i i j hd
    obtain ⟨c, c', rfl, hc, hc'⟩ := map_two hd
    obtain ⟨v, u, f, g, rfl, cr, cr'⟩ := a.two
    have rp := cr.inH sub
    have rp' := cr'.inH sub
    rw [hc] at rp; rw [hc'] at rp'
    cases e; cases rp; cases rp'
    exact .inl ⟨_, _, rfl, k _ _ _ (.sc (.int _))⟩
  · rename_i ds hd
    obtain ⟨c, rfl, hc⟩ := map_one hd
    obtain ⟨v, f, rfl, cr⟩ := a.one
    have rp := cr.inH sub
    rw [hc] at rp
    simp only [Option.bind_eq_some_iff] at e
    obtain ⟨is, e1, e2⟩ := e
    split at e2
    · cases e2
    · rename_i hne
      cases e2
      obtain ⟨p, rfl, hs⟩ := rp.lst_ints e1
      have hne : is ≠ [] := by simpa using hne
      obtain ⟨m1, m2⟩ := maxL_spec is hne
      refine .inr ⟨p, is, rfl, hs, List.length_pos_iff.mpr hne, fun m h1 h2 => ?_⟩
      have : m = maxL is := Int.le_antisymm (m2 m h1) (h2 _ m1)
      subst this
      exact k _ _ _ (.sc (.int _))
  · cases e
theorem cr_minm (hc : X.calm = true) : CallR X (.builtin "min") (rBlt "min" X.K) := by
  refine CallR.imp ((call_min2 hc).or (L2.cr_min hc)) fun vs H Q ⟨F, cs, c, sub, a, e, k⟩ => ?_
  obtain ⟨d, e0, hc0⟩ := blt_d (by decide) (by decide) e
  subst hc0
  clear e
  have e := e0
  clear e0
  unfold bltD at e
  rw [if_neg (by decide), if_neg (by decide), if_neg (by decide), if_pos rfl] at e
  split at e
  · rename_i i j hd
    obtain ⟨c, c', rfl, hc, hc'⟩ := map_two hd
    obtain ⟨v, u, f, g, rfl, cr, cr'⟩ := a.two
    have rp := cr.inH sub
    have rp' := cr'.inH sub
    rw [hc] at rp; rw [hc'] at rp'
    cases e; cases rp; cases rp'
    exact .inl ⟨_, _, rfl, k _ _ _ (.sc (.int _))⟩
  · rename_i ds hd
    obtain ⟨c, rfl, hc⟩ := map_one hd
    obtain ⟨v, f, rfl, cr⟩ := a.one
    have rp := cr.inH sub
    rw [hc] at rp
    simp only [Option.bind_eq_some_iff] at e
    obtain ⟨is, e1, e2⟩ := e
    split at e2
    · cases e2
    · rename_i hne
      cases e2
      obtain ⟨p, rfl, hs⟩ := rp.lst_ints e1
      have hne : is ≠ [] := by simpa using hne
      obtain ⟨m1, m2⟩ := minL_spec is hne
      refine .inr ⟨p, is, rfl, hs, List.length_pos_iff.mpr hne, fun m h1 h2 => ?_⟩
      have : m = minL is := Int.le_antisymm (h2 _ m1) (m2 m h1)
      subst this
      exact k _ _ _ (.sc (.int _))
  · cases e
theorem cr_summ (hc : X.calm = true) : CallR X (.builtin "sum") (rBlt "sum" X.K) := by
  refine CallR.imp (L2.cr_sum hc) fun vs H Q ⟨F, cs, c, sub, a, e, k⟩ => ?_
  obtain ⟨d, e0, hc0⟩ := blt_d (by decide) (by decide) e
  subst hc0
  clear e
  have e := e0
  clear e0
  unfold bltD at e
  rw [if_neg (by decide), if_neg (by decide), if_neg (by decide), if_neg (by decide), if_pos rfl] at e
  split at e
  · rename_i ds hd
    obtain ⟨c, rfl, hc⟩ := map_one hd
    obtain ⟨v, f, rfl, cr⟩ := a.one
    have rp := cr.inH sub
    rw [hc] at rp
    simp only [Option.map_eq_some_iff] at e
    obtain ⟨is, e1, rfl⟩ := e
    obtain ⟨p, rfl, hs⟩ := rp.lst_ints e1
    exact ⟨p, is, rfl, hs, k _ _ _ (.sc (.int _))⟩
  · cases e
theorem cr_anym (hc : X.calm = true) : CallR X (.builtin "any") (rBlt "any" X.K) := by
  refine CallR.imp (L2.cr_any hc) fun vs H Q ⟨F, cs, c, sub, a, e, k⟩ => ?_
  obtain ⟨d, e0, hc0⟩ := blt_d (by decide) (by decide) e
  subst hc0
  clear e
  have e := e0
  clear e0
  unfold bltD at e
  rw [if_neg (by decide), if_neg (by decide), if_neg (by decide), if_neg (by decide), if_neg (by decide), if_pos rfl] at e
  split at e
  · rename_i ds hd
    obtain ⟨c, rfl, hc⟩ := map_one hd
    obtain ⟨v, f, rfl, cr⟩ := a.one
    have rp := cr.inH sub
    rw [hc] at rp
    simp only [Option.map_eq_some_iff] at e
    obtain ⟨is, e1, rfl⟩ := e
    obtain ⟨p, rfl, hs⟩ := rp.lst_bls e1
    exact ⟨p, is, rfl, hs, k _ _ _ (.sc (.bl _))⟩
  · cases e
theorem cr_allm (hc : X.calm = true) : CallR X (.builtin "all") (rBlt "all" X.K) := by
  refine CallR.imp (L2.cr_all hc) fun vs H Q ⟨F, cs, c, sub, a, e, k⟩ => ?_
  obtain ⟨d, e0, hc0⟩ := blt_d (by decide) (by decide) e
  subst hc0
  clear e
  have e := e0
  clear e0
  unfold bltD at e
  rw [if_neg (by decide), if_neg (by decide), if_neg (by decide), if_neg (by decide), if_neg (by decide), if_neg (by decide), if_pos rfl] at e
  split at e
  · rename_i ds hd
    obtain ⟨c, rfl, hc⟩ := map_one hd
    obtain ⟨v, f, rfl, cr⟩ := a.one
    have rp := cr.inH sub
    rw [hc] at rp
    simp only [Option.map_eq_some_iff] at e
    obtain ⟨is, e1, rfl⟩ := e
    obtain ⟨p, rfl, hs⟩ := rp.lst_bls e1
    exact ⟨p, is, rfl, hs, k _ _ _ (.sc (.bl _))⟩
  · cases e
theorem cr_absm : CallR X (.builtin "abs") (rBlt "abs" X.K) := by
  refine CallR.imp L2.call_abs fun vs H Q ⟨F, cs, c, sub, a, e, k⟩ => ?_
  obtain ⟨d, e0, hc0⟩ := blt_d (by decide) (by decide) e
  subst hc0
  clear e
  have e := e0
  clear e0
  unfold bltD at e
  rw [if_neg (by decide), if_neg (by decide), if_neg (by decide), if_neg (by decide), if_neg (by decide), if_neg (by decide), if_neg (by decide), if_pos rfl] at e
  split at e
  · rename_i ds hd
    obtain ⟨c, rfl, hc⟩ := map_one hd
    obtain ⟨v, f, rfl, cr⟩ := a.one
    have rp := cr.inH sub
    rw [hc] at rp
    cases e; cases rp
    exact ⟨_, rfl, k _ _ _ (.sc (.int _))⟩
  · cases e
theorem cr_listm : CallR X (.type "list") (rBlt "list" X.K) := by
  refine CallR.imp call_list_of fun vs H Q ⟨F, cs, c, sub, a, e, k⟩ => ?_
  unfold bltC at e
  rw [if_pos rfl] at e
  split at e
  · obtain ⟨v, f, rfl, cr⟩ := a.one
    simp only [Option.map_eq_some_iff] at e
    obtain ⟨ds, e, rfl⟩ := e
    obtain ⟨p, ys, rfl, h1, h2⟩ := cr.els sub e
    exact ⟨p, ys, rfl, .inl (.inl (.inl h1)), fun q hq => k _ _ _ (.lst hq h2)⟩
  · cases e
theorem ofInts' (is : List Int) : (is.map D.int).map Cell.im = is.map fun i => Cell.im (.int i) := by rw [List.map_map]; rfl
/-- sorted of pairs of ints, however they stand -/
def rSrtT (K : PySem.W.Frag) : List V → Hp → VK → Prop := fun args H Q => ∃ (l : Addr) (zs : List V) (key : V → Int × Int), args = [.ref l] ∧ SqL K H l zs ∧ (∀ z ∈ zs, ∃ t, z = .ref t ∧ SqT K H t [.int (key z).1, .int (key z).2]) ∧
  ∀ (ys : List V) (q : Addr), SrtO.Srtd (ltP key) ys → ys.Perm zs → H q = none → Q (.ref q) (upd H q (.lst ys))
theorem cr_srtT : CallR X (.builtin "sorted") (rSrtT X.K) := fun pins s σ H args us Q I r h => by
  obtain ⟨l, zs, key, rfl, hs, hz, hq⟩ := h
  obtain ⟨ws, rw, hl, hn⟩ := I.list hs
  obtain ⟨u, rfl, ru⟩ := vals1 r
  cases (show u = Value.ref l from ru)
  have back := refs_back rw fun z m => (hz z m).imp fun t h => h.1
  refine SrtO.sorted_pairsO (k := key ∘ backV) hl.isList (Nat.le_trans (Nat.le_of_eq rw.length.symm) hn) (fun w hw => ?_) fun g d out o1 o2 keep le ⟨n, at'⟩ => ?_
  · obtain ⟨t, rfl⟩ := back.2 w hw
    obtain ⟨t', e, ht⟩ := hz (.ref t) (back.1 ▸ List.mem_map.mpr ⟨_, hw, rfl⟩)
    cases e
    obtain ⟨xs, rx, hx, _⟩ := I.tuple ht
    obtain ⟨v1, v2, rfl, r1, r2⟩ := vals2 rx
    obtain ⟨k1, rfl⟩ := r1
    obtain ⟨k2, rfl⟩ := r2
    obtain ⟨o, ho, hc, m, hd⟩ := hx
    exact ⟨t, o, k1, k2, m, rfl, ho, hc, hd⟩
  · have rf : ∀ w ∈ out, ∃ a, w = Value.ref a := fun w hw => back.2 w (o2.perm.mem_iff.mp hw)
    have pm : (out.map backV).Perm zs := by rw [back.1]; exact o2.perm.map backV
    exact ⟨.ref d, upd H d (.lst (out.map backV)), I.laid (t' := s.toks) keep le ⟨by rw [pm.length_eq]; exact hn, out, n, vals_back rf, at'⟩, rfl, hq _ d (SrtO.srtd_map o1) pm (I.hok.fresh le)⟩
theorem insP_perm (x : Int × Int) : ∀ l, (insP x l).Perm (x :: l)
  | [] => .refl _
  | y :: ys => by
    unfold insP
    split
    · exact ((insP_perm x ys).cons y).trans (.swap x y ys)
    · exact .refl _
theorem sortP_perm : ∀ l, (sortP l).Perm l
  | [] => .refl _
  | x :: xs => (insP_perm x (sortP xs)).trans ((sortP_perm xs).cons x)
theorem lexB_trN {x y z : Int × Int} (h1 : SrtO.lexB y x = false) (h2 : SrtO.lexB z y = false) : SrtO.lexB z x = false := by
  rw [SrtO.lexB_no] at *
  omega
theorem insP_srt (x : Int × Int) : ∀ {l}, l.Pairwise (fun a b => SrtO.lexB b a = false) → (insP x l).Pairwise (fun a b => SrtO.lexB b a = false)
  | [], _ => List.pairwise_singleton _ _
  | y :: ys, h => by
    obtain ⟨h1, h2⟩ := List.pairwise_cons.mp h
    unfold insP
    split
    · rename_i hb
      refine List.pairwise_cons.mpr ⟨fun z hz => ?_, insP_srt x h2⟩
      rcases List.mem_cons.mp ((insP_perm x ys).mem_iff.mp hz) with rfl | hz
      · have := SrtO.lexB_iff.mp hb
        rw [SrtO.lexB_no]
        omega
      · exact h1 z hz
    · rename_i hb
      have hb : SrtO.lexB y x = false := by simpa using hb
      refine List.pairwise_cons.mpr ⟨fun z hz => ?_, h⟩
      rcases List.mem_cons.mp hz with rfl | hz
      · exact hb
      · exact lexB_trN hb (h1 z hz)
theorem sortP_srt : ∀ l, (sortP l).Pairwise (fun a b => SrtO.lexB b a = false)
  | [] => .nil
  | x :: xs => insP_srt x (sortP_srt xs)
theorem lex_uniq : ∀ {l m : List (Int × Int)}, l.Perm m → l.Pairwise (fun a b => SrtO.lexB b a = false) → m.Pairwise (fun a b => SrtO.lexB b a = false) → l = m
  | [], m, p, _, _ => (List.Perm.eq_nil p.symm).symm
  | x :: l, [], p, _, _ => absurd p.length_eq (by simp)
  | x :: l, y :: m, p, h1, h2 => by
    obtain ⟨a1, a2⟩ := List.pairwise_cons.mp h1
    obtain ⟨b1, b2⟩ := List.pairwise_cons.mp h2
    have e : x = y := by
      rcases List.mem_cons.mp (p.mem_iff.mp (List.mem_cons_self (a := x) (l := l))) with e | hx
      · exact e
      · rcases List.mem_cons.mp (p.mem_iff.mpr (List.mem_cons_self (a := y) (l := m))) with e | hy
        · exact e.symm
        · have c1 := SrtO.lexB_no.mp (b1 x hx)
          have c2 := SrtO.lexB_no.mp (a1 y hy)
          exact Prod.ext (by omega) (by omega)
    subst e
    rw [lex_uniq p.cons_inv a2 b2]
theorem rp_tupD {K : PySem.W.Frag} {F : Hp} {v : V} {q : Int × Int} (h : Rp K F v (tupD q)) : ∃ t, v = .ref t ∧ SqT K F t [.int q.1, .int q.2] := by
  unfold tupD at h
  cases h with
  | tup h1 h2 =>
    cases h2 with
    | cons g1 g2 =>
      cases g2 with
      | cons g3 g4 =>
        cases g1; cases g3; cases g4
        exact ⟨_, rfl, h1⟩
theorem tupD_rp {K : PySem.W.Frag} {F : Hp} {t : Addr} {q : Int × Int} (h : SqT K F t [.int q.1, .int q.2]) : Rp K F (.ref t) (tupD q) := .tup h (.cons (.int _) (.cons (.int _) .nil))
theorem cr_srtP : CallR X (.builtin "sorted") (fun args H Q => ∃ (F : Hp) (l : Addr) (zs : List V) (ps : List (Int × Int)), Same F H ∧ args = [.ref l] ∧ SqL X.K H l zs ∧ RpA X.K F zs (ps.map tupD) ∧ ∀ (ys : List V) (q : Addr), RpA X.K F ys ((sortP ps).map tupD) → H q = none → Q (.ref q) (upd H q (.lst ys))) := fun pins s σ H args us Q I r h => by
  obtain ⟨F, l, zs, ps, sub, rfl, hs, hr, hq⟩ := h
  obtain ⟨key, hk⟩ := Classical.skolem.mp (fun z : V => show ∃ k : Int × Int, (∃ j, Rp X.K F z (tupD j)) → Rp X.K F z (tupD k) from by
    by_cases e : ∃ j, Rp X.K F z (tupD j)
    · obtain ⟨j, hj⟩ := e
      exact ⟨j, fun _ => hj⟩
    · exact ⟨(0, 0), fun z => absurd z e⟩)
  have inj : ∀ z j, Rp X.K F z (tupD j) → key z = j := fun z j hj => by
    obtain ⟨t, rfl, h1⟩ := rp_tupD hj
    obtain ⟨t', e, h2⟩ := rp_tupD (hk (.ref t) ⟨j, hj⟩)
    cases e
    have := I.tuple_inj (same_tup sub h1) (same_tup sub h2)
    simp only [List.cons.injEq, V.int.injEq, and_true] at this
    exact Prod.ext this.1.symm this.2.symm
  have all : ∀ (zs : List V) (ps : List (Int × Int)), RpA X.K F zs (ps.map tupD) → zs.map key = ps ∧ ∀ z ∈ zs, Rp X.K F z (tupD (key z)) := fun zs => by
    induction zs with
    | nil =>
      intro ps h
      cases ps with
      | nil => exact ⟨rfl, fun _ h => (nomatch h)⟩
      | cons p ps => cases h
    | cons z zs ih =>
      intro ps h
      cases ps with
      | nil => cases h
      | cons p ps =>
        cases h with
        | cons h1 h2 =>
          obtain ⟨i1, i2⟩ := ih ps h2
          have e := inj z p h1
          refine ⟨by rw [List.map_cons, e, i1], fun x hx => ?_⟩
          rcases List.mem_cons.mp hx with rfl | hx
          · rw [e]; exact h1
          · exact i2 x hx
  obtain ⟨e1, e2⟩ := all zs ps hr
  refine cr_srtT pins s σ H _ us Q I r ⟨l, zs, key, rfl, hs, fun z hz => ?_, fun ys q so pm hn => hq ys q ?_ hn⟩
  · obtain ⟨t, e, ht⟩ := rp_tupD (e2 z hz)
    exact ⟨t, e, same_tup sub ht⟩
  · have e3 : ys.map key = sortP ps := lex_uniq ((pm.map key).trans (by rw [e1]; exact (sortP_perm ps).symm)) (SrtO.srtd_map so) (sortP_srt ps)
    rw [← e3]
    have e4 : ∀ y ∈ ys, Rp X.K F y (tupD (key y)) := fun y hy => e2 y (pm.mem_iff.mp hy)
    clear e3 so pm hn
    induction ys with
    | nil => exact .nil
    | cons y ys ih => exact .cons (e4 y (List.mem_cons_self ..)) (ih fun x hx => e4 x (List.mem_cons_of_mem _ hx))
theorem prs_tup : ∀ {ds : List D} {ps : List (Int × Int)}, D.prs ds = some ps → ds = ps.map tupD
  | [], ps, h => by cases h; rfl
  | d :: ds, ps, h => by
    unfold D.prs at h
    split at h
    · rename_i e; cases e
    · rename_i i j ds' e
      cases e
      simp only [Option.map_eq_some_iff] at h
      obtain ⟨qs, h, rfl⟩ := h
      rw [prs_tup h]; rfl
    · cases h
theorem cr_sortedm : CallR X (.builtin "sorted") (rBlt "sorted" X.K) := fun pins s σ H args us Q I r ⟨F, cs, c, sub, a, e, k⟩ => by
  unfold bltC at e
  rw [if_neg (by decide), if_pos rfl] at e
  split at e
  · obtain ⟨v, f, rfl, cr⟩ := a.one
    simp only [Option.bind_eq_some_iff] at e
    obtain ⟨ds, e, e2⟩ := e
    obtain ⟨p, ys, rfl, h1, h2⟩ := cr.els sub e
    split at e2
    · rename_i is e3
      cases e2
      rw [h2.ints e3] at h1
      refine cr_sortedI pins s σ H _ us Q I r ⟨p, is, rfl, .inl (.inl h1), fun ns q pm pw hq => ?_⟩
      have : ns = sortI is := sorted_uniq (pm.trans (sortI_perm is).symm) pw (sortI_sorted is)
      subst this
      refine k (.ref q) F (upd H q (.lst ((sortI is).map V.int))) ?_
      rw [← ofInts']
      exact .lst hq (RpA.ofInts _)
    · simp only [Option.map_eq_some_iff] at e2
      obtain ⟨ps, e3, rfl⟩ := e2
      rw [prs_tup e3] at h2
      refine cr_srtP pins s σ H _ us Q I r ⟨F, p, ys, ps, sub, rfl, .inl (.inl h1), h2, fun zs q hr hq => ?_⟩
      refine k (.ref q) F (upd H q (.lst zs)) ?_
      have : ((sortP ps).map fun q => Cell.im (tupD q)) = ((sortP ps).map tupD).map Cell.im := by rw [List.map_map]; rfl
      rw [this]
      exact .lst hq hr
  · cases e
mutual
theorem no_dict : ∀ {d : D} {k : Nat}, d.shp k = true → d.py.hasDict = false
  | .non, _, _ => rfl
  | .bl _, _, _ => rfl
  | .int _, _, _ => rfl
  | .str _, _, _ => rfl
  | .lst ds, 0, h => by simp [D.shp] at h
  | .lst ds, k + 1, h => by
    simp only [D.py, PyData.hasDict]
    exact no_dicts (by simpa [D.shp] using h)
  | .tup ds, 0, h => by simp [D.shp] at h
  | .tup ds, k + 1, h => by
    simp only [D.py, PyData.hasDict]
    exact no_dicts (by simpa [D.shp] using h)
  | .scr _, k, h => by cases k <;> simp [D.shp] at h
theorem no_dicts : ∀ {ds : List D} {k : Nat}, D.shps k ds = true → PyData.hasDictAll (D.pys ds) = false
  | [], _, _ => rfl
  | d :: ds, k, h => by
    have z : d.shp k = true ∧ D.shps k ds = true := by simpa [D.shps] using h
    simp only [D.pys, PyData.hasDictAll]
    rw [no_dict z.1, no_dicts z.2]; rfl
end
/-- repr of data -/
theorem cr_repr (hg : X.A.guards = some []) (hr : Room 1 X.A) : CallR X (.builtin "repr") (fun args H Q => ∃ (a : Addr) (d : D), args = [.ref a] ∧ Rp X.K H (.ref a) d ∧ d.shp 60 = true ∧ d.py.showable = true ∧ d.py.shown.length ≤ sizeLine ∧ Q (.str d.py.shown) H) := fun pins s σ H args us Q I r h => by
  obtain ⟨a, d, rfl, rp, s1, s2, s3, q⟩ := h
  obtain ⟨u, rfl, ru⟩ := vals1 r
  cases (show u = Value.ref a from ru)
  obtain ⟨as, rd⟩ := Dp.reads I d.py (.ref a) (.ref a) (rp.dp s1) rfl
  have dep := (shp_lay s1).2
  have un := hr.un
  refine repr_of_reads' rd s2 (fun z => by rw [no_dict s1] at z; cases z) hg (by omega) (fun _ _ z => z) (fun h2 u tk keep => ?_) s3
  exact ⟨.str d.py.shown, H, I.kept (t' := tk) keep, ⟨u, rfl⟩, q⟩
theorem cr_reprm (hg : X.A.guards = some []) (hr : Room 1 X.A) : CallR X (.builtin "repr") (rBlt "repr" X.K) := by
  refine CallR.imp (cr_repr hg hr) fun vs H Q ⟨F, cs, c, sub, a, e, k⟩ => ?_
  unfold bltC at e
  rw [if_neg (by decide), if_neg (by decide), if_neg (by decide), if_pos rfl] at e
  split at e
  · rename_i c0
    obtain ⟨v, f, rfl, cr⟩ := a.one
    split at e
    · rename_i hc
      cases e
      simp only [Bool.and_eq_true, beq_iff_eq, decide_eq_true_eq] at hc
      have rp := cr.inH sub
      have hv : ∃ p, v = .ref p := by
        generalize c0.frz = d at rp hc
        cases d with
        | lst ds => cases rp; exact ⟨_, rfl⟩
        | tup ds => cases rp; exact ⟨_, rfl⟩
        | scr ns => cases rp; exact ⟨_, rfl⟩
        | _ => exact absurd hc.1.1.1 (by simp [D.flat])
      obtain ⟨p, rfl⟩ := hv
      exact ⟨p, _, rfl, rp, hc.1.1.2, hc.1.2, hc.2, k _ _ _ (.sc (.str _))⟩
    · cases e
  · cases e
theorem cr_tuplem : CallR X (.type "tuple") (rBlt "tuple" X.K) := fun pins s σ H args us Q I r ⟨F, cs, c, sub, a, e, k⟩ => by
  unfold bltC at e
  rw [if_neg (by decide), if_neg (by decide), if_pos rfl] at e
  split at e
  · obtain ⟨v, f, rfl, cr⟩ := a.one
    simp only [Option.map_eq_some_iff] at e
    obtain ⟨ds, e, rfl⟩ := e
    obtain ⟨p, ys, rfl, h1, h2⟩ := cr.els sub e
    obtain ⟨u, rfl, ru⟩ := vals1 r
    exact rl_tuple pins s σ H (.ref p) u Q I ru (.inl ⟨p, ys, rfl, .inl (.inl h1), fun q hq => k _ _ _ (.tup hq h2)⟩)
  · cases e
theorem gl_of {x : Str} (h : glB X.env.scope x = true) : Gl X x := by
  unfold glB at h
  show X.env.scope.names.lookup x = some .globalImplicit
  split at h <;> simp_all
theorem nm_dbg {x : Str} (h : nmB x = true) : (x == ("__debug__" : Str)) = false := by unfold nmB at h; simp at h; simp [h]
theorem s_blt (fx : Fx tx cf k N X) {b : Str} {e : Expr} {es : List Expr} {p pos : Pos} (hb : bltNs.contains b = true) (hg : glB X.env.scope b = true) (pl : ∀ y ∈ e :: es, plE y = true) (ha : PA X (e :: es) (tA X.K ts ps)) :
    PE X (.Call (.Name b p) (e :: es) [] pos) (tE X.K (fun S => (ts S).bind fun p => (bltC b (p.1.map R.c)).map fun c => (.own c, p.2)) ps) := by
  have main : PE X (.Call (.Name b p) (e :: es) [] pos) (tCB (rBlt b X.K) (tA X.K ts ps)) := by
    have h1 := starEach_pl (pl e (List.mem_cons_self ..)) es X.env
    have h2 := back_pl (pos := pos) (env := X.env) fun y hy => pl y (List.mem_cons_of_mem _ hy)
    have hm : X.mg b = none := fx.blt b (by
      simp only [bltNs, List.contains_eq_mem, decide_eq_true_eq] at hb
      simp only [List.mem_cons, List.not_mem_nil, or_false] at hb ⊢
      rcases hb with h | h | h | h | h | h | h | h | h | h | h | h <;> simp [h])
    have hc := fx.calm
    have gl := gl_of hg
    simp only [bltNs, List.contains_eq_mem, decide_eq_true_eq, List.mem_cons, List.not_mem_nil, or_false] at hb
    rcases hb with rfl | rfl | rfl | rfl | rfl | rfl | rfl | rfl | rfl | rfl | rfl | rfl
    · exact pe_callB cr_len gl hm PySem.boot_len ha (he := h1) (hpl := h2)
    · exact pe_callTy cr_int gl hm PyProof.Rows.boot_int ha (he := h1) (hpl := h2)
    · exact pe_callB (cr_maxm hc) gl hm PyProof.Rows.boot_max ha (he := h1) (hpl := h2)
    · exact pe_callB (cr_minm hc) gl hm PyProof.Rows.boot_min ha (he := h1) (hpl := h2)
    · exact pe_callB (cr_summ hc) gl hm PyProof.Rows.boot_sum ha (he := h1) (hpl := h2)
    · exact pe_callB (cr_anym hc) gl hm PyProof.Rows.boot_any ha (he := h1) (hpl := h2)
    · exact pe_callB (cr_allm hc) gl hm PyProof.Rows.boot_all ha (he := h1) (hpl := h2)
    · exact pe_callB cr_absm gl hm PyProof.Rows.boot_abs ha (he := h1) (hpl := h2)
    · exact pe_callTy cr_listm gl hm PyProof.Rows.boot_list ha (he := h1) (hpl := h2)
    · exact pe_callB cr_sortedm gl hm PyProof.Rows.boot_sorted ha (he := h1) (hpl := h2)
    · exact pe_callTy cr_tuplem gl hm PyProof.Rows.boot_tuple ha (he := h1) (hpl := h2)
    · exact pe_callB (cr_reprm fx.gd fx.room1) gl hm (by decide +kernel) ha (he := h1) (hpl := h2)
  refine main.imp fun σ H Q h => ?_
  refine tA_mono (oneA (G := fun rs S => (bltC b (rs.map R.c)).map fun c => (.own c, S)) h) fun vs H1 ⟨F0, H0, S0, p, l, f, F1, S1, f1, g, rs, r, S', go, rr, e, k⟩ => ?_
  simp only [Option.map_eq_some_iff] at e
  obtain ⟨c, e, e'⟩ := e
  cases e'
  refine ⟨F1, _, c, go.sr.sub, rr.acr, e, fun v F' H' n => ?_⟩
  obtain ⟨g', go', cr, _⟩ := go.made n
  exact k _ _ _ _ _ go' cr
/-! ### list(range(..)) -/
theorem rg_rp (a b : Int) : RpA K F (rgV a b) (rngD a b) := by
  unfold rgV rngD
  generalize List.range (b - a).toNat = is
  induction is with
  | nil => exact RpA.nil
  | cons i is ih => exact RpA.cons (Rp.int _) ih
theorem s_lrng1 (fx : Fx tx cf k N X) {x : Expr} {p p2 pos pos2 : Pos} (h1 : glB X.env.scope "list" = true) (h2 : glB X.env.scope "range" = true) (pl : plE x = true) (ha : PE X x (tE X.K ta pa)) :
    PE X (.Call (.Name "list" p) [.Call (.Name "range" p2) [x] [] pos2] [] pos) (tE X.K (fun S => (ta S).bind fun p => match p.1 with
      | .own (.im (.int n)) => if 0 ≤ n ∧ n ≤ 16777216 then some (.own (.ow ((rngD 0 n).map .im)), p.2) else none
      | _ => none) pa) := by
  refine (pe_listRg fx.calm (gl_of h1) (fx.blt _ (by simp)) (prg_1 (gl_of h2) (fx.blt _ (by simp)) ha (starEach_pl pl _ _))).imp fun σ H Q h => ?_
  refine tE_mono (one (G := fun r S => match r with
      | .own (.im (.int n)) => if 0 ≤ n ∧ n ≤ 16777216 then some (.own (.ow ((rngD 0 n).map .im)), S) else none
      | _ => none) h) fun x H1 ⟨F0, H0, S0, p, l, f, F1, S1, f1, g, ra, r, S', go, rr, e, k⟩ => ?_
  split at e
  · rename_i n
    split at e
    · rename_i hz
      cases e
      have hx : x = .int n := CR.int rr
      subst hx
      refine ⟨n, rfl, RgOk.of_le (by omega) (by omega) (by omega) (by omega), fun q hq => ?_⟩
      obtain ⟨g', go', cr, _⟩ := go.made (.lst hq (rg_rp 0 n))
      exact k _ _ _ _ _ go' cr
    · cases e
  · cases e
theorem s_lrng2 (fx : Fx tx cf k N X) {x y : Expr} {p p2 pos pos2 : Pos} (h1 : glB X.env.scope "list" = true) (h2 : glB X.env.scope "range" = true) (pl : plE x = true) (pl2 : plE y = true) (ha : PE X x (tE X.K ta pa)) (hb : PE X y (tE X.K tb pb)) :
    PE X (.Call (.Name "list" p) [.Call (.Name "range" p2) [x, y] [] pos2] [] pos) (tE X.K (fun S => (ta S).bind fun p => (tb p.2).bind fun q => match p.1, q.1 with
      | .own (.im (.int n)), .own (.im (.int m)) => if 0 ≤ n ∧ n ≤ 16777216 ∧ 0 ≤ m ∧ m ≤ 16777216 then some (.own (.ow ((rngD n m).map .im)), q.2) else none
      | _, _ => none) (pa && pb)) := by
  refine (pe_listRg fx.calm (gl_of h1) (fx.blt _ (by simp)) (prg_2 (gl_of h2) (fx.blt _ (by simp)) ha hb (by rw [starEach_pl pl]) (starEach_pl pl2 _ _) (by rw [starEach_pl pl2]; rfl))).imp fun σ H Q h => ?_
  refine tE_mono (two' (G := fun a b S => match a, b with
      | .own (.im (.int n)), .own (.im (.int m)) => if 0 ≤ n ∧ n ≤ 16777216 ∧ 0 ≤ m ∧ m ≤ 16777216 then some (.own (.ow ((rngD n m).map .im)), S) else none
      | _, _ => none) h (fun ra rb S z hz => by
        split at hz
        · rfl
        · cases hz)) fun x H1 q => tE_mono q fun y H2 ⟨F0, H0, S0, p, l, f, F2, S2, f2, ga, gb, ra, rb, r, S', go, rr1, rr2, e, k⟩ => ?_
  split at e
  · rename_i n m
    split at e
    · rename_i hz
      cases e
      have hx : x = .int n := CR.int rr1
      subst hx
      have hy : y = .int m := CR.int rr2
      subst hy
      refine ⟨n, m, rfl, rfl, RgOk.of_le (by omega) (by omega) (by omega) (by omega), fun q hq => ?_⟩
      obtain ⟨g', go', cr, _⟩ := go.made (.lst hq (rg_rp n m))
      exact k _ _ _ _ _ go' cr
    · cases e
  · cases e
/-! ### isinstance -/
theorem Rp.tyx {v : V} {d : D} {t : String} (h : Rp K F v d) (e : d.ty = some t) : TyX K F v (.type t) := by
  cases h with
  | non => cases e; exact .base .non
  | bl b => cases e; exact .base (.bl b)
  | int i => cases e; exact .base (.int i)
  | str x => cases e; exact .base (.str x)
  | lst h1 _ => cases e; exact .base (.lst h1)
  | tup h1 _ =>
    cases e
    rcases h1 with (h1 | ⟨o, h1⟩) | ⟨o, its, n, h1, h2, _⟩
    · exact .base (.tup h1)
    · exact .fTuple h1
    · exact .kTuple h1 h2
  | scr _ => cases e
def isTyNs : List Str := ["int", "bool", "str", "list", "tuple"]
theorem isi_ty {d : D} {t : Str} {b : Bool} (e : isiOne d t = some b) : ∃ a T, d.ty = some a ∧ t = Str.ofString T ∧ bootBuiltins t = some (.type T) ∧ kitB a T = some b ∧ t ∈ isTyNs := by
  unfold isiOne at e
  simp only [Option.bind_eq_some_iff] at e
  obtain ⟨a, ea, e⟩ := e
  split at e
  · rename_i h; subst h; exact ⟨a, "int", ea, rfl, by decide +kernel, e, by decide⟩
  · split at e
    · rename_i h; subst h; exact ⟨a, "bool", ea, rfl, by decide +kernel, e, by decide⟩
    · split at e
      · rename_i h; subst h; exact ⟨a, "str", ea, rfl, by decide +kernel, e, by decide⟩
      · split at e
        · rename_i h; subst h; exact ⟨a, "list", ea, rfl, by decide +kernel, e, by decide⟩
        · split at e
          · rename_i h; subst h; exact ⟨a, "tuple", ea, rfl, by decide +kernel, e, by decide⟩
          · cases e
theorem pe_isName (fx : Fx tx cf k N X) {t : Str} {T : String} {p : Pos} (hg : glB X.env.scope t = true) (hn : nmB t = true) (ht : t ∈ isTyNs) (hb : bootBuiltins t = some (.type T)) : PE X (.Name t p) (tC (.ty T)) := by
  refine pe_bltn (gl_of hg) (fx.blt t ?_) hb rfl ?_ (nm_dbg hn)
  · simp only [isTyNs, List.mem_cons, List.not_mem_nil, or_false] at ht
    rcases ht with h | h | h | h | h <;> simp [h]
  · unfold nmB at hn; simp at hn; simp [hn]
theorem s_isi1 (fx : Fx tx cf k N X) {e : Expr} {t : Str} {p p2 pos : Pos} (hgi : glB X.env.scope "isinstance" = true) (hg : glB X.env.scope t = true) (hn : nmB t = true) (pl : plE e = true) (ha : PE X e (tE X.K ta pa)) :
    PE X (.Call (.Name "isinstance" p) [e, .Name t p2] [] pos) (tE X.K (fun S => (ta S).bind fun p => (isiOne p.1.c.frz t).map fun b => (.own (.im (.bl b)), p.2)) pa) := by
  by_cases ht : t ∈ isTyNs
  · have hbt : ∃ T, bootBuiltins t = some (.type T) ∧ t = Str.ofString T := by
      simp only [isTyNs, List.mem_cons, List.not_mem_nil, or_false] at ht
      rcases ht with rfl | rfl | rfl | rfl | rfl
      · exact ⟨"int", by decide +kernel, rfl⟩
      · exact ⟨"bool", by decide +kernel, rfl⟩
      · exact ⟨"str", by decide +kernel, rfl⟩
      · exact ⟨"list", by decide +kernel, rfl⟩
      · exact ⟨"tuple", by decide +kernel, rfl⟩
    obtain ⟨T, hb, _⟩ := hbt
    refine (pe_callB call_isi (gl_of hgi) (fx.blt _ (by simp)) PyProof.Rows.boot_isinstance (pa_cons ha (pa_cons (pe_isName fx hg hn ht hb) pa_nil) (starEach_pl pl _ _)) (he := starEach_pl pl _ _) (hpl := rfl)).imp fun σ H Q h => ?_
    refine tE_mono (one (G := fun r S => (isiOne r.c.frz t).map fun b => (.own (.im (.bl b)), S)) h) fun x H1 ⟨F0, H0, S0, p, l, f, F1, S1, f1, g, ra, r, S', go, rr, e, k⟩ => ?_
    simp only [Option.map_eq_some_iff] at e
    obtain ⟨b, e, e'⟩ := e
    cases e'
    obtain ⟨a, T', ea, rfl, hb', hk, _⟩ := isi_ty e
    rw [hb] at hb'; cases hb'
    obtain ⟨b1, c1⟩ := rr.cr
    exact ⟨x, .ty T, _, _, b, rfl, .ty T, (c1.inH go.sr.sub).tyx ea, kit_ty hk, k _ _ _ _ [] go.nil (CR.im (.bl _))⟩
  · refine ⟨fun pins s σ H Q I h => ?_⟩
    obtain ⟨F, S, p, l, f, sr, r, S', e, k⟩ := h
    simp only [Option.bind_eq_some_iff, Option.map_eq_some_iff] at e
    obtain ⟨_, _, b, e, _⟩ := e
    obtain ⟨a, T', ea, rfl, hb', hk, hh⟩ := isi_ty e
    exact absurd hh ht
theorem s_isiN (fx : Fx tx cf k N X) {d : D} : ∀ {ts : List Str} {es : List Expr}, isiNs X.env.scope ts es = true → (∀ t ∈ ts, t ∈ isTyNs) →
    ∃ (cs : List V) (us : List Value) (q : TA), PA X es q ∧ Paired ClsV cs us ∧ (∀ b, isiAny d ts = some b → ∀ t, d.ty = some t → PySem.W.kitAny X.K (.type t) us = some b) ∧ cs.length = ts.length ∧ ∀ σ H (Q : List V → Hp → Prop), Q cs H → q σ H Q
  | [], [], _, _ => ⟨[], [], tNil, pa_nil, .nil, fun b e t _ => by simp [isiAny] at e; subst e; rfl, rfl, fun σ H Q h => h⟩
  | [], _ :: _, h, _ => by simp [isiNs] at h
  | t :: ts, [], h, _ => by simp [isiNs] at h
  | t :: ts, e :: es, h, ht => by
    unfold isiNs at h
    split at h
    · rename_i h1 _; cases h1
    · rename_i u us y py es' h1 h2
      cases h1; cases h2
      simp only [Bool.and_eq_true, decide_eq_true_eq] at h
      obtain ⟨⟨⟨rfl, hg⟩, hn⟩, hr⟩ := h
      obtain ⟨cs, us, q, hq, pr, ka, hl, ev⟩ := s_isiN fx (d := d) hr fun t ht' => ht t (List.mem_cons_of_mem _ ht')
      have hti := ht _ (List.mem_cons_self ..)
      have hbt : ∃ T : String, bootBuiltins y = some (.type T) ∧ y = Str.ofString T := by
        simp only [isTyNs, List.mem_cons, List.not_mem_nil, or_false] at hti
        rcases hti with rfl | rfl | rfl | rfl | rfl
        · exact ⟨"int", by decide +kernel, rfl⟩
        · exact ⟨"bool", by decide +kernel, rfl⟩
        · exact ⟨"str", by decide +kernel, rfl⟩
        · exact ⟨"list", by decide +kernel, rfl⟩
        · exact ⟨"tuple", by decide +kernel, rfl⟩
      obtain ⟨T, hb, _⟩ := hbt
      refine ⟨.ty T :: cs, .type T :: us, tCons (tC (.ty T)) q, pa_cons (pe_isName fx hg hn hti hb) hq, .cons (.ty T) pr, fun b e t et => ?_, by simp [hl], fun σ H Q h => ev σ H _ h⟩
      simp only [isiAny, Option.bind_eq_some_iff] at e
      obtain ⟨b1, e1, e2⟩ := e
      obtain ⟨a, T', ea, _, hb', hk, _⟩ := isi_ty e1
      rw [hb] at hb'; cases hb'
      rw [et] at ea; cases ea
      cases b1 with
      | true =>
        rw [if_pos rfl] at e2
        exact kitAny_cons (kit_ty hk) (fun z => by cases z) fun _ => by cases e2; rfl
      | false =>
        rw [if_neg (by simp)] at e2
        exact kitAny_cons (kit_ty hk) (fun _ => ka b e2 t et) fun z => by cases z
    · cases h
theorem isiAny_ty {d : D} : ∀ {ts : List Str} {b : Bool}, ts ≠ [] → isiAny d ts = some b → ∃ a, d.ty = some a
  | [], _, h, _ => absurd rfl h
  | t :: ts, b, _, e => by
    simp only [isiAny, Option.bind_eq_some_iff] at e
    obtain ⟨b1, e1, _⟩ := e
    obtain ⟨a, _, ea, _⟩ := isi_ty e1
    exact ⟨a, ea⟩
theorem s_isi2 (fx : Fx tx cf k N X) {e : Expr} {ts : List Str} {es : List Expr} {n : Nat} {p p2 pos : Pos} (hgi : glB X.env.scope "isinstance" = true) (hts : isiNs X.env.scope ts es = true) (hin : ∀ t ∈ ts, t ∈ isTyNs) (hne : ts ≠ []) (hz : ts.length ≤ 9) (pl : plE e = true) (ha : PE X e (tE X.K ta pa)) :
    PE X (.Call (.Name "isinstance" p) [e, .Tuple es n p2] [] pos) (tE X.K (fun S => (ta S).bind fun p => (isiAny p.1.c.frz ts).map fun b => (.own (.im (.bl b)), p.2)) pa) := by
  refine ⟨fun pins s σ H Q I h => ?_⟩
  have h0 := h
  obtain ⟨F, S, p, l, f, sr, r, S', e, k⟩ := h
  simp only [Option.bind_eq_some_iff, Option.map_eq_some_iff] at e
  obtain ⟨⟨ra, S1⟩, e1, b, e2, e3⟩ := e
  obtain ⟨cs, us, q, hq, pr, ka, hl, ev⟩ := s_isiN fx (d := ra.c.frz) hts hin
  refine (pe_callB call_isiT (gl_of hgi) (fx.blt _ (by simp)) PyProof.Rows.boot_isinstance (pa_cons ha (pa_cons (pe_tup hq) pa_nil) (starEach_pl pl _ _)) (he := starEach_pl pl _ _) (hpl := rfl)).run pins s σ H Q I ?_
  refine ⟨F, S, p, l, f, sr, ra, S1, e1, fun x F1 H1 f1 g go rr => ev σ H1 _ ⟨?_, fun tp htp => ?_⟩⟩
  · have : cs.length ≤ 16777216 := by omega
    rw [sizeLine_eq]; exact this
  · cases e3
    obtain ⟨a, ea⟩ := isiAny_ty hne e2
    obtain ⟨b1, c1⟩ := rr.cr
    obtain ⟨go3, st⟩ := go.nil.newF (o := .tup cs) htp
    have rx := (c1.inH go.sr.sub).tyx ea
    have rx' : TyX X.K (upd H1 tp (.tup cs)) x (.type a) := (((c1.inH go.sr.sub).mono (F' := upd H1 tp (.tup cs)) fun y o h => by rw [upd_ne (ne_of_none h htp)]; exact h)).tyx ea
    exact ⟨x, tp, cs, _, us, b, rfl, upd_same, pr, rx', ka b e2 a ea, k _ _ _ _ [] go3 (CR.im (.bl _))⟩
/-! ### methods -/
theorem set_id {σ : L2.St} {i : Nat} {o : Option V} (h : σ[i]? = some o) : σ.set i o = σ := List.ext_getElem? fun j => by
  by_cases hj : i = j
  · subst hj
    have : i < σ.length := (List.getElem?_eq_some_iff.mp h).1
    rw [List.getElem?_set_self this, h]
  · rw [List.getElem?_set_ne hj]
theorem crs_erase : ∀ {cs : List Cell} {vs : List V} {fo : List Addr} {j : Nat} {c : Cell}, CRs K F H vs cs fo → cs[j]? = some c → ∃ v g1 g g2, vs[j]? = some v ∧ fo = g1 ++ (g ++ g2) ∧ CRs K F H (vs.eraseIdx j) (cs.eraseIdx j) (g1 ++ g2) ∧ CR K F H v c g
  | [], _, _, _, _, h, e => by simp at e
  | x :: cs, _, _, 0, c, h, e => by
    cases h with
    | @cons v vs _ _ f g h1 h2 =>
      simp at e; subst e
      exact ⟨v, [], f, g, rfl, rfl, h2, h1⟩
  | x :: cs, _, _, j + 1, c, h, e => by
    cases h with
    | @cons v vs _ _ f g h1 h2 =>
      obtain ⟨v', g1, g', g2, a, b, q1, q2⟩ := crs_erase h2 (j := j) (by simpa using e)
      subst b
      refine ⟨v', f ++ g1, g', g2, by simpa using a, by simp, ?_, q2⟩
      have := CRs.cons h1 q1
      simpa using this
/-- one item taken out of a slot's list -/
theorem pop_go {S : Sta} {p : Addr} {i j : Nat} {cs : List Cell} {c : Cell} (sr : SR K F H σ S p l f) (hd : S.ρ[i]? = some (.c (.ow cs))) (hc : cs[j]? = some c) :
    ∃ p0 us v f' g, σ[i]? = some (some (.ref p0)) ∧ H p0 = some (.lst us) ∧ us.length = cs.length ∧ us[j]? = some v ∧ Go K σ p l F H S f false F (upd H p0 (.lst (us.eraseIdx j))) σ ⟨S.ρ.set i (.c (.ow (cs.eraseIdx j))), S.io⟩ f' g ∧
      CR K F (upd H p0 (.lst (us.eraseIdx j))) v c g := by
  obtain ⟨o, f1, go, f2, a, b, c1, put⟩ := sr.er.at hd
  cases c1 with
  | c c1 =>
  cases c1 with
  | @ow p0 us _ fo i1 i2 i3 =>
  obtain ⟨v, g1, g, g2, h1, rfl, q1, q2⟩ := crs_erase i3 hc
  have nd := sr.nd
  rw [b] at nd
  have inF : ∀ x ∈ f1 ++ f2, x ∈ f ∧ x ≠ p0 := fun x hx => by
    refine ⟨by rw [b]; rcases List.mem_append.mp hx with z | z <;> simp [z], fun z => ?_⟩
    subst z
    simp only [List.nodup_append, List.mem_append, List.mem_cons, List.cons_append, List.nodup_cons] at nd hx
    grind
  have g1n : ∀ x ∈ g1 ++ g2, x ≠ p0 := fun x hx z => by
    subst z
    simp only [List.nodup_append, List.mem_append, List.nodup_cons, List.cons_append] at nd hx
    grind
  have g2n : ∀ x ∈ g, x ≠ p0 := fun x hx z => by
    subst z
    simp only [List.nodup_append, List.mem_append, List.nodup_cons, List.cons_append] at nd
    grind
  have ln : ∀ x ∈ l, x ≠ p0 := fun x hx z => by
    subst z
    simp only [List.nodup_append, List.mem_append, List.nodup_cons, List.cons_append, List.mem_cons] at nd
    grind
  have up : ∀ x o, x ≠ p0 → H x = some o → upd H p0 (.lst (us.eraseIdx j)) x = some o := fun x o n h => by rw [upd_ne n]; exact h
  have sub' : Same F (upd H p0 (.lst (us.eraseIdx j))) := fun x o h => up x o (fun z => by subst z; rw [i1] at h; cases h) (sr.sub x o h)
  have q1' := CRs.mono (F' := F) (H' := upd H p0 (.lst (us.eraseIdx j))) (fun _ _ h => h) q1 (fun x hx o h => up x o (g1n x hx) h) fun x hx => (CRs.own q1 x hx).1
  have q2' := CR.mono (F' := F) (H' := upd H p0 (.lst (us.eraseIdx j))) (fun _ _ h => h) q2 (fun x hx o h => up x o (g2n x hx) h) fun x hx => (CR.own q2 x hx).1
  have er := put F (upd H p0 (.lst (us.eraseIdx j))) (some (.ref p0)) (.c (.ow (cs.eraseIdx j))) (p0 :: (g1 ++ g2)) (fun _ _ h => h) (fun x hx o h => up x o (inF x hx).2 h) (fun x hx => (sr.er.own x (inF x hx).1).1) (.c (.ow i1 upd_same q1'))
  rw [set_id a] at er
  have nd2 : (l ++ (f1 ++ ((p0 :: (g1 ++ g2)) ++ f2) ++ g)).Nodup := by
    simp only [List.nodup_append, List.mem_append, List.nodup_cons, List.cons_append, List.mem_cons] at nd ⊢
    grind
  refine ⟨p0, us, v, f1 ++ ((p0 :: (g1 ++ g2)) ++ f2), g, a, i2, i3.len, h1, ⟨⟨fun _ _ h => h, fun x o h m => up x o (fun z => m ?_) h, fun _ _ _ h _ => h⟩, ⟨sub', er, sr.ior.mono (fun _ _ h => h) fun x hx o h => ⟨up x o (ln x hx) h, fun n => n⟩, nd2.sublist ((List.Sublist.refl l).append (List.sublist_append_left ..))⟩, nd2, fun x hx => .inl ?_, fun h => by cases h⟩, q2'⟩
  · subst z; unfold mus; rw [if_neg (by simp), b]; simp
  · rw [b]; simp only [List.mem_append, List.mem_cons, List.cons_append] at hx ⊢; grind
theorem s_pop0 (fx : Fx tx cf k N X) {i : Nat} {y : Expr} {ap pos : Pos} (hi : nm1 N X.env.scope i y = true) (hl : (ap.endLine == pos.line) = true) :
    PE X (.Call (.Attribute y "pop" ap) [] [] pos) (tE X.K (fun S => match S.ρ[i]? with
      | some (.c (.ow cs)) => cs.getLast?.map fun c => (.own c, ⟨S.ρ.set i (.c (.ow cs.dropLast)), S.io⟩)
      | _ => none) false) := by
  obtain ⟨x, py, rfl, y1, y2, y3, y4⟩ := nm1_of hi
  refine (pe_bm0 PySem.F.plainAttrs_list PySem.F.slot_list_pop PySem.F.type_list_pop mt_pop (pe_var (i := i) (by rw [fx.hN]; exact y1) y2 y3 y4) rfl hl).imp fun σ H Q ⟨F, S, p, l, f, sr, r, S', e, k⟩ => ?_
  dsimp only at e
  split at e
  · rename_i cs hd
    simp only [Option.map_eq_some_iff] at e
    obtain ⟨c, e, e'⟩ := e
    cases e'
    have hz : cs[cs.length - 1]? = some c := by rw [← List.getLast?_eq_getElem?]; exact e
    obtain ⟨p0, us, v, f', g, h1, h2, hlen, h3, go, cr⟩ := pop_go sr hd hz
    have e1 : cs.dropLast = cs.eraseIdx (cs.length - 1) := List.eraseIdx_length_sub_one.symm
    have e2 : us.dropLast = us.eraseIdx (cs.length - 1) := by rw [← hlen]; exact List.eraseIdx_length_sub_one.symm
    refine ⟨_, h1, .inl ⟨rfl, _, .inl (.inl h2)⟩, p0, us, v, rfl, rfl, h2, by rw [hlen]; exact h3, ?_⟩
    rw [e2]
    rw [e1] at k
    exact k _ _ _ _ _ go cr
  · cases e
theorem s_pop (fx : Fx tx cf k N X) {i : Nat} {y x : Expr} {ap pos : Pos} (hi : nm1 N X.env.scope i y = true) (pl : plE x = true) (hl : (ap.endLine == pos.line) = true) (ha : PE X x (tE X.K ta pa)) :
    PE X (.Call (.Attribute y "pop" ap) [x] [] pos) (tE X.K (fun S => if !ownB S i then none else (ta S).bind fun p => match p.1, p.2.ρ[i]? with
      | .own (.im (.int k)), some (.c (.ow cs)) => if -(2 ^ 63) ≤ k ∧ k < 2 ^ 63 then (seqIndex? k cs.length).bind fun j => cs[j]?.map fun c => (.own c, ⟨p.2.ρ.set i (.c (.ow (cs.eraseIdx j))), p.2.io⟩) else none
      | _, _ => none) false) := by
  obtain ⟨xn, py, rfl, y1, y2, y3, y4⟩ := nm1_of hi
  refine (pe_bm PySem.F.plainAttrs_list PySem.F.slot_list_pop PySem.F.type_list_pop mt_popAt (pe_var (i := i) (by rw [fx.hN]; exact y1) y2 y3 y4) (pa_cons ha pa_nil (starEach_pl pl _ _)) rfl (by rw [starEach_pl pl]; rfl) hl (starEach_pl pl _ _) rfl).imp fun σ H Q ⟨F, S, p, l, f, sr, r, S', e, k⟩ => ?_
  dsimp only at e
  split at e
  · cases e
  rename_i hob
  have hob : ownB S i = true := by simpa using hob
  simp only [Option.bind_eq_some_iff] at e
  obtain ⟨⟨ra, S1⟩, e1, e2⟩ := e
  have hvi : ∃ p1 us, σ[i]? = some (some (.ref p1)) ∧ H p1 = some (.lst us) := by
    unfold ownB at hob
    split at hob
    · rename_i hd
      obtain ⟨o, f1, g, f2, a, b, c, _⟩ := sr.er.at hd
      cases c with
      | c c => cases c with | ow i1 i2 i3 => exact ⟨_, _, a, i2⟩
    · rename_i hd
      obtain ⟨o, f1, g, f2, a, b, c, _⟩ := sr.er.at hd
      cases c with
      | io =>
        have ir := sr.ior
        unfold IoR at ir
        split at ir
        · rename_i hio; rw [hio] at hob; cases hob
        · obtain ⟨_, _, us, h1, _⟩ := ir
          exact ⟨p, us, a, h1⟩
    · cases hob
  obtain ⟨p1, us1, hv0, hus1⟩ := hvi
  refine ⟨_, hv0, .inl ⟨rfl, _, .inl (.inl hus1)⟩, F, S, p, l, f, sr, ra, S1, e1, fun vi F1 H1 f1 g go rr => ?_⟩
  dsimp only at e2
  split at e2
  · rename_i n cs hd
    have hvi : vi = .int n := CR.int rr
    subst hvi
    split at e2
    · rename_i hz
      simp only [Option.bind_eq_some_iff, Option.map_eq_some_iff] at e2
      obtain ⟨j, e3, c, e4, e5⟩ := e2
      cases e5
      obtain ⟨p0, us, v, f', g', h1, h2, hlen, h3, go', cr⟩ := pop_go go.sr hd e4
      rw [hv0] at h1
      cases h1
      obtain ⟨go2, _, _⟩ := go.nil.trans go' fun _ z => nomatch z
      exact ⟨p1, us, n, j, v, rfl, rfl, h2, hz.1, hz.2, by rw [hlen]; exact e3, h3, k _ _ _ _ _ (by simpa using go2) cr⟩
    · cases e2
  · cases e2
theorem pys_get : ∀ (ds : List D) (j : Nat), (D.pys ds)[j]? = (ds[j]?).map D.py
  | [], _ => by simp [D.pys]
  | d :: ds, 0 => by simp [D.pys]
  | d :: ds, j + 1 => by simp [D.pys, pys_get ds j]
theorem shps_get : ∀ {ds : List D} {m j : Nat} {d : D}, D.shps m ds = true → ds[j]? = some d → d.shp m = true
  | [], _, _, _, _, e => by simp at e
  | x :: ds, m, 0, d, h, e => by
    have s' : x.shp m = true ∧ D.shps m ds = true := by simpa [D.shps] using h
    simp at e; subst e; exact s'.1
  | x :: ds, m, j + 1, d, h, e => by
    have s' : x.shp m = true ∧ D.shps m ds = true := by simpa [D.shps] using h
    exact shps_get s'.2 (by simpa using e)
theorem s_ixof (fx : Fx tx cf k N X) {y x : Expr} {ap pos : Pos} (nc : noCall y = true) (pl : plE x = true) (hl : (ap.endLine == pos.line) = true) (ha : PE X y (tE X.K ta pa)) (hb : PE X x (tE X.K tb pb)) :
    PE X (.Call (.Attribute y "index" ap) [x] [] pos) (tE X.K (fun S => (ta S).bind fun p => (tb p.2).bind fun q =>
    if p.1.isBor && !pb then none else p.1.c.els.bind fun ds =>
      if D.shps 59 ds && q.1.c.frz.shp 60 then (ds.findIdx? fun z => z.eqv q.1.c.frz).map fun (j : Nat) => (.own (.im (.int (j : Int))), q.2) else none) (pa && pb)) := by
  have hr := fx.room1
  have hu : X.A.units + 65 < cLine := by have := hr.un; omega
  have nc' : ∀ f as ks p, y ≠ .Call f as ks p := fun f as ks p z => by subst z; cases nc
  refine (pe_bm PySem.F.plainAttrs_list PySem.F.slot_list_index PySem.F.type_list_index (mt_indexD hu) ha (pa_cons hb pa_nil (starEach_pl pl _ _)) (attr_pl nc') (by rw [starEach_pl pl]; rfl) hl (starEach_pl pl _ _) rfl).imp fun σ H Q h => ?_
  obtain ⟨F, S, p, l, f, sr, r, S', e, k⟩ := h
  simp only [Option.bind_eq_some_iff] at e
  obtain ⟨⟨ra, S1⟩, e1, ⟨rb, S2⟩, e2, e3⟩ := e
  split at e3
  · cases e3
  rename_i hbor
  simp only [Option.bind_eq_some_iff] at e3
  obtain ⟨ds, e4, e5⟩ := e3
  split at e5
  · rename_i hs
    simp only [Bool.and_eq_true] at hs
    simp only [Option.map_eq_some_iff] at e5
    obtain ⟨j, e5, e6⟩ := e5
    cases e6
    refine ⟨F, S, p, l, f, sr, ra, S1, e1, fun x F1 H1 f1 ga go1 rr1 => ?_⟩
    obtain ⟨b0, c0⟩ := rr1.cr
    obtain ⟨a0, vs0, rfl, h00, _⟩ := c0.els go1.sr.sub e4
    refine ⟨.inl ⟨rfl, _, .inl (.inl h00)⟩, F1, S1, p, l, f1, go1.sr, rb, _, e2, fun y F2 H2 f2 gb go2 rr2 => ?_⟩
    obtain ⟨go, st, dis⟩ := go1.trans go2 rr1.ownG
    have rr1' := rr1.held (f1 := f2) st dis fun hb' => by
      have : pb = true := by
        cases pb
        · simp [hb'] at hbor
        · rfl
      subst this
      exact ⟨rfl, (go2.pu rfl).2.1⟩
    obtain ⟨b1, c1⟩ := rr1'.cr
    obtain ⟨b2, c2⟩ := rr2.cr
    obtain ⟨a1, vs1, ha1, h11, h12⟩ := c1.els go.sr.sub e4
    cases ha1
    have rl : Rp X.K H2 (.ref a0) (.lst ds) := .lst h11 (h12.mono go.sr.sub)
    have hl' : (D.lst ds).shp 60 = true := by simpa [D.shp] using hs.1
    rw [List.findIdx?_eq_some_iff_getElem] at e5
    obtain ⟨hj, hj1, hj2⟩ := e5
    refine ⟨a0, y, _, D.pys ds, j, (ds[j]).py, rfl, rfl, rl.dp hl', (c2.inH go.sr.sub).dp hs.2, shp_shaped hl', shp_shaped hs.2, ?_, ?_, fun m z' hm hz' => ?_, k _ _ _ _ [] go.nil (CR.im (.int _))⟩
    · rw [pys_get, List.getElem?_eq_getElem hj]; rfl
    · rw [eqv_py _ _ 59 60 (shps_get hs.1 (List.getElem?_eq_getElem hj)) hs.2]; exact hj1
    · rw [pys_get, List.getElem?_eq_getElem (by omega)] at hz'
      cases hz'
      rw [eqv_py _ _ 59 60 (shps_get hs.1 (List.getElem?_eq_getElem (by omega))) hs.2]
      have := hj2 m hm
      simpa using this
  · cases e5
end
end Mi
/-! Targets, walked things, comprehensions. -/
namespace Mi
open PySem PySem.Spec L2

mutual
def MT.sl : MT → List Nat
  | .nm i => [i] | .tp ts => ts.sl
def MTs.sl : MTs → List Nat
  | .nil => [] | .cons t ts => t.sl ++ ts.sl
end
def tG (K : PySem.W.Frag) (t : MT) : TG := fun v σ H Q => ∃ F S p l f d ρ1, SR K F H σ S p l f ∧ Rp K F v d ∧ bindT t d S.ρ = some ρ1 ∧
  ∀ σ1 f1, SR K F H σ1 ⟨ρ1, S.io⟩ p l f1 → (∀ a ∈ f1, a ∈ f) → (∀ i, i ∉ t.sl → σ1[i]? = σ[i]?) → σ1.length = σ.length → Q σ1 H
def tGs (K : PySem.W.Frag) (t : MTs) : TGs := fun vs σ H Q => ∃ F S p l f ds ρ1, SR K F H σ S p l f ∧ RpA K F vs ds ∧ bindTs t ds S.ρ = some ρ1 ∧
  ∀ σ1 f1, SR K F H σ1 ⟨ρ1, S.io⟩ p l f1 → (∀ a ∈ f1, a ∈ f) → (∀ i, i ∉ t.sl → σ1[i]? = σ[i]?) → σ1.length = σ.length → Q σ1 H
section
variable {X : Cx} {K : PySem.W.Frag} {F F' F1 F2 H H' H1 H2 : Hp} {σ : L2.St} {ta tb tc : Sta → Option (R × Sta)} {ts : Sta → Option (List R × Sta)} {pa pb pc ps : Bool} {Q : VK} {l f g : List Addr}
variable {tx : Txt} {cf : CF} {k : Nat} {N : List Str}
/-- a cell into a slot -/
theorem SR.put {S : Sta} {p : Addr} {i : Nat} {v : V} {c : Cell} (sr : SR K F H σ S p l f) (cr : CR K F H v c g) (nd : (l ++ (f ++ g)).Nodup) :
    ∃ f1, SR K F H (σ.set i (some v)) ⟨S.ρ.set i (.c c), S.io⟩ p l f1 ∧ ∀ a ∈ f1, a ∈ f ∨ a ∈ g := by
  have hlen := sr.er.len
  by_cases hi : i < S.ρ.length
  · obtain ⟨o, f1, go, f2, a, b, c1, put⟩ := sr.er.at (List.getElem?_eq_getElem hi)
    have er := put F H (some v) (.c c) g (fun _ _ h => h) (fun _ _ _ h => h) (fun x hx => (sr.er.own x (by rw [b]; rcases List.mem_append.mp hx with z | z <;> simp [z])).1) (.c cr)
    rw [b] at nd
    refine ⟨_, ⟨sr.sub, er, sr.ior, nodup_put nd⟩, fun x hx => ?_⟩
    rw [b]
    simp only [List.mem_append] at hx ⊢
    grind
  · rw [List.set_eq_of_length_le (by omega), List.set_eq_of_length_le (by omega)]
    exact ⟨f, ⟨sr.sub, sr.er, sr.ior, sr.nd⟩, fun x hx => .inl hx⟩
theorem tgt_form {sc : Scope} {own : Option (List Nat)} {t : MT} {e : Expr} (h : tgt N sc own t e = true) : (∃ x p, e = .Name x p) ∨ ∃ es k p, e = .Tuple es k p := by
  cases t <;> cases e <;> first
    | exact .inl ⟨_, _, rfl⟩
    | exact .inr ⟨_, _, _, rfl⟩
    | (simp [tgt] at h; done)
theorem tgts_each {sc : Scope} {own : Option (List Nat)} {env : Env} : ∀ {ts : MTs} {es : List Expr}, tgts N sc own ts es = true → (assignEach es env).findIdx? (·.1) = none ∧ (assignEach es env).length = es.length
  | .nil, [], _ => ⟨rfl, rfl⟩
  | .nil, _ :: _, h => by simp [tgts] at h
  | .cons _ _, [], h => by simp [tgts] at h
  | .cons t ts, e :: es, h => by
    simp only [tgts, Bool.and_eq_true] at h
    obtain ⟨h1, h2⟩ := tgts_each (env := env) h.2
    rcases tgt_form h.1 with ⟨x, p, rfl⟩ | ⟨es', k, p, rfl⟩ <;>
    · show ((false, _) :: assignEach es env).findIdx? (·.1) = none ∧ ((false, _) :: assignEach es env).length = es.length + 1
      simp only [List.findIdx?_cons, h1, List.length_cons, h2]
      simp
theorem lc_name {sc : Scope} {x : Str} (h : lcB sc x = true) : sc.names.lookup x = some .local ∨ sc.names.lookup x = some .cell := by
  unfold lcB at h
  split at h <;> simp_all
mutual
theorem s_tgt (hN : X.N = N) (nd : N.Nodup) (hc : X.calm = true) {sc : Scope} {own : Option (List Nat)} (loc : ∀ x, lcB sc x = true → Loc X.env.scope x ∧ (X.fn x = true ∨ X.env.scope.names.lookup x = some .local)) :
    ∀ {t : MT} {e : Expr}, tgt N sc own t e = true → PG X e (tG X.K t)
  | .nm i, .Name x p, h => by
    simp only [tgt, Bool.and_eq_true, decide_eq_true_eq] at h
    obtain ⟨⟨⟨h1, h2⟩, h3⟩, _⟩ := h
    obtain ⟨hl, hf⟩ := loc x h2
    have base := pg_name (X := X) (i := i) (pos := p) (by rw [hN]; exact nd) (by rw [hN]; exact h1) hl hf
    refine ⟨fun pins s σ H v u Q I r ⟨F, S, p, l, f, d, ρ1, sr, rp, e, k⟩ => base.run pins s σ H v u Q I r ?_⟩
    simp only [bindT, Option.some.injEq] at e
    subst e
    obtain ⟨f1, sr1, sub⟩ := sr.put (i := i) (CR.im rp) (by simpa using sr.nd)
    exact k _ f1 sr1 (fun a ha => (sub a ha).elim id fun z => nomatch z) (fun j hj => by
      have : i ≠ j := fun z => hj (by simp [MT.sl, z])
      rw [List.getElem?_set_ne this]) (by simp)
  | .tp ts, .Tuple es n p, h => by
    have h' : tgts N sc own ts es = true := by simpa [tgt] using h
    have hs := s_tgts hN nd hc loc h'
    obtain ⟨e1, e2⟩ := tgts_each (env := X.env) h'
    refine ⟨fun pins s σ H v u Q I r ⟨F, S, p, l, f, d, ρ1, sr, rp, e, k⟩ => (pg_tup hc hs e2 e1).run pins s σ H v u Q I r ?_⟩
    cases d with
    | tup ds =>
      cases rp with
      | tup t1 t2 =>
        have e' : bindTs ts ds S.ρ = some ρ1 := by simpa [bindT] using e
        refine ⟨_, _, rfl, same_tup sr.sub t1, ?_, F, S, p, l, f, ds, ρ1, sr, t2, e', k⟩
        have : ∀ (ts : MTs) (es : List Expr) (ds : List D) (ρ ρ1 : List Sl), tgts N sc own ts es = true → bindTs ts ds ρ = some ρ1 → ds.length = es.length := by
          intro ts
          induction ts using MTs.rec (motive_1 := fun _ => True) with
          | nil =>
            intro es ds ρ ρ1 h1 h2
            cases es with
            | nil => cases ds with | nil => rfl | cons _ _ => simp [bindTs] at h2
            | cons _ _ => simp [tgts] at h1
          | cons t ts _ ih =>
            intro es ds ρ ρ1 h1 h2
            cases es with
            | nil => simp [tgts] at h1
            | cons e es =>
              cases ds with
              | nil => simp [bindTs] at h2
              | cons d ds =>
                simp only [tgts, Bool.and_eq_true] at h1
                simp only [bindTs, Option.bind_eq_some_iff] at h2
                obtain ⟨ρ2, _, h2⟩ := h2
                simp [ih es ds ρ2 ρ1 h1.2 h2]
          | nm _ => trivial
          | tp _ _ => trivial
        rw [t2.len]
        exact this ts es ds _ _ h' e'
    | _ => simp [bindT] at e
  | .nm _, .Tuple _ _ _, h => by simp [tgt] at h
  | .tp _, .Name _ _, h => by simp [tgt] at h
  | t, .BoolOp .., h => by cases t <;> simp [tgt] at h
  | t, .NamedExpr .., h => by cases t <;> simp [tgt] at h
  | t, .BinOp .., h => by cases t <;> simp [tgt] at h
  | t, .UnaryOp .., h => by cases t <;> simp [tgt] at h
  | t, .Lambda .., h => by cases t <;> simp [tgt] at h
  | t, .IfExp .., h => by cases t <;> simp [tgt] at h
  | t, .Dict .., h => by cases t <;> simp [tgt] at h
  | t, .Set .., h => by cases t <;> simp [tgt] at h
  | t, .ListComp .., h => by cases t <;> simp [tgt] at h
  | t, .SetComp .., h => by cases t <;> simp [tgt] at h
  | t, .DictComp .., h => by cases t <;> simp [tgt] at h
  | t, .GeneratorExp .., h => by cases t <;> simp [tgt] at h
  | t, .Await .., h => by cases t <;> simp [tgt] at h
  | t, .Yield .., h => by cases t <;> simp [tgt] at h
  | t, .YieldFrom .., h => by cases t <;> simp [tgt] at h
  | t, .Compare .., h => by cases t <;> simp [tgt] at h
  | t, .Call .., h => by cases t <;> simp [tgt] at h
  | t, .FormattedValue .., h => by cases t <;> simp [tgt] at h
  | t, .JoinedStr .., h => by cases t <;> simp [tgt] at h
  | t, .Constant .., h => by cases t <;> simp [tgt] at h
  | t, .Attribute .., h => by cases t <;> simp [tgt] at h
  | t, .Subscript .., h => by cases t <;> simp [tgt] at h
  | t, .Starred .., h => by cases t <;> simp [tgt] at h
  | t, .List .., h => by cases t <;> simp [tgt] at h
  | t, .Slice .., h => by cases t <;> simp [tgt] at h
theorem s_tgts (hN : X.N = N) (nd : N.Nodup) (hc : X.calm = true) {sc : Scope} {own : Option (List Nat)} (loc : ∀ x, lcB sc x = true → Loc X.env.scope x ∧ (X.fn x = true ∨ X.env.scope.names.lookup x = some .local)) :
    ∀ {ts : MTs} {es : List Expr}, tgts N sc own ts es = true → PGs X es (tGs X.K ts)
  | .nil, [], h => ⟨fun pins s σ H vs us Q I r ⟨F, S, p, l, f, ds, ρ1, sr, rp, e, k⟩ => pgs_nil.run pins s σ H vs us Q I r (by
      cases ds with
      | nil =>
        cases rp
        simp only [bindTs, Option.some.injEq] at e
        subst e
        exact ⟨rfl, k σ f sr (fun _ h => h) (fun _ _ => rfl) rfl⟩
      | cons _ _ => simp [bindTs] at e)⟩
  | .nil, _ :: _, h => by simp [tgts] at h
  | .cons _ _, [], h => by simp [tgts] at h
  | .cons t ts, e :: es, h => by
    simp only [tgts, Bool.and_eq_true] at h
    have h1 := s_tgt hN nd hc loc h.1
    have h2 := s_tgts hN nd hc loc h.2
    have hs : (assignEach (e :: es) X.env).map (·.2) = assign e X.env :: (assignEach es X.env).map (·.2) := by
      rcases tgt_form h.1 with ⟨x, p, rfl⟩ | ⟨es', k, p, rfl⟩ <;> rfl
    refine ⟨fun pins s σ H vs us Q I r ⟨F, S, p, l, f, ds, ρ1, sr, rp, e, k⟩ => (pgs_cons h1 h2 hs).run pins s σ H vs us Q I r ?_⟩
    cases ds with
    | nil => simp [bindTs] at e
    | cons d ds =>
      cases rp with
      | cons r1 r2 =>
        simp only [bindTs, Option.bind_eq_some_iff] at e
        obtain ⟨ρ2, e1, e2⟩ := e
        refine ⟨_, _, rfl, F, S, p, l, f, d, ρ2, sr, r1, e1, fun σ1 f1 sr1 sub1 out1 len1 => ⟨F, ⟨ρ2, S.io⟩, p, l, f1, ds, ρ1, sr1, r2, e2, fun σ2 f2 sr2 sub2 out2 len2 => ?_⟩⟩
        exact k σ2 f2 sr2 (fun a ha => sub1 a (sub2 a ha)) (fun i hi => by
          simp only [MTs.sl, List.mem_append, not_or] at hi
          rw [out2 i hi.2, out1 i hi.1]) (len2.trans len1)
end

/-! ### walked things -/
/-- a later state: what was lent is as it was -/
structure Lat (F H : Hp) (B : List Addr) (b : Bool) (F2 H2 : Hp) : Prop where
  ff : Same F F2
  sub : Same F2 H2
  kp : b = true → ∀ a ∈ B, ∀ o, H a = some o → H2 a = some o
structure WD (K : PySem.W.Frag) (J : It) (F H : Hp) (B : List Addr) (b : Bool) (ds : List D) : Prop where
  goes : ∀ F2 H2 i, Lat F H B b F2 H2 → i < ds.length → J.go i H2
  stops : ∀ F2 H2, Lat F H B b F2 H2 → J.stop ds.length H2
  yields : ∀ F2 H2 i x H3 d, Lat F H B b F2 H2 → ds[i]? = some d → J.yld i H2 x H3 → ∃ F3, Rp K F3 x d ∧ Stp F2 H2 F3 H3 [] ∧ Same F3 H3
def tI (K : PySem.W.Frag) (t : Sta → Option (Bool × List D × Sta)) (pu : Bool) : TI := fun σ H R => ∃ F S p l f, SR K F H σ S p l f ∧ ∃ b ds S', t S = some (b, ds, S') ∧
  ∀ J F' H' f', Go K σ p l F H S f pu F' H' σ S' f' [] → WD K J F' H' (l ++ f') b ds → R J H'
/-- a source of a walk: where its list stands -/
theorem src {r : R} {v : V} {ds : List D} {g0 : List Addr} (rr : RR K F H l f v r g) (sub : Same F H) (hg : ∀ a ∈ g, a ∈ g0) (hn : ∀ a ∈ g0, F a = none) (e : r.c.els = some ds) :
    ∃ a vs, v = .ref a ∧ RpA K (frzF F H g0) vs ds ∧ H a = some (.lst vs) ∧ ∀ F2 H2 b, (r.isBor = true → b = true) → Lat (frzF F H g0) H (l ++ f) b F2 H2 → SqL K H2 a vs := by
  have ff := frzF_same (H := H) hn
  cases r with
  | own c =>
    have cr : CR K F H v c g := rr
    obtain ⟨a, vs, rfl, h1, h2⟩ := cr.els sub e
    refine ⟨a, vs, rfl, h2.mono ff, h1, fun F2 H2 b _ lat => .inl (.inl (lat.sub _ _ (lat.ff _ _ ?_)))⟩
    cases cr with
    | im cr =>
      cases cr with
      | lst q1 q2 =>
        have := sub _ _ q1
        rw [h1] at this; cases this
        exact ff _ _ q1
      | _ => simp [R.c, Cell.els] at e
    | ow q1 q2 q3 =>
      rw [h1] at q2; cases q2
      unfold frzF
      rw [if_pos (hg _ (List.mem_cons_self ..))]
      exact h1
  | bor c =>
    obtain ⟨rfl, b0, cr, hb⟩ := rr
    obtain ⟨a, vs, rfl, h1, h2⟩ := cr.els sub e
    refine ⟨a, vs, rfl, h2.mono ff, h1, fun F2 H2 b hbb lat => .inl (.inl ?_)⟩
    cases cr with
    | im cr =>
      cases cr with
      | lst q1 q2 =>
        have := sub _ _ q1
        rw [h1] at this; cases this
        exact lat.sub _ _ (lat.ff _ _ (ff _ _ q1))
      | _ => simp [R.c, Cell.els] at e
    | ow q1 q2 q3 => exact lat.kp (hbb rfl) a (hb a (List.mem_cons_self ..)) _ h1
theorem WD.list {a : Addr} {vs : List V} {ds : List D} {B : List Addr} {b : Bool} (r : RpA K F vs ds) (h : ∀ F2 H2, Lat F H B b F2 H2 → SqL K H2 a vs) : WD K (Itl K a) F H B b ds where
  goes := fun F2 H2 i lat hi => walk_list.goes i H2 (by rw [r.len]; exact hi) (h F2 H2 lat)
  stops := fun F2 H2 lat => by have := (walk_list (K := K) (a := a) (xs := vs)).stops H2 (h F2 H2 lat); rw [r.len] at this; exact this
  yields := fun F2 H2 i x H3 d lat hd y => by
    have hi := (List.getElem?_eq_some_iff.mp hd).1
    obtain ⟨rfl, e⟩ := walk_list.yields i H2 x H3 (by rw [r.len]; exact hi) (h F2 H2 lat) y
    obtain ⟨v, e1, e2⟩ := r.get hd
    rw [e] at e1; cases e1
    exact ⟨F2, e2.mono lat.ff, .refl, lat.sub⟩
theorem WD.tup {a : Addr} {vs : List V} {ds : List D} {B : List Addr} {b : Bool} (r : RpA K F vs ds) (h : SqT K F a vs) : WD K (Itt K a) F H B b ds where
  goes := fun F2 H2 i lat hi => walk_tup.goes i H2 (by rw [r.len]; exact hi) (same_tup lat.sub (same_tup lat.ff h))
  stops := fun F2 H2 lat => by have := (walk_tup (K := K) (a := a) (xs := vs)).stops H2 (same_tup lat.sub (same_tup lat.ff h)); rw [r.len] at this; exact this
  yields := fun F2 H2 i x H3 d lat hd y => by
    have hi := (List.getElem?_eq_some_iff.mp hd).1
    obtain ⟨rfl, e⟩ := walk_tup.yields i H2 x H3 (by rw [r.len]; exact hi) (same_tup lat.sub (same_tup lat.ff h)) y
    obtain ⟨v, e1, e2⟩ := r.get hd
    rw [e] at e1; cases e1
    exact ⟨F2, e2.mono lat.ff, .refl, lat.sub⟩
theorem rngD_len (a b : Int) : (rngD a b).length = (b - a).toNat := by unfold rngD; simp
theorem WD.rng {lo hi : Int} {B : List Addr} {b : Bool} : WD K (Itr lo (hi - lo).toNat) F H B b (rngD lo hi) where
  goes := fun F2 H2 i lat hi => walk_range.goes i H2 (by rw [rngD_len] at hi; exact hi) trivial
  stops := fun F2 H2 lat => by rw [rngD_len]; exact (walk_range (lo := lo) (n := (hi - lo).toNat)).stops H2 trivial
  yields := fun F2 H2 i x H3 d lat hd y => by
    have hi := (List.getElem?_eq_some_iff.mp hd).1
    rw [rngD_len] at hi
    obtain ⟨rfl, rfl⟩ := walk_range.yields i H2 x H3 hi trivial y
    unfold rngD at hd
    rw [List.getElem?_map, List.getElem?_range hi] at hd
    cases hd
    exact ⟨F2, .int _, .refl, lat.sub⟩
theorem pairF {T : Addr} {x y : V} {dx dy : D} (lat : Same F2 H2) (hT : H2 T = none) (rx : Rp K F2 x dx) (ry : Rp K F2 y dy) :
    ∃ F3, Rp K F3 (.ref T) (.tup [dx, dy]) ∧ Stp F2 H2 F3 (upd H2 T (.tup [x, y])) [] ∧ Same F3 (upd H2 T (.tup [x, y])) := by
  have fq : F2 T = none := by
    cases e : F2 T with
    | none => rfl
    | some u => rw [lat _ _ e] at hT; cases hT
  have ff : Same F2 (upd F2 T (.tup [x, y])) := fun z o e => by rw [upd_ne (ne_of_none e fq)]; exact e
  refine ⟨upd F2 T (.tup [x, y]), .tup (.inl (.inl upd_same)) (.cons (rx.mono ff) (.cons (ry.mono ff) .nil)), ⟨ff, fun z u e _ => by rw [upd_ne (ne_of_none e hT)]; exact e, fun z u e h _ => by rw [upd_ne (ne_of_none e hT)]; exact h⟩, fun z o e => ?_⟩
  by_cases h : z = T
  · subst h; rw [upd_same] at e ⊢; exact e
  · rw [upd_ne h] at e ⊢; exact lat _ _ e
theorem enumD_get : ∀ (ds : List D) (k i : Nat), (enumD k ds)[i]? = (ds[i]?).map fun d => D.tup [.int ((k + i : Nat) : Int), d]
  | [], k, i => by simp [enumD]
  | d :: ds, k, 0 => by simp [enumD]
  | d :: ds, k, i + 1 => by simp [enumD, enumD_get ds (k + 1) i, Nat.add_assoc, Nat.add_comm 1 i]
theorem enumD_len : ∀ (ds : List D) (k : Nat), (enumD k ds).length = ds.length
  | [], _ => rfl
  | d :: ds, k => by simp [enumD, enumD_len ds (k + 1)]
theorem WD.enum {a : Addr} {vs : List V} {ds : List D} {B : List Addr} {b : Bool} (r : RpA K F vs ds) (h : ∀ F2 H2, Lat F H B b F2 H2 → SqL K H2 a vs) : WD K (Ite K a) F H B b (enumD 0 ds) where
  goes := fun F2 H2 i lat hi => walk_enum.goes i H2 (by rw [r.len]; rw [enumD_len] at hi; exact hi) (h F2 H2 lat)
  stops := fun F2 H2 lat => by rw [enumD_len, ← r.len]; exact (walk_enum (K := K) (a := a) (xs := vs)).stops H2 (h F2 H2 lat)
  yields := fun F2 H2 i x H3 d lat hd y => by
    have hi := (List.getElem?_eq_some_iff.mp hd).1
    rw [enumD_len] at hi
    obtain ⟨T, x1, y1, rfl, hT, rfl, e1, e2⟩ := walk_enum.yields i H2 x H3 (by rw [r.len]; exact hi) (h F2 H2 lat) y
    rw [enumD_get, Nat.zero_add] at hd
    simp only [Option.map_eq_some_iff] at hd
    obtain ⟨d0, hd, rfl⟩ := hd
    cases e1
    obtain ⟨v, e3, e4⟩ := r.get hd
    have e2 : vs[i]? = some y1 := e2
    rw [e2] at e3; cases e3
    exact pairF lat.sub hT (.int _) (e4.mono lat.ff)
theorem zipD_get : ∀ (xs ys : List D) (i : Nat), (zipD xs ys)[i]? = (xs[i]?).bind fun x => (ys[i]?).map fun y => D.tup [x, y]
  | [], ys, i => by simp [zipD]
  | x :: xs, [], i => by cases i <;> simp [zipD]
  | x :: xs, y :: ys, 0 => by simp [zipD]
  | x :: xs, y :: ys, i + 1 => by simp [zipD, zipD_get xs ys i]
theorem zipD_len : ∀ (xs ys : List D), (zipD xs ys).length = min xs.length ys.length
  | [], ys => by simp [zipD]
  | x :: xs, [] => by simp [zipD]
  | x :: xs, y :: ys => by simp [zipD, zipD_len xs ys]
theorem WD.zip {a a' : Addr} {vs us : List V} {ds es : List D} {B : List Addr} {b : Bool} (r : RpA K F vs ds) (r' : RpA K F us es) (h : ∀ F2 H2, Lat F H B b F2 H2 → SqL K H2 a vs ∧ SqL K H2 a' us) : WD K (Itz K a a') F H B b (zipD ds es) where
  goes := fun F2 H2 i lat hi => (walk_zip (n := (zipD ds es).length) (by rw [zipD_len, r.len, r'.len])).goes i H2 hi (h F2 H2 lat)
  stops := fun F2 H2 lat => (walk_zip (n := (zipD ds es).length) (by rw [zipD_len, r.len, r'.len])).stops H2 (h F2 H2 lat)
  yields := fun F2 H2 i x H3 d lat hd y => by
    have hi := (List.getElem?_eq_some_iff.mp hd).1
    obtain ⟨T, x1, y1, rfl, hT, rfl, e1, e2⟩ := (walk_zip (n := (zipD ds es).length) (by rw [zipD_len, r.len, r'.len])).yields i H2 x H3 hi (h F2 H2 lat) y
    rw [zipD_get] at hd
    simp only [Option.bind_eq_some_iff, Option.map_eq_some_iff] at hd
    obtain ⟨d1, hd1, d2, hd2, rfl⟩ := hd
    obtain ⟨v, e3, e4⟩ := r.get hd1
    obtain ⟨v', e5, e6⟩ := r'.get hd2
    have e1 : vs[i]? = some x1 := e1
    have e2 : us[i]? = some y1 := e2
    rw [e1] at e3; cases e3
    rw [e2] at e5; cases e5
    exact pairF lat.sub hT (e4.mono lat.ff) (e6.mono lat.ff)
variable {tg : Expr}
theorem i_ex {e : Expr} (ha : PE X e (tE X.K ta pa)) : PI X tg e (tI X.K (fun S => (ta S).bind fun p => p.1.its.map fun ds => (p.1.isBor, ds, p.2)) pa) := by
  refine ⟨fun pins s σ H R I ⟨F, S, p, l, f, sr, b, ds, S', e, k⟩ => ?_⟩
  simp only [Option.bind_eq_some_iff, Option.map_eq_some_iff] at e
  obtain ⟨⟨r, S1⟩, e1, ds', e2, e3⟩ := e
  cases e3
  have lst : r.c.els = some ds → wpAny (model X.prog X.w) X.A (eval _ X.env) (fun v s1 => wpAny (model X.prog X.w) X.A (pyIter v) (PIE X pins σ tg R) X.xe s1) X.xe s := fun he =>
    (pi_list ha).run pins s σ H R I ⟨F, S, p, l, f, sr, r, S1, e1, fun v F1 H1 f1 g go rr => by
      have own := rr.ownG
      obtain ⟨a, vs, rfl, rp, h1, lat⟩ := src rr go.sr.sub (fun _ z => z) (fun x hx => (own x hx).1) he
      exact ⟨a, rfl, ⟨vs, .inl (.inl h1)⟩, k _ _ _ _ (go.freeze fun x hx => (own x hx).1) (WD.list rp fun F2 H2 q => lat F2 H2 _ (fun z => z) q)⟩⟩
  cases hr : r with
  | bor c =>
    rw [hr] at e2
    cases c with
    | ow cs => exact lst (by rw [hr]; exact e2)
    | im d =>
      cases d with
      | lst es => exact lst (by rw [hr]; exact e2)
      | tup es =>
        refine (pi_tup ha).run pins s σ H R I ⟨F, S, p, l, f, sr, r, S1, e1, fun v F1 H1 f1 g go rr => ?_⟩
        rw [hr] at rr
        obtain ⟨rfl, b0, cr, hb⟩ := rr
        cases e2
        cases cr with
        | im cr => cases cr with
          | tup t1 t2 => exact ⟨_, rfl, ⟨_, same_tup go.sr.sub t1⟩, k _ _ _ _ go (WD.tup t2 t1)⟩
      | scr ns =>
        refine (pi_list ha).run pins s σ H R I ⟨F, S, p, l, f, sr, r, S1, e1, fun v F1 H1 f1 g go rr => ?_⟩
        rw [hr] at rr
        obtain ⟨rfl, b0, cr, hb⟩ := rr
        cases e2
        cases cr with
        | im cr => cases cr with
          | scr t1 => exact ⟨_, rfl, ⟨_, go.sr.sub.seq t1⟩, k _ _ _ _ go (WD.list (RpA.ofInts ns) fun F2 H2 q => q.sub.seq (q.ff.seq t1))⟩
      | _ => cases e2
  | own c =>
    rw [hr] at e2
    cases c with
    | ow cs =>
      cases e2
      refine (pi_list ha).run pins s σ H R I ⟨F, S, p, l, f, sr, r, S1, e1, fun v F1 H1 f1 g go rr => ?_⟩
      rw [hr] at rr
      have cr : CR X.K F1 H1 v (.ow cs) g := rr
      have own := CR.own cr
      cases cr with
      | @ow a vs _ fo i1 i2 i3 =>
      have gn : ∀ x ∈ a :: fo, F1 x = none := fun x hx => (own x hx).1
      have rp := CRs.rp gn i3 fun x hx => List.mem_cons_of_mem _ hx
      have fa : frzF F1 H1 (a :: fo) a = some (.lst vs) := by
        unfold frzF
        rw [if_pos (List.mem_cons_self ..)]
        exact i2
      exact ⟨a, rfl, ⟨vs, .inl (.inl i2)⟩, k _ _ _ _ (go.freeze gn) (WD.list rp fun F2 H2 q => .inl (.inl (q.sub _ _ (q.ff _ _ fa))))⟩
    | im d =>
      cases d with
      | lst es => exact lst (by rw [hr]; exact e2)
      | tup es =>
        refine (pi_tup ha).run pins s σ H R I ⟨F, S, p, l, f, sr, r, S1, e1, fun v F1 H1 f1 g go rr => ?_⟩
        rw [hr] at rr
        cases e2
        have cr : CR X.K F1 H1 v (.im (.tup _)) g := rr
        cases cr with
        | im cr => cases cr with
          | tup t1 t2 => exact ⟨_, rfl, ⟨_, same_tup go.sr.sub t1⟩, k _ _ _ _ go (WD.tup t2 t1)⟩
      | scr ns =>
        refine (pi_list ha).run pins s σ H R I ⟨F, S, p, l, f, sr, r, S1, e1, fun v F1 H1 f1 g go rr => ?_⟩
        rw [hr] at rr
        cases e2
        have cr : CR X.K F1 H1 v (.im (.scr ns)) g := rr
        cases cr with
        | im cr => cases cr with
          | scr t1 => exact ⟨_, rfl, ⟨_, go.sr.sub.seq t1⟩, k _ _ _ _ go (WD.list (RpA.ofInts ns) fun F2 H2 q => q.sub.seq (q.ff.seq t1))⟩
      | _ => cases e2
theorem rngOk_of {a b : Int} (h : rngOk a b = true) : -(2 ^ 62) ≤ a ∧ a < 2 ^ 62 ∧ -(2 ^ 62) ≤ b ∧ b < 2 ^ 62 := by unfold rngOk at h; exact of_decide_eq_true h
theorem i_rng1 (fx : Fx tx cf k N X) {x : Expr} {p pos : Pos} (hg : glB X.env.scope "range" = true) (pl : plE x = true) (ha : PE X x (tE X.K ta pa)) :
    PI X tg (.Call (.Name "range" p) [x] [] pos) (tI X.K (fun S => (ta S).bind fun p => match p.1 with
    | .own (.im (.int n)) => if rngOk 0 n then some (false, rngD 0 n, p.2) else none
    | _ => none) pa) := by
  refine ⟨fun pins s σ H R I ⟨F, S, p, l, f, sr, b, ds, S', e, k⟩ => (pi_range1 (gl_of hg) (fx.blt _ (by simp)) (pa_cons ha pa_nil (starEach_pl pl _ _)) (starEach_pl pl _ _)).run pins s σ H R I ?_⟩
  simp only [Option.bind_eq_some_iff] at e
  obtain ⟨⟨r, S1⟩, e1, e2⟩ := e
  refine ⟨F, S, p, l, f, sr, r, S1, e1, fun v F1 H1 f1 g go rr => ?_⟩
  dsimp only at e2
  split at e2
  · rename_i n
    split at e2
    · rename_i hz
      cases e2
      have hv : v = .int n := CR.int rr
      subst hv
      obtain ⟨_, _, h3, h4⟩ := rngOk_of hz
      refine ⟨n, rfl, h3, h4, k _ _ _ _ go.nil ?_⟩
      have := WD.rng (K := X.K) (F := F1) (H := H1) (lo := 0) (hi := n) (B := l ++ f1) (b := false)
      simpa using this
    · cases e2
  · cases e2
theorem i_rng2 (fx : Fx tx cf k N X) {x y : Expr} {p pos : Pos} (hg : glB X.env.scope "range" = true) (pl : plE x = true) (pl2 : plE y = true) (ha : PE X x (tE X.K ta pa)) (hb : PE X y (tE X.K tb pb)) :
    PI X tg (.Call (.Name "range" p) [x, y] [] pos) (tI X.K (fun S => (ta S).bind fun p => (tb p.2).bind fun q => match p.1, q.1 with
    | .own (.im (.int n)), .own (.im (.int m)) => if rngOk n m then some (false, rngD n m, q.2) else none
    | _, _ => none) (pa && pb)) := by
  refine ⟨fun pins s σ H R I ⟨F, S, p, l, f, sr, b, ds, S', e, k⟩ => (pi_range2 (gl_of hg) (fx.blt _ (by simp)) (pa_cons ha (pa_cons hb pa_nil (starEach_pl pl2 _ _)) (starEach_pl pl _ _)) (by rw [starEach_pl pl, starEach_pl pl2]; rfl) (by rw [starEach_pl pl2]; rfl)).run pins s σ H R I ?_⟩
  simp only [Option.bind_eq_some_iff] at e
  obtain ⟨⟨r, S1⟩, e1, ⟨r2, S2⟩, e2, e3⟩ := e
  refine ⟨F, S, p, l, f, sr, r, S1, e1, fun v F1 H1 f1 g go rr => ⟨F1, S1, p, l, f1, go.sr, r2, S2, e2, fun u F2 H2 f2 g2 go2 rr2 => ?_⟩⟩
  dsimp only at e3
  split at e3
  · rename_i n m
    split at e3
    · rename_i hz
      cases e3
      have hv : v = .int n := CR.int rr
      subst hv
      have hu : u = .int m := CR.int rr2
      subst hu
      obtain ⟨g3, _, _⟩ := go.nil.trans go2 fun _ z => nomatch z
      exact ⟨n, m, rfl, rngOk_of hz, k _ _ _ _ g3.nil WD.rng⟩
    · cases e3
  · cases e3
theorem i_enum (fx : Fx tx cf k N X) {x : Expr} {p pos : Pos} (hg : glB X.env.scope "enumerate" = true) (ht : isTupE tg = true) (pl : plE x = true) (ha : PE X x (tE X.K ta pa)) :
    PI X tg (.Call (.Name "enumerate" p) [x] [] pos) (tI X.K (fun S => (ta S).bind fun p => p.1.c.els.map fun ds => (p.1.isBor, enumD 0 ds, p.2)) pa) := by
  obtain ⟨es, n, tp, rfl⟩ : ∃ es n tp, tg = .Tuple es n tp := by cases tg <;> first | exact ⟨_, _, _, rfl⟩ | (simp [isTupE] at ht; done)
  refine ⟨fun pins s σ H R I ⟨F, S, p, l, f, sr, b, ds, S', e, k⟩ => (pi_enum (gl_of hg) (fx.blt _ (by simp)) (pa_cons ha pa_nil (starEach_pl pl _ _)) (starEach_pl pl _ _)).run pins s σ H R I ?_⟩
  simp only [Option.bind_eq_some_iff, Option.map_eq_some_iff] at e
  obtain ⟨⟨r, S1⟩, e1, ds', e2, e3⟩ := e
  cases e3
  refine ⟨F, S, p, l, f, sr, r, S1, e1, fun v F1 H1 f1 g go rr => ?_⟩
  have own := rr.ownG
  obtain ⟨a, vs, rfl, rp, h1, lat⟩ := src rr go.sr.sub (fun _ z => z) (fun x hx => (own x hx).1) e2
  exact ⟨a, vs, rfl, .inl (.inl h1), k _ _ _ _ (go.freeze fun x hx => (own x hx).1) (WD.enum rp fun F2 H2 q => lat F2 H2 _ (fun z => z) q)⟩
theorem i_zip (fx : Fx tx cf k N X) {x y : Expr} {p pos : Pos} (hg : glB X.env.scope "zip" = true) (ht : isTupE tg = true) (pl : plE x = true) (pl2 : plE y = true) (ha : PE X x (tE X.K ta pa)) (hb : PE X y (tE X.K tb pb)) :
    PI X tg (.Call (.Name "zip" p) [x, y] [] pos) (tI X.K (fun S => (ta S).bind fun p => (tb p.2).bind fun q =>
    if p.1.isBor && !pb then none else p.1.c.els.bind fun xs => q.1.c.els.map fun ys => (p.1.isBor || q.1.isBor, zipD xs ys, q.2)) (pa && pb)) := by
  obtain ⟨es, n, tp, rfl⟩ : ∃ es n tp, tg = .Tuple es n tp := by cases tg <;> first | exact ⟨_, _, _, rfl⟩ | (simp [isTupE] at ht; done)
  refine ⟨fun pins s σ H R I ⟨F, S, p, l, f, sr, b, ds, S', e, k⟩ => (pi_zip (gl_of hg) (fx.blt _ (by simp)) (pa_cons ha (pa_cons hb pa_nil (starEach_pl pl2 _ _)) (starEach_pl pl _ _)) (starEach_pl pl _ _) (by rw [starEach_pl pl2]; rfl)).run pins s σ H R I ?_⟩
  simp only [Option.bind_eq_some_iff] at e
  obtain ⟨⟨r, S1⟩, e1, ⟨r2, S2⟩, e2, e3⟩ := e
  refine ⟨F, S, p, l, f, sr, r, S1, e1, fun v F1 H1 f1 g go1 rr1 => ⟨F1, S1, p, l, f1, go1.sr, r2, S2, e2, fun u F2 H2 f2 g2 go2 rr2 => ?_⟩⟩
  split at e3
  · cases e3
  · rename_i hbor
    simp only [Option.bind_eq_some_iff, Option.map_eq_some_iff] at e3
    obtain ⟨xs, e4, ys, e5, e6⟩ := e3
    cases e6
    obtain ⟨go, st, dis⟩ := go1.trans go2 rr1.ownG
    have rr1' := rr1.held (f1 := f2) st dis fun hb' => by
      have : pb = true := by
        cases pb
        · simp [hb'] at hbor
        · rfl
      subst this
      exact ⟨rfl, (go2.pu rfl).2.1⟩
    have own : ∀ x ∈ g ++ g2, F2 x = none := fun x hx => by
      rcases List.mem_append.mp hx with z | z
      · exact (rr1'.ownG x z).1
      · exact (rr2.ownG x z).1
    obtain ⟨a, vs, rfl, rp, h1, lat⟩ := src rr1' go.sr.sub (fun _ z => List.mem_append_left _ z) own e4
    obtain ⟨a', us, rfl, rp', h1', lat'⟩ := src rr2 go.sr.sub (fun _ z => List.mem_append_right _ z) own e5
    refine ⟨a, a', vs, us, rfl, .inl (.inl h1), .inl (.inl h1'), k _ _ _ _ (go.freeze own) (WD.zip rp rp' fun F3 H3 q => ⟨lat F3 H3 _ (fun z => ?_) q, lat' F3 H3 _ (fun z => ?_) q⟩)⟩
    · show (_ || _) = true
      rw [z]; rfl
    · show (_ || _) = true
      rw [z, Bool.or_true]
end
end Mi
/-! Comprehensions. -/
namespace Mi
open PySem PySem.Spec L2
section
variable {X : Cx} {K : PySem.W.Frag} {F F' F1 F2 F3 H H' H1 H2 H3 : Hp} {σ : L2.St} {ta tb : Sta → Option (R × Sta)} {tc : Sta → Option (Bool × Sta)} {pa pb pc ps : Bool} {Q : VK} {l f g : List Addr}
variable {tx : Txt} {cf : CF} {k : Nat} {N : List Str}
theorem wipe_in {i : Nat} : ∀ {vs : List Nat}, i ∈ vs → i < σ.length → (wipe σ vs)[i]? = some none
  | [], h, _ => nomatch h
  | v :: vs, h, hi => by
    unfold wipe
    by_cases e : v = i
    · subst e; rw [List.getElem?_set_self (by rw [wipe_length]; exact hi)]
    · rw [List.getElem?_set_ne e]
      exact wipe_in (by rcases List.mem_cons.mp h with z | z; exact absurd z.symm e; exact z) hi
theorem wipeS_len (ρ : List Sl) : ∀ vs : List Nat, (wipeS ρ vs).length = ρ.length
  | [] => rfl
  | v :: vs => by unfold wipeS; rw [List.length_set, wipeS_len ρ vs]
theorem wipeS_in {ρ : List Sl} {i : Nat} : ∀ {vs : List Nat}, i ∈ vs → i < ρ.length → (wipeS ρ vs)[i]? = some .no
  | [], h, _ => nomatch h
  | v :: vs, h, hi => by
    unfold wipeS
    by_cases e : v = i
    · subst e; rw [List.getElem?_set_self (by rw [wipeS_len]; exact hi)]
    · rw [List.getElem?_set_ne e]
      exact wipeS_in (by rcases List.mem_cons.mp h with z | z; exact absurd z.symm e; exact z) hi
theorem wipeS_out {ρ : List Sl} {i : Nat} : ∀ {vs : List Nat}, i ∉ vs → (wipeS ρ vs)[i]? = ρ[i]?
  | [], _ => rfl
  | v :: vs, h => by
    unfold wipeS
    simp only [List.mem_cons, not_or] at h
    rw [List.getElem?_set_ne (fun z => h.1 z.symm)]
    exact wipeS_out h.2
theorem backS_len (ρ0 ρ : List Sl) : ∀ vs : List Nat, (backS ρ0 ρ vs).length = ρ.length
  | [] => rfl
  | v :: vs => by unfold backS; rw [List.length_set, backS_len ρ0 ρ vs]
theorem backS_in {ρ0 ρ : List Sl} {i : Nat} : ∀ {vs : List Nat}, i ∈ vs → i < ρ.length → (backS ρ0 ρ vs)[i]? = some (ρ0.getD i .no)
  | [], h, _ => nomatch h
  | v :: vs, h, hi => by
    unfold backS
    by_cases e : v = i
    · subst e; rw [List.getElem?_set_self (by rw [backS_len]; exact hi)]
    · rw [List.getElem?_set_ne e]
      exact backS_in (by rcases List.mem_cons.mp h with z | z; exact absurd z.symm e; exact z) hi
theorem backS_out {ρ0 ρ : List Sl} {i : Nat} : ∀ {vs : List Nat}, i ∉ vs → (backS ρ0 ρ vs)[i]? = ρ[i]?
  | [], _ => rfl
  | v :: vs, h => by
    unfold backS
    simp only [List.mem_cons, not_or] at h
    rw [List.getElem?_set_ne (fun z => h.1 z.symm)]
    exact backS_out h.2
theorem wipe_eq {σ1 : L2.St} {vs : List Nat} (h : ∀ i, i ∉ vs → σ1[i]? = σ[i]?) (hl : σ1.length = σ.length) : wipe σ1 vs = wipe σ vs := List.ext_getElem? fun i => by
  by_cases hi : i ∈ vs
  · by_cases hz : i < σ.length
    · rw [wipe_in hi hz, wipe_in hi (by omega)]
    · rw [List.getElem?_eq_none (by rw [wipe_length]; omega), List.getElem?_eq_none (by rw [wipe_length]; omega)]
  · rw [wipe_out hi, wipe_out hi, h i hi]
theorem wipeS_eq {ρ ρ1 : List Sl} {vs : List Nat} (h : ∀ i, i ∉ vs → ρ1[i]? = ρ[i]?) (hl : ρ1.length = ρ.length) : wipeS ρ1 vs = wipeS ρ vs := List.ext_getElem? fun i => by
  by_cases hi : i ∈ vs
  · by_cases hz : i < ρ.length
    · rw [wipeS_in hi hz, wipeS_in hi (by omega)]
    · rw [List.getElem?_eq_none (by rw [wipeS_len]; omega), List.getElem?_eq_none (by rw [wipeS_len]; omega)]
  · rw [wipeS_out hi, wipeS_out hi, h i hi]
theorem wipeS_twice {ρ : List Sl} {vs : List Nat} : wipeS (wipeS ρ vs) vs = wipeS ρ vs := wipeS_eq (fun i hi => wipeS_out hi) (wipeS_len ρ vs)
theorem wipe_twice {vs : List Nat} : wipe (wipe σ vs) vs = wipe σ vs := wipe_eq (fun i hi => wipe_out hi) (wipe_length σ vs)
mutual
theorem bindT_out : ∀ {t : MT} {d : D} {ρ ρ1 : List Sl}, bindT t d ρ = some ρ1 → (∀ i, i ∉ t.sl → ρ1[i]? = ρ[i]?) ∧ ρ1.length = ρ.length
  | .nm i, d, ρ, ρ1, h => by
    simp only [bindT, Option.some.injEq] at h
    subst h
    refine ⟨fun j hj => ?_, by simp⟩
    have : i ≠ j := fun z => hj (by simp [MT.sl, z])
    rw [List.getElem?_set_ne this]
  | .tp ts, .tup ds, ρ, ρ1, h => by
    simp only [bindT] at h
    simp only [MT.sl]
    exact bindTs_out h
  | .tp ts, .non, _, _, h => by simp [bindT] at h
  | .tp ts, .bl _, _, _, h => by simp [bindT] at h
  | .tp ts, .int _, _, _, h => by simp [bindT] at h
  | .tp ts, .str _, _, _, h => by simp [bindT] at h
  | .tp ts, .lst _, _, _, h => by simp [bindT] at h
  | .tp ts, .scr _, _, _, h => by simp [bindT] at h
theorem bindTs_out : ∀ {ts : MTs} {ds : List D} {ρ ρ1 : List Sl}, bindTs ts ds ρ = some ρ1 → (∀ i, i ∉ ts.sl → ρ1[i]? = ρ[i]?) ∧ ρ1.length = ρ.length
  | .nil, [], ρ, ρ1, h => by simp only [bindTs, Option.some.injEq] at h; subst h; exact ⟨fun _ _ => rfl, rfl⟩
  | .nil, _ :: _, _, _, h => by simp [bindTs] at h
  | .cons _ _, [], _, _, h => by simp [bindTs] at h
  | .cons t ts, d :: ds, ρ, ρ1, h => by
    simp only [bindTs, Option.bind_eq_some_iff] at h
    obtain ⟨ρ2, h1, h2⟩ := h
    obtain ⟨a1, b1⟩ := bindT_out h1
    obtain ⟨a2, b2⟩ := bindTs_out h2
    refine ⟨fun i hi => ?_, b2.trans b1⟩
    simp only [MTs.sl, List.mem_append, not_or] at hi
    rw [a2 i hi.2, a1 i hi.1]
end
mutual
theorem tgt_sl {sc : Scope} {vs : List Nat} : ∀ {t : MT} {e : Expr}, tgt N sc (some vs) t e = true → ∀ i ∈ t.sl, i ∈ vs
  | .nm j, .Name x p, h, i, hi => by
    simp only [tgt, Bool.and_eq_true, List.contains_eq_mem, decide_eq_true_eq] at h
    simp only [MT.sl, List.mem_cons, List.not_mem_nil, or_false] at hi
    rw [hi]; exact h.2
  | .tp ts, e, h, i, hi => by
    cases e <;> simp only [tgt] at h <;> first
      | exact tgts_sl h i (by simpa [MT.sl] using hi)
      | (simp at h; done)
  | .nm j, e, h, i, hi => by
    cases e <;> first
      | (simp only [tgt, Bool.and_eq_true, List.contains_eq_mem, decide_eq_true_eq] at h
         simp only [MT.sl, List.mem_cons, List.not_mem_nil, or_false] at hi
         rw [hi]; exact h.2)
      | (simp [tgt] at h; done)
theorem tgts_sl {sc : Scope} {vs : List Nat} : ∀ {ts : MTs} {es : List Expr}, tgts N sc (some vs) ts es = true → ∀ i ∈ ts.sl, i ∈ vs
  | .nil, _, _, i, hi => by simp [MTs.sl] at hi
  | .cons t ts, [], h, i, hi => by simp [tgts] at h
  | .cons t ts, e :: es, h, i, hi => by
    simp only [tgts, Bool.and_eq_true] at h
    simp only [MTs.sl, List.mem_append] at hi
    rcases hi with hi | hi
    · exact tgt_sl h.1 i hi
    · exact tgts_sl h.2 i hi
end
theorem SR.wipe {S : Sta} {p : Addr} (sr : SR K F H σ S p l f) : ∀ vs : List Nat, ∃ f', SR K F H (wipe σ vs) ⟨wipeS S.ρ vs, S.io⟩ p l f' ∧ f'.Sublist f
  | [] => ⟨f, ⟨sr.sub, sr.er, sr.ior, sr.nd⟩, List.Sublist.refl f⟩
  | v :: vs => by
    obtain ⟨f', s', sub⟩ := sr.wipe vs
    unfold wipeS L2.wipe
    have hlen : (L2.wipe σ vs).length = (wipeS S.ρ vs).length := s'.er.len
    by_cases hi : v < (wipeS S.ρ vs).length
    · obtain ⟨o, f1, go, f2, a, b, c1, put⟩ := s'.er.at (List.getElem?_eq_getElem hi)
      have er := put F H none .no [] (fun _ _ h => h) (fun _ _ _ h => h) (fun x hx => (s'.er.own x (by rw [b]; rcases List.mem_append.mp hx with z | z <;> simp [z])).1) .no
      have sb : (f1 ++ ([] ++ f2)).Sublist f' := by rw [b]; exact (List.Sublist.refl f1).append (by simp)
      exact ⟨_, ⟨s'.sub, er, s'.ior, s'.nd.sublist ((List.Sublist.refl l).append sb)⟩, sb.trans sub⟩
    · rw [List.set_eq_of_length_le (by omega), List.set_eq_of_length_le (by omega)]
      exact ⟨f', s', sub⟩
/-- the pointwise form of the slots -/
theorem er_iff {p : Addr} : ∀ {ρ : List Sl} {σ : L2.St} {f : List Addr}, ER K F H p σ ρ f ↔ σ.length = ρ.length ∧ ∃ fs : List (List Addr), fs.length = ρ.length ∧ f = fs.flatten ∧ ∀ (i : Nat) (o : Option V) (s : Sl) (g : List Addr), σ[i]? = some o → ρ[i]? = some s → fs[i]? = some g → SlR K F H p o s g
  | [], σ, f => by
    constructor
    · intro h; cases h; exact ⟨rfl, [], rfl, rfl, fun i o s g h => by simp at h⟩
    · rintro ⟨h1, fs, h2, rfl, _⟩
      have : σ = [] := by simpa using h1
      subst this
      have : fs = [] := by simpa using h2
      subst this
      exact .nil
  | s :: ρ, [], f => by
    constructor
    · intro h; cases h
    · rintro ⟨h1, _⟩; simp at h1
  | s :: ρ, o :: σ, f => by
    constructor
    · intro h
      cases h with
      | @cons _ _ _ _ f0 g0 h1 h2 =>
        obtain ⟨hl, fs, h3, rfl, h4⟩ := er_iff.mp h2
        refine ⟨by simp [hl], f0 :: fs, by simp [h3], by simp, fun i o s g a b c => ?_⟩
        cases i with
        | zero => simp at a b c; subst a b c; exact h1
        | succ i => exact h4 i o s g (by simpa using a) (by simpa using b) (by simpa using c)
    · rintro ⟨h1, fs, h2, rfl, h3⟩
      cases fs with
      | nil => simp at h2
      | cons f0 fs =>
        have e1 := h3 0 o s f0 rfl rfl rfl
        have e2 := er_iff.mpr ⟨by simpa using h1, fs, by simpa using h2, rfl, fun i o s g a b c => h3 (i + 1) o s g (by simpa using a) (by simpa using b) (by simpa using c)⟩
        simpa using ER.cons e1 e2
/-- the own slots come back -/
theorem er_back {p : Addr} {ρ0 ρ : List Sl} {vs : List Nat} {f0 : List Addr} (h0 : ER K F1 H1 p σ ρ0 f0) (ff : Same F1 F) (im : ∀ i ∈ vs, (ρ0.getD i .no).isIm = true) (h : ER K F H p (wipe σ vs) (wipeS ρ vs) f) : ER K F H p σ (backS ρ0 ρ vs) f := by
  obtain ⟨hl, fs, h1, h2, h3⟩ := er_iff.mp h
  obtain ⟨hl0, fs0, h10, h20, h30⟩ := er_iff.mp h0
  rw [wipe_length, wipeS_len] at hl
  rw [wipeS_len] at h1
  refine er_iff.mpr ⟨by rw [backS_len]; exact hl, fs, by rw [backS_len]; exact h1, h2, fun i o s g a b c => ?_⟩
  have hi : i < σ.length := (List.getElem?_eq_some_iff.mp a).1
  by_cases hv : i ∈ vs
  · have e1 := h3 i none .no g (wipe_in hv hi) (wipeS_in hv (by omega)) c
    cases e1
    rw [backS_in hv (by omega)] at b
    cases b
    have hi0 : i < ρ0.length := by omega
    have e2 : ρ0[i]? = some (ρ0.getD i .no) := by rw [List.getD_eq_getElem?_getD, List.getElem?_eq_getElem hi0]; rfl
    have hif : i < fs0.length := by omega
    have e3 := h30 i o _ _ a e2 (List.getElem?_eq_getElem hif)
    have e4 := im i hv
    generalize ρ0.getD i .no = z at e3 e4
    generalize fs0[i]'hif = g0 at e3
    cases z with
    | no => exact .no
    | c c =>
      cases c with
      | im d =>
        cases e3 with
        | c e3 => cases e3 with
          | im e3 => exact .c (.im (e3.mono ff))
      | ow _ => simp [Sl.isIm] at e4
    | io => simp [Sl.isIm] at e4
  · rw [backS_out hv] at b
    exact h3 i o s g (by rw [wipe_out hv]; exact a) (by rw [wipeS_out hv]; exact b) c

/-- one turn of a comprehension's loop, from a wiped state -/
theorem c_turn {vs : List Nat} {t : MT} {ρ2 : List Sl} {io2 : Option (List D)} {p : Addr} {fw : List Addr} {x : V} {d : D} {Z : Type} {acc : List Cell} {cont : Sta → List Cell → Option Z} {z : Z} {P1 : V → Hp → Prop} {P2 : Hp → Prop} (tin : ∀ i ∈ t.sl, i ∈ vs)
    (sr : SR K F2 H2 (wipe σ vs) ⟨wipeS ρ2 vs, io2⟩ p l fw) (rp : Rp K F3 x d) (st : Stp F2 H2 F3 H3 []) (sub : Same F3 H3)
    (e : ((bindT t d (wipeS ρ2 vs)).bind fun ρ1 => (tc ⟨ρ1, io2⟩).bind fun p => if p.1 then (ta p.2).bind fun q => match q.1 with
      | .own c => if acc.length < 16777216 then cont q.2 (acc ++ [c]) else none
      | .bor _ => none
    else cont p.2 acc) = some z)
    (k1 : ∀ F5 H5 S5 fw' gN y c, cont S5 (acc ++ [c]) = some z → acc.length < 16777216 → Go K (wipe σ vs) p l F2 H2 ⟨wipeS ρ2 vs, io2⟩ fw (pc && pa) F5 H5 (wipe σ vs) ⟨wipeS S5.ρ vs, S5.io⟩ fw' gN → CR K F5 H5 y c gN → P1 y H5)
    (k2 : ∀ F5 H5 S5 fw', cont S5 acc = some z → Go K (wipe σ vs) p l F2 H2 ⟨wipeS ρ2 vs, io2⟩ fw (pc && pa) F5 H5 (wipe σ vs) ⟨wipeS S5.ρ vs, S5.io⟩ fw' [] → P2 H5) :
    tG K t x (wipe σ vs) H3 fun σ2 H4 => wipe σ2 vs = wipe σ vs ∧ tT K tc pc σ2 H4 fun b H5 => if b = true then tE K ta pa σ2 H5 P1 else P2 H5 := by
  simp only [Option.bind_eq_some_iff] at e
  obtain ⟨ρ1, e1, ⟨b, S4⟩, e2, e3⟩ := e
  obtain ⟨bo1, bo2⟩ := bindT_out e1
  have sr3 := sr.step st sub
  refine ⟨F3, _, p, l, fw, d, ρ1, sr3, rp, e1, fun σ1 f1 sr1 sub1 out1 len1 => ?_⟩
  have hw : wipe σ1 vs = wipe σ vs := by
    rw [wipe_eq (fun i hi => out1 i fun z => hi (tin i z)) len1, wipe_twice]
  have hws : wipeS ρ1 vs = wipeS ρ2 vs := by
    rw [wipeS_eq (fun i hi => bo1 i fun z => hi (tin i z)) bo2, wipeS_twice]
  -- the whole turn as one step
  have wrap : ∀ {F5 H5 : Hp} {S5 : Sta} {f5 gN : List Addr}, Go K σ1 p l F3 H3 ⟨ρ1, io2⟩ f1 (pc && pa) F5 H5 σ1 S5 f5 gN → (∀ x ∈ gN, ∃ o, H5 x = some o) →
      ∃ fw', Go K (wipe σ vs) p l F2 H2 ⟨wipeS ρ2 vs, io2⟩ fw (pc && pa) F5 H5 (wipe σ vs) ⟨wipeS S5.ρ vs, S5.io⟩ fw' gN := by
    intro F5 H5 S5 f5 gN go own
    have stp : Stp F2 H2 F5 H5 (mus (pc && pa) l fw) := by
      refine (st.wide fun x hx => nomatch hx).trans go.st fun x hx => ?_
      unfold mus at hx ⊢
      split at hx
      · cases hx
      · rename_i hh
        rw [if_neg hh]
        rcases List.mem_append.mp hx with z | z
        · exact .inl (List.mem_append_left _ z)
        · exact .inl (List.mem_append_right _ (sub1 x z))
    have h23 : ∀ x, H3 x = none → H2 x = none := fun x hx => by
      cases e : H2 x with
      | none => rfl
      | some o => rw [st.same x o e] at hx; cases hx
    cases hp : (pc && pa) with
    | true =>
      rw [hp] at stp go
      have st0 : Stp F2 H2 F5 H5 [] := stp
      obtain ⟨q1, q2, q3⟩ := go.pu rfl
      subst q1 q2
      have srw := sr.step st0 go.sr.sub
      have hgn : ∀ x ∈ gN, H2 x = none := fun x hx => by
        rcases go.nw x (List.mem_append_right _ hx) with z | z
        · have nd := go.nd
          rw [List.nodup_append] at nd
          have nd2 := nd.2.1
          rw [List.nodup_append] at nd2
          exact absurd rfl (nd2.2.2 x z x hx)
        · exact h23 x z
      refine ⟨fw, stp, ?_, ?_, fun x hx => ?_, fun _ => ⟨by rw [hws], rfl, rfl⟩⟩
      · show SR K F5 H5 (wipe σ vs) ⟨wipeS ρ1 vs, io2⟩ p l fw
        rw [hws]; exact srw
      · rw [← List.append_assoc, List.nodup_append]
        have nd := go.nd
        rw [List.nodup_append] at nd
        have nd2 := nd.2.1
        rw [List.nodup_append] at nd2
        refine ⟨sr.nd, nd2.2.1, fun x hx y hy e => ?_⟩
        subst e
        have hn := hgn x hy
        rcases List.mem_append.mp hx with z | z
        · exact nd.2.2 x z x (List.mem_append_right _ hy) rfl
        · obtain ⟨_, us, e⟩ := sr.er.own x z
          rw [e] at hn; cases hn
      · rcases List.mem_append.mp hx with z | z
        · exact .inl z
        · exact .inr (hgn x z)
    | false =>
      rw [hp] at stp go
      obtain ⟨fw', srw, sb⟩ := go.sr.wipe vs
      rw [hw] at srw
      refine ⟨fw', stp, srw, go.nd.sublist ((List.Sublist.refl l).append (sb.append (List.Sublist.refl _))), fun x hx => ?_, fun h => by cases h⟩
      have : x ∈ f5 ++ gN := by
        rcases List.mem_append.mp hx with z | z
        · exact List.mem_append_left _ (sb.subset z)
        · exact List.mem_append_right _ z
      rcases go.nw x this with z | z
      · exact .inl (sub1 x z)
      · exact .inr (h23 x z)
  refine ⟨hw, F3, ⟨ρ1, io2⟩, p, l, f1, sr1, b, S4, e2, fun F4 H4 f4 go4 => ?_⟩
  cases b with
  | true =>
    rw [if_pos rfl] at e3 ⊢
    simp only [Option.bind_eq_some_iff] at e3
    obtain ⟨⟨r, S5⟩, e4, e5⟩ := e3
    refine ⟨F4, S4, p, l, f4, go4.sr, r, S5, e4, fun y F5 H5 f5 gN go5 rr => ?_⟩
    dsimp only at e5
    split at e5
    · rename_i c
      split at e5
      · rename_i hz
        obtain ⟨go, _, _⟩ := go4.trans go5 fun _ z => nomatch z
        rw [List.nil_append] at go
        obtain ⟨fw', gw⟩ := wrap go fun x hx => let ⟨_, vs, e⟩ := CR.own rr x hx; ⟨_, e⟩
        exact k1 F5 H5 S5 fw' gN y c e5 hz gw rr
      · cases e5
    · cases e5
  | false =>
    rw [if_neg (by simp)] at e3 ⊢
    obtain ⟨fw', gw⟩ := wrap go4.weak fun x hx => nomatch hx
    exact k2 F4 H4 S4 fw' e3 gw
end
end Mi
/-! The loops of comprehensions. -/
namespace Mi
open PySem PySem.Spec L2
/-- from a loop's start to a later turn: the list that grows at D -/
structure LS (K : PySem.W.Frag) (σ : L2.St) (p : Addr) (l : List Addr) (pu : Bool) (F H : Hp) (S : Sta) (f g : List Addr) (D : Addr) (F' H' : Hp) (S' : Sta) (f' g' : List Addr) (cs : List Cell) : Prop where
  st : Stp F H F' H' (mus pu l f ++ g)
  sr : SR K F' H' σ S' p l f'
  acc : CR K F' H' (.ref D) (.ow cs) g'
  nd : (l ++ (f' ++ g')).Nodup
  nw : ∀ a ∈ f' ++ g', a ∈ f ++ g ∨ H a = none
  pu : pu = true → S' = S ∧ f' = f
section
variable {X : Cx} {K : PySem.W.Frag} {F F' F1 F2 F3 F5 H H' H1 H2 H3 H5 : Hp} {σ : L2.St} {ta tb : Sta → Option (R × Sta)} {tc tc1 : Sta → Option (Bool × Sta)} {pa pb pc pc1 ps pi pu : Bool} {Q : VK} {l f f' f5 g g' : List Addr}
variable {tx : Txt} {cf : CF} {k : Nat} {N : List Str} {p D : Addr} {S S' S5 : Sta} {cs : List Cell}
theorem LS.refl (sr : SR K F H σ S p l f) (acc : CR K F H (.ref D) (.ow cs) g) (nd : (l ++ (f ++ g)).Nodup) : LS K σ p l pu F H S f g D F H S f g cs :=
  ⟨.refl, sr, acc, nd, fun _ h => .inl h, fun _ => ⟨rfl, rfl⟩⟩
theorem mus_sub {pu : Bool} {x : Addr} (h : x ∈ mus pu l f) : x ∈ l ++ f := by
  unfold mus at h
  split at h
  · cases h
  · exact h
/-- what is at l stands in H -/
theorem SR.lsome (sr : SR K F H σ S p l f) : ∀ x ∈ l ++ f, ∃ us, H x = some (.lst us) := fun x hx => by
  rcases List.mem_append.mp hx with z | z
  · have q := sr.ior
    unfold IoR at q
    split at q
    · subst q; cases z
    · obtain ⟨q1, q2, vs, q3, q4⟩ := q
      subst q1
      have : x = p := by simpa using z
      subst this
      exact ⟨_, q3⟩
  · exact (sr.er.own x z).2
/-- a turn without a new item -/
theorem LS.skip (a : LS K σ p l pu F H S f g D F' H' S' f' g' cs) (b : Go K σ p l F' H' S' f' pu F5 H5 σ S5 f5 []) : LS K σ p l pu F H S f g D F5 H5 S5 f5 g' cs := by
  have nd := a.nd
  have dis : ∀ x ∈ g', x ∉ l ++ f' := fun x hx z => by
    rw [← List.append_assoc, List.nodup_append] at nd
    exact nd.2.2 x z x hx rfl
  have acc5 := a.acc.held b.st fun x hx z => dis x hx (mus_sub z)
  have hn : ∀ x, H' x = none → x ∉ l → x ∉ f → x ∉ g → H x = none := fun x hx h1 h2 h3 => by
    cases e : H x with
    | none => rfl
    | some o => rw [a.st.keep x o e (fun z => by rcases List.mem_append.mp z with z | z; rcases List.mem_append.mp (mus_sub z) with z | z; exact h1 z; exact h2 z; exact h3 z)] at hx; cases hx
  refine ⟨a.st.trans b.st fun x hx => ?_, b.sr, acc5, ?_, fun x hx => ?_, fun h => ?_⟩
  · cases pu with
    | true => cases hx
    | false =>
      rcases List.mem_append.mp (mus_sub hx) with z | z
      · exact .inl (List.mem_append_left _ (by unfold mus; simp [z]))
      · rcases a.nw x (List.mem_append_left _ z) with q | q
        · rcases List.mem_append.mp q with q | q
          · exact .inl (List.mem_append_left _ (by unfold mus; simp [q]))
          · exact .inl (List.mem_append_right _ q)
        · exact .inr q
  · rw [← List.append_assoc, List.nodup_append]
    have n5 := b.sr.nd
    rw [List.nodup_append] at nd
    have ng := nd.2.1
    rw [List.nodup_append] at ng
    refine ⟨n5, ng.2.1, fun x hx y hy e => ?_⟩
    subst e
    rcases List.mem_append.mp hx with z | z
    · exact dis x hy (List.mem_append_left _ z)
    · rcases b.nw x (List.mem_append_left _ z) with q | q
      · exact dis x hy (List.mem_append_right _ q)
      · obtain ⟨_, us, e⟩ := a.acc.own x hy
        rw [e] at q; cases q
  · rcases List.mem_append.mp hx with z | z
    · rcases b.nw x (List.mem_append_left _ z) with q | q
      · exact a.nw x (List.mem_append_left _ q)
      · by_cases h2 : x ∈ f
        · exact .inl (List.mem_append_left _ h2)
        · by_cases h3 : x ∈ g
          · exact .inl (List.mem_append_right _ h3)
          · have h1 : x ∉ l := fun w => by
              have n5 := b.sr.nd
              rw [List.nodup_append] at n5
              exact n5.2.2 x w x z rfl
            exact .inr (hn x q h1 h2 h3)
    · exact a.nw x (List.mem_append_right _ z)
  · obtain ⟨h1, h2⟩ := a.pu h
    obtain ⟨k1, k2, _⟩ := b.pu h
    exact ⟨k1.trans h1, k2.trans h2⟩
/-- a turn with a new item -/
theorem LS.push {y : V} {c : Cell} {gN : List Addr} (a : LS K σ p l pu F H S f g D F' H' S' f' g' cs) (b : Go K σ p l F' H' S' f' pu F5 H5 σ S5 f5 gN) (cr : CR K F5 H5 y c gN) :
    ∃ us, H5 D = some (.lst us) ∧ us.length = cs.length ∧ LS K σ p l pu F H S f g D F5 (upd H5 D (.lst (us ++ [y]))) S5 f5 (g' ++ gN) (cs ++ [c]) := by
  have a5 := a.skip b.nil
  have nd5 := a5.nd
  have bnd := b.nd
  -- gN apart from g'
  have nd := a.nd
  have dis : ∀ x ∈ g', x ∉ l ++ f' := fun x hx z => by
    rw [← List.append_assoc, List.nodup_append] at nd
    exact nd.2.2 x z x hx rfl
  have gg : ∀ x ∈ gN, x ∉ g' := fun x hx z => by
    rcases b.nw x (List.mem_append_right _ hx) with q | q
    · exact dis x z (List.mem_append_right _ q)
    · obtain ⟨_, us, e⟩ := a.acc.own x z
      rw [e] at q; cases q
  have hacc := a5.acc
  cases hacc with
  | @ow _ us _ g0 q1 q2 q3 =>
    have n0 : D ∉ g0 := by
      simp only [List.nodup_append, List.nodup_cons] at nd5
      exact nd5.2.1.2.1.1
    have nN : D ∉ gN := fun z => gg D z (List.mem_cons_self ..)
    have nl : D ∉ l ++ f5 := fun z => by
      rw [← List.append_assoc, List.nodup_append] at nd5
      exact nd5.2.2 D z D (List.mem_cons_self ..) rfl
    have up : ∀ x o, x ≠ D → H5 x = some o → upd H5 D (.lst (us ++ [y])) x = some o := fun x o n h => by rw [upd_ne n]; exact h
    have r1 := CRs.mono (F' := F5) (H' := upd H5 D (.lst (us ++ [y]))) (fun _ _ h => h) q3 (fun x hx o h => up x o (fun z => n0 (z ▸ hx)) h) fun x hx => (CRs.own q3 x hx).1
    have r2 := CR.mono (F' := F5) (H' := upd H5 D (.lst (us ++ [y]))) (fun _ _ h => h) cr (fun x hx o h => up x o (fun z => nN (z ▸ hx)) h) fun x hx => (CR.own cr x hx).1
    have r3 := r1.app (.cons r2 .nil)
    rw [List.append_nil] at r3
    refine ⟨us, q2, q3.len, ⟨⟨a5.st.ff, fun x o e m => ?_, a5.st.nocap⟩, ⟨fun x o e => up x o (fun z => by subst z; rw [q1] at e; cases e) (b.sr.sub x o e), b.sr.er.mono (fun _ _ h => h) (fun x hx o h => up x o (fun z => nl (by rw [← z]; exact List.mem_append_right _ hx)) h) (fun x hx => (b.sr.er.own x hx).1),
      b.sr.ior.mono (fun _ _ h => h) (fun x hx o h => ⟨up x o (fun z => nl (by rw [← z]; exact List.mem_append_left _ hx)) h, fun n => n⟩), b.sr.nd⟩, ?_, ?_, fun x hx => ?_, a5.pu⟩⟩
    · have : x ≠ D := fun z => by
        subst z
        rcases a5.nw x (List.mem_append_right _ (List.mem_cons_self ..)) with q | q
        · rcases List.mem_append.mp q with q | q
          · cases pu with
            | false => exact m (List.mem_append_left _ (by unfold mus; simp [q]))
            | true =>
              have := (a5.pu rfl).2
              exact nl (List.mem_append_right _ (by rw [this]; exact q))
          · exact m (List.mem_append_right _ q)
        · rw [e] at q; cases q
      exact up x o this (a5.st.keep x o e m)
    · have := CR.ow (K := K) (F := F5) (H := upd H5 D (.lst (us ++ [y]))) q1 upd_same r3
      simpa using this
    · have b1 : ∀ x ∈ gN, x ∉ l ++ f5 := fun x hx z => by
        rw [← List.append_assoc, List.nodup_append] at bnd
        exact bnd.2.2 x z x hx rfl
      rw [← List.append_assoc, List.nodup_append] at nd5 bnd ⊢
      refine ⟨nd5.1, List.nodup_append.mpr ⟨nd5.2.1, bnd.2.1, fun x hx y hy e => gg y hy (by rw [← e]; exact hx)⟩, fun x hx y hy e => ?_⟩
      rcases List.mem_append.mp hy with z | z
      · exact nd5.2.2 x hx y z e
      · exact b1 y z (by rw [← e]; exact hx)
    · rcases List.mem_append.mp hx with z | z
      · exact a5.nw x (List.mem_append_left _ z)
      · rcases List.mem_append.mp z with z | z
        · exact a5.nw x (List.mem_append_right _ z)
        · rcases b.nw x (List.mem_append_right _ z) with q | q
          · exact a.nw x (List.mem_append_left _ q)
          · by_cases h2 : x ∈ f
            · exact .inl (List.mem_append_left _ h2)
            · by_cases h3 : x ∈ g
              · exact .inl (List.mem_append_right _ h3)
              · refine .inr ?_
                cases e : H x with
                | none => rfl
                | some o =>
                  rw [a.st.keep x o e (fun w => by
                    rcases List.mem_append.mp w with w | w
                    · rcases List.mem_append.mp (mus_sub w) with w | w
                      · rw [← List.append_assoc, List.nodup_append] at bnd
                        exact bnd.2.2 x (List.mem_append_left _ w) x z rfl
                      · exact h2 w
                    · exact h3 w)] at q
                  cases q
theorem compL_step {vs : List Nat} {t : MT} {d : Mi.D} {ds : List Mi.D} {S : Sta} {acc : List Cell} : compL vs t tc ta (d :: ds) S acc = ((bindT t d (wipeS S.ρ vs)).bind fun ρ1 => (tc ⟨ρ1, S.io⟩).bind fun p => if p.1 then (ta p.2).bind fun q => match q.1 with
      | .own c => if acc.length < 16777216 then compL vs t tc ta ds q.2 (acc ++ [c]) else none
      | .bor _ => none
    else compL vs t tc ta ds p.2 acc) := rfl
theorem drop_at {α : Type} {ds : List α} {i : Nat} (h : i < ds.length) : ds.drop i = ds[i] :: ds.drop (i + 1) := List.drop_eq_getElem_cons h
/-- the loop -/
theorem c_loop {J : It} {B : List Addr} {b : Bool} {ds : List Mi.D} (wd : WD K J F H B b ds) {vs : List Nat} {t : MT} (hB : b = true → (pc && pa) = true ∧ ∀ a ∈ B, a ∉ g) {csF : List Cell} {SF : Sta} {Qd : Hp → Prop} {fw : List Addr} (tin : ∀ i ∈ t.sl, i ∈ vs)
    (sr : SR K F H (wipe σ vs) ⟨wipeS S.ρ vs, S.io⟩ p l fw) (acc : CR K F H (.ref D) (.ow cs) g) (nd : (l ++ (fw ++ g)).Nodup) (e : compL vs t tc ta ds S cs = some (csF, SF))
    (hd : ∀ F' H' fw' g', LS K (wipe σ vs) p l (pc && pa) F H ⟨wipeS S.ρ vs, S.io⟩ fw g D F' H' ⟨wipeS SF.ρ vs, SF.io⟩ fw' g' csF → Qd H') :
    ∃ W : Nat → Nat → Hp → Prop, (∃ m, W 0 m H) ∧ ∀ i m H, W i m H → (J.stop i H ∧ Qd H) ∨ (J.go i H ∧ ∃ Nx : Hp → Prop, (∀ H', Nx H' → ∃ m', m' < m ∧ W (i + 1) m' H') ∧ ∀ x H', J.yld i H x H' →
      tG K t x (wipe σ vs) H' fun σ2 H2 => wipe σ2 vs = wipe σ vs ∧ tT K tc pc σ2 H2 fun b H3 => if b = true then tE K ta pa σ2 H3 fun y H4 => ∃ acc, H4 D = some (.lst acc) ∧ acc.length < sizeLine ∧ Nx (upd H4 D (.lst (acc ++ [y]))) else Nx H3) := by
  let Pv : Nat → Hp → Prop := fun i Hc => ∃ F' Si cs' fw' g', compL vs t tc ta (ds.drop i) Si cs' = some (csF, SF) ∧ LS K (wipe σ vs) p l (pc && pa) F H ⟨wipeS S.ρ vs, S.io⟩ fw g D F' Hc ⟨wipeS Si.ρ vs, Si.io⟩ fw' g' cs'
  have lat : ∀ F' Hc Sc fw' g' cs', LS K (wipe σ vs) p l (pc && pa) F H ⟨wipeS S.ρ vs, S.io⟩ fw g D F' Hc Sc fw' g' cs' → Lat F H B b F' Hc := fun F' Hc Sc fw' g' cs' ls => ⟨ls.st.ff, ls.sr.sub, fun hb a ha o h => ls.st.keep a o h fun z => by
    obtain ⟨h1, h2⟩ := hB hb
    rw [h1] at z
    exact h2 a ha (by simpa [mus] using z)⟩
  refine ⟨fun i m Hc => m = ds.length - i ∧ i ≤ ds.length ∧ Pv i Hc, ⟨ds.length, by simp, Nat.zero_le _, F, S, cs, fw, g, e, LS.refl sr acc nd⟩, ?_⟩
  rintro i m Hc ⟨rfl, hi, F', Si, cs', fw', g', e', ls⟩
  have lt := lat _ _ _ _ _ _ ls
  by_cases hlt : i < ds.length
  · refine .inr ⟨wd.goes F' Hc i lt hlt, Pv (i + 1), fun H'' pv => ⟨ds.length - (i + 1), by omega, rfl, hlt, pv⟩, fun x H'' y => ?_⟩
    obtain ⟨F3, rp, st, sub⟩ := wd.yields F' Hc i x H'' _ lt (List.getElem?_eq_getElem hlt) y
    rw [drop_at hlt, compL_step] at e'
    refine c_turn tin ls.sr rp st sub e' (fun F5 H5 S5 fw5 gN y c e5 hz go cr => ?_) fun F5 H5 S5 fw5 e5 go => ⟨F5, S5, cs', fw5, g', e5, ls.skip go⟩
    obtain ⟨us, h1, h2, ls5⟩ := ls.push go cr
    exact ⟨us, h1, by rw [h2, sizeLine_eq]; exact hz, F5, S5, cs' ++ [c], fw5, g' ++ gN, e5, ls5⟩
  · have : i = ds.length := by omega
    subst this
    rw [List.drop_length] at e'
    have e' : some (cs', Si) = some (csF, SF) := e'
    cases e'
    exact .inl ⟨wd.stops F' Hc lt, hd F' Hc fw' g' ls⟩
/-- the end of a comprehension: the own slots are back -/
theorem c_end {vs : List Nat} {SF : Sta} {fw fw' : List Addr} {H1 : Hp} (sr : SR K F H1 σ S p l f) (hD : H1 D = none) (hH : H = upd H1 D (.lst [])) (sw : fw.Sublist f) (im : ∀ i ∈ vs, (S.ρ.getD i .no).isIm = true)
    (ls : LS K (wipe σ vs) p l pu F H ⟨wipeS S.ρ vs, S.io⟩ fw [D] D F' H' ⟨wipeS SF.ρ vs, SF.io⟩ fw' g' cs) (hio : pu = true → backS S.ρ SF.ρ vs = S.ρ) :
    ∃ f', Go K σ p l F H1 S f pu F' H' σ ⟨backS S.ρ SF.ρ vs, SF.io⟩ f' g' ∧ CR K F' H' (.ref D) (.ow cs) g' := by
  have hup : ∀ x o, H1 x = some o → H x = some o := fun x o e => by rw [hH, upd_ne (ne_of_none e hD)]; exact e
  have fD : F D = none := by
    cases e : F D with
    | none => rfl
    | some o => rw [sr.sub _ _ e] at hD; cases hD
  have st : Stp F H1 F' H' (mus pu l f) := by
    refine ⟨ls.st.ff, fun x o e m => ls.st.keep x o (hup x o e) fun z => ?_, fun x o e h m => ls.st.nocap x o (hup x o e) h fun z => ?_⟩ <;>
    · rcases List.mem_append.mp z with z | z
      · cases pu with
        | true => cases z
        | false =>
          refine m ?_
          unfold mus at z ⊢
          rw [if_neg (by simp)] at z ⊢
          rcases List.mem_append.mp z with z | z
          · exact List.mem_append_left _ z
          · exact List.mem_append_right _ (sw.subset z)
      · have : x = D := by simpa using z
        subst this
        rw [e] at hD; cases hD
  have hnD : ∀ x, H x = none → H1 x = none := fun x hx => by
    cases e : H1 x with
    | none => rfl
    | some o => rw [hup x o e] at hx; cases hx
  cases hp : pu with
  | true =>
    rw [hp] at st
    have st0 : Stp F H1 F' H' [] := st
    have h1 := ls.pu hp
    have e1 := hio hp
    have e2 : SF.io = S.io := by
      have := congrArg Sta.io h1.1
      exact this
    have srf := sr.step st0 ls.sr.sub
    refine ⟨f, ⟨st, ?_, ?_, fun x hx => ?_, fun _ => ⟨by rw [e1, e2], rfl, rfl⟩⟩, ls.acc⟩
    · rw [e1, e2]; exact srf
    · have nd := ls.nd
      rw [h1.2] at nd
      rw [← List.append_assoc, List.nodup_append] at nd ⊢
      refine ⟨sr.nd, nd.2.1, fun x hx y hy e => ?_⟩
      subst e
      obtain ⟨us, e⟩ := sr.lsome x hx
      rcases ls.nw x (List.mem_append_right _ hy) with q | q
      · rcases List.mem_append.mp q with q | q
        · exact nd.2.2 x (List.mem_append_right _ q) x hy rfl
        · have : x = D := by simpa using q
          subst this
          rw [hD] at e; cases e
      · rw [hup x _ e] at q; cases q
    · rcases List.mem_append.mp hx with z | z
      · exact .inl z
      · rcases ls.nw x (List.mem_append_right _ z) with q | q
        · rcases List.mem_append.mp q with q | q
          · exact .inl (sw.subset q)
          · have : x = D := by simpa using q
            subst this
            exact .inr hD
        · exact .inr (hnD x q)
  | false =>
    rw [hp] at st
    have er := er_back sr.er ls.st.ff im ls.sr.er
    refine ⟨fw', ⟨st, ⟨ls.sr.sub, er, ls.sr.ior, ls.sr.nd⟩, ls.nd, fun x hx => ?_, fun h => by cases h⟩, ls.acc⟩
    rcases ls.nw x hx with q | q
    · rcases List.mem_append.mp q with q | q
      · exact .inl (sw.subset q)
      · have : x = D := by simpa using q
        subst this
        exact .inr hD
    · exact .inr (hnD x q)
theorem back_of_wipe {ρ ρF : List Sl} {vs : List Nat} (h : wipeS ρF vs = wipeS ρ vs) : backS ρ ρF vs = ρ := List.ext_getElem? fun i => by
  have hl : ρF.length = ρ.length := by
    have := congrArg List.length h
    rw [wipeS_len, wipeS_len] at this
    exact this
  by_cases hi : i ∈ vs
  · by_cases hz : i < ρ.length
    · rw [backS_in hi (by omega), List.getD_eq_getElem?_getD, List.getElem?_eq_getElem hz]; rfl
    · rw [List.getElem?_eq_none (by rw [backS_len]; omega), List.getElem?_eq_none (by omega)]
  · rw [backS_out hi]
    have := congrArg (·[i]?) h
    simpa [wipeS_out hi] using this
theorem k_comp {own : List (Str × Nat)} {t : MT} {ti : Sta → Option (Bool × List Mi.D × Sta)} (tin : ∀ i ∈ t.sl, i ∈ own.map (·.2)) (h : tE X.K (fun S => (ti S).bind fun p =>
      if (p.1 && !(pa && pc)) || !(own.all fun q => (p.2.2.ρ.getD q.2 .no).isIm) then none else
      (compL (own.map (·.2)) t tc ta p.2.1 p.2.2 []).map fun q => (.own (.ow q.1), ⟨backS p.2.2.ρ q.2.ρ (own.map (·.2)), q.2.io⟩)) (pa && pi && pc) σ H Q) :
    tLc (tI X.K ti pi) (tG X.K t) (tT X.K tc pc) (tE X.K ta pa) (own.map (·.2)) σ H Q := by
  obtain ⟨F, S, p, l, f, sr, r, S', e, k⟩ := h
  simp only [Option.bind_eq_some_iff] at e
  obtain ⟨⟨b, ds, S1⟩, e1, e2⟩ := e
  split at e2
  · cases e2
  rename_i hcond
  simp only [Bool.or_eq_true, Bool.and_eq_true, Bool.not_eq_true', not_or, not_and, Bool.not_eq_false] at hcond
  obtain ⟨hb, him⟩ := hcond
  simp only [Option.map_eq_some_iff] at e2
  obtain ⟨⟨cs, SF⟩, e3, e4⟩ := e2
  cases e4
  refine ⟨F, S, p, l, f, sr, b, ds, S1, e1, fun J F1 H1 f1 go wd D hD => ?_⟩
  obtain ⟨fw, srw, sw⟩ := go.sr.wipe (own.map (·.2))
  obtain ⟨gD, fD, stD⟩ := go.newH (o := .lst []) hD fun _ z => nomatch z
  have srw2 := srw.step stD gD.sr.sub
  have acc : CR X.K F1 (upd H1 D (.lst [])) (.ref D) (.ow []) [D] := .ow fD upd_same .nil
  have nD : D ∉ l ++ f1 := fun z => by
    obtain ⟨us, e⟩ := go.sr.lsome D z
    rw [hD] at e; cases e
  have ndw : (l ++ (fw ++ [D])).Nodup := by
    rw [← List.append_assoc, List.nodup_append]
    refine ⟨srw.nd, by simp, fun x hx y hy e => ?_⟩
    have : y = D := by simpa using hy
    subst this e
    exact nD (by rcases List.mem_append.mp hx with z | z; exact List.mem_append_left _ z; exact List.mem_append_right _ (sw.subset z))
  have wd2 : WD X.K J F1 (upd H1 D (.lst [])) (l ++ f1) b ds := by
    have sh : ∀ F2 H2, Lat F1 (upd H1 D (.lst [])) (l ++ f1) b F2 H2 → Lat F1 H1 (l ++ f1) b F2 H2 := fun F2 H2 q => ⟨q.ff, q.sub, fun hb a ha o h => q.kp hb a ha o (by rw [upd_ne (ne_of_none h hD)]; exact h)⟩
    exact ⟨fun F2 H2 i q => wd.goes F2 H2 i (sh F2 H2 q), fun F2 H2 q => wd.stops F2 H2 (sh F2 H2 q), fun F2 H2 i x H3 d q => wd.yields F2 H2 i x H3 d (sh F2 H2 q)⟩
  refine c_loop (pc := pc) (pa := pa) wd2 (fun hb' => ⟨by
      have := hb hb'
      rw [Bool.and_comm]; simpa using this, fun a ha z => ?_⟩) tin srw2 acc ndw e3 fun F' H' fw' g' ls => ?_
  · have : a = D := by simpa using z
    subst this
    exact nD ha
  · have him' : ∀ i ∈ own.map (·.2), (S1.ρ.getD i .no).isIm = true := fun i hi => by
      simp only [List.mem_map] at hi
      obtain ⟨q, hq, rfl⟩ := hi
      exact List.all_eq_true.mp him q hq
    obtain ⟨f', goE, cr⟩ := c_end (pu := (pc && pa)) go.sr hD rfl sw him' ls (fun hp => back_of_wipe (congrArg Sta.ρ (ls.pu hp).1))
    obtain ⟨g3, _, _⟩ := go.trans goE fun _ z => nomatch z
    rw [List.nil_append] at g3
    refine k _ _ _ f' g' ?_ cr
    have : (pi && (pc && pa)) = (pa && pi && pc) := by cases pi <;> cases pc <;> cases pa <;> rfl
    rw [← this]
    exact g3
/-- [elt for t in it if c] -/
theorem s_comp {elt tg iter : Expr} {ifs : List Expr} {scope : Scope} {own : List (Str × Nat)} {pos : Pos} {t : MT} {ti : Sta → Option (Bool × List Mi.D × Sta)} (hc : X.calm = true) (hN : X.N.Nodup) (hi : PI X tg iter (tI X.K ti pi)) (ok : BlkOk X.N X.env.scope scope own)
    (hg : ∀ (s : Shared) (H : Hp) (C : Addr) (cl : List (Str × Addr)) (fp : List Addr), PG (X.blk s H scope (compEnvC scope cl C X.env) fp) tg (tG X.K t)) (ht : ∀ (s : Shared) (H : Hp) (C : Addr) (cl : List (Str × Addr)) (fp : List Addr), PTs (X.blk s H scope (compEnvC scope cl C X.env) fp) ifs (tT X.K tc pc))
    (he : ∀ (s : Shared) (H : Hp) (C : Addr) (cl : List (Str × Addr)) (fp : List Addr), PE (X.blk s H scope (compEnvC scope cl C X.env) fp) elt (tE X.K ta pa)) (tin : ∀ i ∈ t.sl, i ∈ own.map (·.2)) (pl : plE iter = true) :
    PE X (.ListComp elt [⟨tg, iter, ifs, 0⟩] scope pos) (tE X.K (fun S => (ti S).bind fun p =>
      if (p.1 && !(pa && pc)) || !(own.all fun q => (p.2.2.ρ.getD q.2 .no).isIm) then none else
      (compL (own.map (·.2)) t tc ta p.2.1 p.2.2 []).map fun q => (.own (.ow q.1), ⟨backS p.2.2.ρ q.2.ρ (own.map (·.2)), q.2.io⟩)) (pa && pi && pc)) :=
  (pe_lc hc hN hi ok hg ht he fun x => folded_pl pl _ x).imp fun σ H Q h => k_comp tin h
end
end Mi
/-! Comprehensions with two clauses. -/
namespace Mi
open PySem PySem.Spec L2
section
variable {X : Cx} {K : PySem.W.Frag} {F F' F1 F2 F3 F5 H H' H1 H2 H3 H5 : Hp} {σ : L2.St} {ta tb : Sta → Option (R × Sta)} {tc tc1 : Sta → Option (Bool × Sta)} {pa pb pc pc1 ps pi pi1 pu : Bool} {Q : VK} {l f f' f5 f1 f2 g g' g1 g2 : List Addr}
variable {tx : Txt} {cf : CF} {k : Nat} {N : List Str} {p dd : Addr} {S S' S5 S1 S2 : Sta} {cs cs1 cs2 : List Cell}
theorem LS.trans (a : LS K σ p l pu F H S f g dd F1 H1 S1 f1 g1 cs1) (b : LS K σ p l pu F1 H1 S1 f1 g1 dd F2 H2 S2 f2 g2 cs2) : LS K σ p l pu F H S f g dd F2 H2 S2 f2 g2 cs2 := by
  refine ⟨a.st.trans b.st fun x hx => ?_, b.sr, b.acc, b.nd, fun x hx => ?_, fun h => ?_⟩
  · rcases List.mem_append.mp hx with z | z
    · cases pu with
      | true => cases z
      | false =>
        rcases List.mem_append.mp (mus_sub z) with z | z
        · exact .inl (List.mem_append_left _ (by unfold mus; simp [z]))
        · rcases a.nw x (List.mem_append_left _ z) with q | q
          · rcases List.mem_append.mp q with q | q
            · exact .inl (List.mem_append_left _ (by unfold mus; simp [q]))
            · exact .inl (List.mem_append_right _ q)
          · exact .inr q
    · rcases a.nw x (List.mem_append_right _ z) with q | q
      · rcases List.mem_append.mp q with q | q
        · cases hp : pu with
          | false => exact .inl (List.mem_append_left _ (by unfold mus; simp [q]))
          | true =>
            have h1 := (a.pu hp).2
            have nd := a.nd
            rw [h1, ← List.append_assoc, List.nodup_append] at nd
            exact absurd rfl (nd.2.2 x (List.mem_append_right _ q) x z)
        · exact .inl (List.mem_append_right _ q)
      · exact .inr q
  · rcases b.nw x hx with q | q
    · exact a.nw x q
    · by_cases h1 : x ∈ f ++ g
      · exact .inl h1
      · refine .inr ?_
        cases e : H x with
        | none => rfl
        | some o =>
          rw [a.st.keep x o e (fun w => by
            rcases List.mem_append.mp w with w | w
            · rcases List.mem_append.mp (mus_sub w) with w | w
              · have n := b.nd
                rw [List.nodup_append] at n
                exact n.2.2 x w x hx rfl
              · exact h1 (List.mem_append_left _ w)
            · exact h1 (List.mem_append_right _ w))] at q
          cases q
  · obtain ⟨h1, h2⟩ := a.pu h
    obtain ⟨k1, k2⟩ := b.pu h
    exact ⟨k1.trans h1, k2.trans h2⟩
/-- from a turn's wiped state through the target, the test, the inner source and the inner loop -/
theorem LS.mid {vs vs1 : List Nat} {ρ2 : List Sl} {io2 : Option (List Mi.D)} {σ2 : L2.St} {ρ1 : List Sl} {fw f3 fw1 fw6 g6 : List Addr} {F6 H6 : Hp} {S6 : Sta} {csI : List Cell} {pu1 : Bool} (hpu : pu = true → pu1 = true) (hv : ∀ i ∈ vs1, i ∈ vs)
    (sr : SR K F H (wipe σ vs) ⟨wipeS ρ2 vs, io2⟩ p l fw) (acc : CR K F H (.ref dd) (.ow cs) g) (nd : (l ++ (fw ++ g)).Nodup) (hw : wipe σ2 vs = wipe σ vs) (hws : wipeS ρ1 vs = wipeS ρ2 vs)
    (st : Stp F H F3 H3 []) (sub1 : ∀ x ∈ f3, x ∈ fw) (go : Go K σ2 p l F3 H3 ⟨ρ1, io2⟩ f3 pu F5 H5 σ2 S5 f5 []) (sw : fw1.Sublist f5)
    (ls : LS K (wipe σ2 vs1) p l pu1 F5 H5 ⟨wipeS S5.ρ vs1, S5.io⟩ fw1 g dd F6 H6 ⟨wipeS S6.ρ vs1, S6.io⟩ fw6 g6 csI) :
    ∃ f6, LS K (wipe σ vs) p l pu F H ⟨wipeS ρ2 vs, io2⟩ fw g dd F6 H6 ⟨wipeS S6.ρ vs, S6.io⟩ f6 g6 csI := by
  have h3n : ∀ x, H3 x = none → H x = none := fun x hx => by
    cases e : H x with
    | none => rfl
    | some o => rw [st.same x o e] at hx; cases hx
  have st5 : Stp F H F5 H5 (mus pu l fw) := by
    refine (st.wide fun x hx => nomatch hx).trans go.st fun x hx => ?_
    unfold mus at hx ⊢
    split at hx
    · cases hx
    · rename_i hh
      rw [if_neg hh]
      rcases List.mem_append.mp hx with z | z
      · exact .inl (List.mem_append_left _ z)
      · exact .inl (List.mem_append_right _ (sub1 x z))
  have f5n : ∀ x ∈ f5, x ∈ fw ∨ H x = none := fun x hx => by
    rcases go.nw x (List.mem_append_left _ hx) with z | z
    · exact .inl (sub1 x z)
    · exact .inr (h3n x z)
  have dis : ∀ x ∈ g, x ∉ l ++ fw := fun x hx z => by
    rw [← List.append_assoc, List.nodup_append] at nd
    exact nd.2.2 x z x hx rfl
  have h5n : ∀ x, H5 x = none → x ∉ l ++ fw → H x = none := fun x hx m => by
    cases e : H x with
    | none => rfl
    | some o => rw [st5.keep x o e fun z => m (mus_sub z)] at hx; cases hx
  have stT : Stp F H F6 H6 (mus pu l fw ++ g) := by
    refine (st5.wide fun x hx => List.mem_append_left _ hx).trans ls.st fun x hx => ?_
    rcases List.mem_append.mp hx with z | z
    · cases hp : pu with
      | true => rw [hpu hp] at z; cases z
      | false =>
        rcases List.mem_append.mp (mus_sub z) with z | z
        · exact .inl (List.mem_append_left _ (by unfold mus; simp [z]))
        · rcases f5n x (sw.subset z) with q | q
          · exact .inl (List.mem_append_left _ (by unfold mus; simp [q]))
          · exact .inr q
    · exact .inl (List.mem_append_right _ z)
  cases hp : pu with
  | true =>
    rw [hp] at stT go st5
    obtain ⟨q1, q2, _⟩ := go.pu rfl
    subst q1 q2
    obtain ⟨k1, k2⟩ := ls.pu (hpu hp)
    subst k2
    have ek : wipeS S6.ρ vs1 = wipeS ρ1 vs1 := congrArg Sta.ρ k1
    have eio : S6.io = io2 := by
      have := congrArg Sta.io k1
      exact this
    have eρ : wipeS S6.ρ vs = wipeS ρ2 vs := by
      rw [← hws]
      have hl : S6.ρ.length = ρ1.length := by
        have := congrArg List.length ek
        rw [wipeS_len, wipeS_len] at this
        exact this
      refine wipeS_eq (fun i hi => ?_) hl
      have h1 : i ∉ vs1 := fun z => hi (hv i z)
      have := congrArg (·[i]?) ek
      simpa [wipeS_out h1] using this
    have e : (⟨wipeS S6.ρ vs, S6.io⟩ : Sta) = ⟨wipeS ρ2 vs, io2⟩ := by rw [eρ, eio]
    -- the slots stand as they stood: what they own is apart from g
    have kp : ∀ x ∈ l ++ fw, ∀ o, H x = some o → H6 x = some o := fun x hx o h => stT.keep x o h fun z => by
      rcases List.mem_append.mp z with z | z
      · cases z
      · exact dis x z hx
    have nc : ∀ x ∈ l ++ fw, F x = none → F6 x = none := fun x hx h => by
      obtain ⟨us, e⟩ := sr.lsome x hx
      exact stT.nocap x _ e h fun z => by
        rcases List.mem_append.mp z with z | z
        · cases z
        · exact dis x z hx
    have srf : SR K F6 H6 (wipe σ vs) ⟨wipeS ρ2 vs, io2⟩ p l fw :=
      ⟨ls.sr.sub, sr.er.mono stT.ff (fun x hx o h => kp x (List.mem_append_right _ hx) o h) (fun x hx => nc x (List.mem_append_right _ hx) (sr.er.own x hx).1),
        sr.ior.mono stT.ff (fun x hx o h => ⟨kp x (List.mem_append_left _ hx) o h, nc x (List.mem_append_left _ hx)⟩), sr.nd⟩
    have g6n : ∀ x ∈ g6, x ∈ g ∨ H x = none := fun x hx => by
      rcases ls.nw x (List.mem_append_right _ hx) with q | q
      · rcases List.mem_append.mp q with q | q
        · have n := ls.nd
          rw [← List.append_assoc, List.nodup_append] at n
          exact absurd rfl (n.2.2 x (List.mem_append_right _ q) x hx)
        · exact .inl q
      · by_cases h : x ∈ l ++ fw
        · obtain ⟨us, e⟩ := sr.lsome x h
          have := st5.keep x _ e fun z => nomatch z
          rw [q] at this; cases this
        · exact .inr (h5n x q h)
    refine ⟨fw, ⟨stT, by rw [e]; exact srf, ls.acc, ?_, fun x hx => ?_, fun _ => ⟨e, rfl⟩⟩⟩
    · have n := ls.nd
      rw [← List.append_assoc, List.nodup_append] at n ⊢
      refine ⟨sr.nd, n.2.1, fun x hx y hy e => ?_⟩
      subst e
      rcases g6n x hy with q | q
      · exact dis x q hx
      · obtain ⟨us, e⟩ := sr.lsome x hx
        rw [e] at q; cases q
    · rcases List.mem_append.mp hx with z | z
      · exact .inl (List.mem_append_left _ z)
      · rcases g6n x z with q | q
        · exact .inl (List.mem_append_right _ q)
        · exact .inr q
  | false =>
    rw [hp] at stT
    obtain ⟨f6, srw, sb⟩ := ls.sr.wipe vs
    have e1 : wipe (wipe σ2 vs1) vs = wipe σ vs := by
      rw [← hw]
      exact wipe_eq (fun i hi => wipe_out fun z => hi (hv i z)) (wipe_length σ2 vs1)
    have e2 : wipeS (wipeS S6.ρ vs1) vs = wipeS S6.ρ vs := wipeS_eq (fun i hi => wipeS_out fun z => hi (hv i z)) (wipeS_len _ _)
    have srw' : SR K F6 H6 (wipe σ vs) ⟨wipeS S6.ρ vs, S6.io⟩ p l f6 := by
      rw [e1] at srw
      have srw2 : SR K F6 H6 (wipe σ vs) ⟨wipeS (wipeS S6.ρ vs1) vs, S6.io⟩ p l f6 := srw
      rw [e2] at srw2
      exact srw2
    refine ⟨f6, ⟨stT, srw', ls.acc, ls.nd.sublist ((List.Sublist.refl l).append (sb.append (List.Sublist.refl _))), fun x hx => ?_, fun h => by cases h⟩⟩
    have hx' : x ∈ fw6 ++ g6 := by
      rcases List.mem_append.mp hx with z | z
      · exact List.mem_append_left _ (sb.subset z)
      · exact List.mem_append_right _ z
    rcases ls.nw x hx' with q | q
    · rcases List.mem_append.mp q with q | q
      · rcases f5n x (sw.subset q) with q | q
        · exact .inl (List.mem_append_left _ q)
        · exact .inr q
      · exact .inl (List.mem_append_right _ q)
    · by_cases h : x ∈ fw
      · exact .inl (List.mem_append_left _ h)
      · have : x ∉ l := fun w => by
          have n := ls.nd
          rw [List.nodup_append] at n
          exact n.2.2 x w x hx' rfl
        exact .inr (h5n x q fun z => (List.mem_append.mp z).elim this h)
theorem compL2_step {vs : List Nat} {t : MT} {inner : Sta → List Cell → Option (List Cell × Sta)} {d : Mi.D} {ds : List Mi.D} {S : Sta} {acc : List Cell} : compL2 vs t tc inner (d :: ds) S acc = ((bindT t d (wipeS S.ρ vs)).bind fun ρ1 => (tc ⟨ρ1, S.io⟩).bind fun p =>
    if p.1 then (inner p.2 acc).bind fun q => compL2 vs t tc inner ds q.2 q.1 else compL2 vs t tc inner ds p.2 acc) := rfl
/-- [elt for t in it if c for t1 in it1 if c1] -/
theorem k_comp2 {own : List (Str × Nat)} {vs1 : List Nat} {t t1 : MT} {ti ti1 : Sta → Option (Bool × List Mi.D × Sta)} (hv : ∀ i ∈ vs1, i ∈ own.map (·.2)) (tin : ∀ i ∈ t.sl, i ∈ own.map (·.2)) (tin1 : ∀ i ∈ t1.sl, i ∈ vs1) (h : tE X.K (fun S => (ti S).bind fun p =>
      if (p.1 && !(pa && pc && pi1 && pc1)) || !(own.all fun q => (p.2.2.ρ.getD q.2 .no).isIm) || !(vs1.all fun i => own.any fun q => q.2 == i) then none else
      (compL2 (own.map (·.2)) t tc (fun S acc => (ti1 S).bind fun p1 =>
        if p1.1 && !(pa && pc1) then none else compL vs1 t1 tc1 ta p1.2.1 p1.2.2 acc) p.2.1 p.2.2 []).map fun q => (.own (.ow q.1), ⟨backS p.2.2.ρ q.2.ρ (own.map (·.2)), q.2.io⟩)) (pa && pi && pc && pi1 && pc1) σ H Q) :
    tLc2 (tI X.K ti pi) (tG X.K t) (tT X.K tc pc) (tI X.K ti1 pi1) (tG X.K t1) (tT X.K tc1 pc1) (tE X.K ta pa) (own.map (·.2)) vs1 σ H Q := by
  obtain ⟨F, S, p, l, f, sr, r, S', e, k⟩ := h
  simp only [Option.bind_eq_some_iff] at e
  obtain ⟨⟨b, ds, S1⟩, e1, e2⟩ := e
  split at e2
  · cases e2
  rename_i hcond
  simp only [Bool.or_eq_true, not_or] at hcond
  obtain ⟨⟨hb0, him0⟩, _⟩ := hcond
  have hb : b = true → (pa && pc && pi1 && pc1) = true := fun z => by subst z; simpa using hb0
  have him : (own.all fun q => (S1.ρ.getD q.2 .no).isIm) = true := by simpa using him0
  simp only [Option.map_eq_some_iff] at e2
  obtain ⟨⟨csF, SF⟩, e3, e4⟩ := e2
  cases e4
  refine ⟨F, S, p, l, f, sr, b, ds, S1, e1, fun J F1 H1 f1 go wd dd hD => ?_⟩
  obtain ⟨fw, srw, sw⟩ := go.sr.wipe (own.map (·.2))
  obtain ⟨gD, fD, stD⟩ := go.newH (o := .lst []) hD fun _ z => nomatch z
  have srw2 := srw.step stD gD.sr.sub
  have acc : CR X.K F1 (upd H1 dd (.lst [])) (.ref dd) (.ow []) [dd] := .ow fD upd_same .nil
  have nD : dd ∉ l ++ f1 := fun z => by
    obtain ⟨us, e⟩ := go.sr.lsome dd z
    rw [hD] at e; cases e
  have ndw : (l ++ (fw ++ [dd])).Nodup := by
    rw [← List.append_assoc, List.nodup_append]
    refine ⟨srw.nd, by simp, fun x hx y hy e => ?_⟩
    have : y = dd := by simpa using hy
    subst this e
    exact nD (by rcases List.mem_append.mp hx with z | z; exact List.mem_append_left _ z; exact List.mem_append_right _ (sw.subset z))
  have wd2 : WD X.K J F1 (upd H1 dd (.lst [])) (l ++ f1) b ds := by
    have sh : ∀ F2 H2, Lat F1 (upd H1 dd (.lst [])) (l ++ f1) b F2 H2 → Lat F1 H1 (l ++ f1) b F2 H2 := fun F2 H2 q => ⟨q.ff, q.sub, fun hb a ha o h => q.kp hb a ha o (by rw [upd_ne (ne_of_none h hD)]; exact h)⟩
    exact ⟨fun F2 H2 i q => wd.goes F2 H2 i (sh F2 H2 q), fun F2 H2 q => wd.stops F2 H2 (sh F2 H2 q), fun F2 H2 i x H3 d q => wd.yields F2 H2 i x H3 d (sh F2 H2 q)⟩
  have him' : ∀ i ∈ own.map (·.2), (S1.ρ.getD i .no).isIm = true := fun i hi => by
    simp only [List.mem_map] at hi
    obtain ⟨q, hq, rfl⟩ := hi
    exact List.all_eq_true.mp him q hq
  let vs := own.map (·.2)
  let pu := pc && (pi1 && (pc1 && pa))
  let inner : Sta → List Cell → Option (List Cell × Sta) := fun S acc => (ti1 S).bind fun p1 => if p1.1 && !(pa && pc1) then none else compL vs1 t1 tc1 ta p1.2.1 p1.2.2 acc
  let Pv : Nat → Hp → Prop := fun i Hc => ∃ F' Si cs' fw' g', compL2 vs t tc inner (ds.drop i) Si cs' = some (csF, SF) ∧ LS X.K (wipe σ vs) p l pu F1 (upd H1 dd (.lst [])) ⟨wipeS S1.ρ vs, S1.io⟩ fw [dd] dd F' Hc ⟨wipeS Si.ρ vs, Si.io⟩ fw' g' cs'
  have lat : ∀ F' Hc Sc fw' g' cs', LS X.K (wipe σ vs) p l pu F1 (upd H1 dd (.lst [])) ⟨wipeS S1.ρ vs, S1.io⟩ fw [dd] dd F' Hc Sc fw' g' cs' → Lat F1 (upd H1 dd (.lst [])) (l ++ f1) b F' Hc := fun F' Hc Sc fw' g' cs' ls => ⟨ls.st.ff, ls.sr.sub, fun hb' a ha o h => ls.st.keep a o h fun z => by
    have h1 := hb hb'
    have h2 : pu = true := by
      show (pc && (pi1 && (pc1 && pa))) = true
      revert h1
      cases pa <;> cases pc <;> cases pi1 <;> cases pc1 <;> decide
    rw [h2] at z
    have : a = dd := by simpa [mus] using z
    subst this
    exact nD ha⟩
  refine ⟨fun i m Hc => m = ds.length - i ∧ i ≤ ds.length ∧ Pv i Hc, ⟨ds.length, by simp, Nat.zero_le _, F1, S1, [], fw, [dd], e3, LS.refl srw2 acc ndw⟩, ?_⟩
  rintro i m Hc ⟨rfl, hi, F', Si, cs', fw', g', e', ls⟩
  have lt := lat _ _ _ _ _ _ ls
  by_cases hlt : i < ds.length
  · refine .inr ⟨wd2.goes F' Hc i lt hlt, Pv (i + 1), fun H'' pv => ⟨ds.length - (i + 1), by omega, rfl, hlt, pv⟩, fun x H'' y => ?_⟩
    obtain ⟨F3, rp, st, sub⟩ := wd2.yields F' Hc i x H'' _ lt (List.getElem?_eq_getElem hlt) y
    rw [drop_at hlt, compL2_step] at e'
    simp only [Option.bind_eq_some_iff] at e'
    obtain ⟨ρ1, e5, ⟨bb, S4⟩, e6, e7⟩ := e'
    obtain ⟨bo1, bo2⟩ := bindT_out e5
    have sr3 := ls.sr.step st sub
    refine ⟨F3, _, p, l, fw', _, ρ1, sr3, rp, e5, fun σ2 f3 srt sub1 out1 len1 => ?_⟩
    have hw : wipe σ2 vs = wipe σ vs := by rw [wipe_eq (fun i hi => out1 i fun z => hi (tin i z)) len1, wipe_twice]
    have hws : wipeS ρ1 vs = wipeS Si.ρ vs := by rw [wipeS_eq (fun i hi => bo1 i fun z => hi (tin i z)) bo2, wipeS_twice]
    refine ⟨hw, F3, ⟨ρ1, Si.io⟩, p, l, f3, srt, bb, S4, e6, fun F4 H4 f4 go4 => ?_⟩
    have lsnd := ls.nd
    have gdis : ∀ x ∈ g', x ∉ l ++ fw' := fun x hx z => by
      rw [← List.append_assoc, List.nodup_append] at lsnd
      exact lsnd.2.2 x z x hx rfl
    cases bb with
    | true =>
      rw [if_pos rfl] at e7
      refine iteT ?_
      simp only [Option.bind_eq_some_iff] at e7
      obtain ⟨⟨acc', S6⟩, e8, e9⟩ := e7
      have e8 : ((ti1 S4).bind fun p1 => if p1.1 && !(pa && pc1) then none else compL vs1 t1 tc1 ta p1.2.1 p1.2.2 cs') = some (acc', S6) := e8
      simp only [Option.bind_eq_some_iff] at e8
      obtain ⟨⟨b1, ds1, S5⟩, e10, e11⟩ := e8
      split at e11
      · cases e11
      rename_i hb1
      refine ⟨F4, S4, p, l, f4, go4.sr, b1, ds1, S5, e10, fun J1 F5 H5 f5 go5 wd1 => ?_⟩
      obtain ⟨go45, _, _⟩ := go4.trans go5 fun _ z => nomatch z
      rw [List.nil_append] at go45
      obtain ⟨fw1, srw1, sw1⟩ := go5.sr.wipe vs1
      -- the growing list through the target, the test, the inner source
      have st05 : Stp F' Hc F5 H5 (mus (pc && pi1) l fw') := by
        refine (st.wide fun x hx => nomatch hx).trans go45.st fun x hx => ?_
        unfold mus at hx ⊢
        split at hx
        · cases hx
        · rename_i hh
          rw [if_neg hh]
          rcases List.mem_append.mp hx with z | z
          · exact .inl (List.mem_append_left _ z)
          · exact .inl (List.mem_append_right _ (sub1 x z))
      have acc5 := ls.acc.held st05 fun x hx z => gdis x hx (mus_sub z)
      have d5 : ∀ x ∈ g', x ∉ l ++ f5 := fun x hx z => by
        rcases List.mem_append.mp z with z | z
        · exact gdis x hx (List.mem_append_left _ z)
        · rcases go45.nw x (List.mem_append_left _ z) with q | q
          · exact gdis x hx (List.mem_append_right _ (sub1 x q))
          · obtain ⟨_, us, e⟩ := ls.acc.own x hx
            have := st.same x _ e
            rw [q] at this; cases this
      have nd1 : (l ++ (fw1 ++ g')).Nodup := by
        have lsnd' := ls.nd
        rw [← List.append_assoc, List.nodup_append] at lsnd' ⊢
        refine ⟨srw1.nd, lsnd'.2.1, fun x hx y hy e => ?_⟩
        subst e
        exact d5 x hy (by rcases List.mem_append.mp hx with z | z; exact List.mem_append_left _ z; exact List.mem_append_right _ (sw1.subset z))
      refine c_loop (pc := pc1) (pa := pa) wd1 (fun hb' => ⟨by
        subst hb'
        rw [Bool.and_comm]; simpa using hb1, fun a ha z => d5 a z ha⟩) tin1 srw1 acc5 nd1 e11 fun F6 H6 fw6 g6 lsI => ?_
      have goP : Go X.K σ2 p l F3 H'' ⟨ρ1, Si.io⟩ f3 pu F5 H5 σ2 S5 f5 [] := by
        have := go45.weak (pb := (pc1 && pa))
        rw [Bool.and_assoc] at this
        exact this
      obtain ⟨f6, lsM⟩ := LS.mid (pu := pu) (fun z => by
        have z : (pc && (pi1 && (pc1 && pa))) = true := z
        revert z; cases pa <;> cases pc <;> cases pi1 <;> cases pc1 <;> decide) hv ls.sr ls.acc ls.nd hw hws st sub1 goP sw1 lsI
      exact ⟨F6, S6, acc', f6, g6, e9, ls.trans lsM⟩
    | false =>
      rw [if_neg (by simp)] at e7
      refine iteF ?_
      have go4' : Go X.K σ2 p l F3 H'' ⟨ρ1, Si.io⟩ f3 pu F4 H4 σ2 S4 f4 [] := go4.weak
      -- no inner loop: as one that makes nothing
      obtain ⟨fw1, srw1, sw1⟩ := go4.sr.wipe vs1
      have st04 : Stp F' Hc F4 H4 (mus pc l fw') := by
        refine (st.wide fun x hx => nomatch hx).trans go4.st fun x hx => ?_
        unfold mus at hx ⊢
        split at hx
        · cases hx
        · rename_i hh
          rw [if_neg hh]
          rcases List.mem_append.mp hx with z | z
          · exact .inl (List.mem_append_left _ z)
          · exact .inl (List.mem_append_right _ (sub1 x z))
      have acc4 := ls.acc.held st04 fun x hx z => gdis x hx (mus_sub z)
      have d4 : ∀ x ∈ g', x ∉ l ++ f4 := fun x hx z => by
        rcases List.mem_append.mp z with z | z
        · exact gdis x hx (List.mem_append_left _ z)
        · rcases go4.nw x (List.mem_append_left _ z) with q | q
          · exact gdis x hx (List.mem_append_right _ (sub1 x q))
          · obtain ⟨_, us, e⟩ := ls.acc.own x hx
            have := st.same x _ e
            rw [q] at this; cases this
      have nd1 : (l ++ (fw1 ++ g')).Nodup := by
        have lsnd' := ls.nd
        rw [← List.append_assoc, List.nodup_append] at lsnd' ⊢
        refine ⟨srw1.nd, lsnd'.2.1, fun x hx y hy e => ?_⟩
        subst e
        exact d4 x hy (by rcases List.mem_append.mp hx with z | z; exact List.mem_append_left _ z; exact List.mem_append_right _ (sw1.subset z))
      obtain ⟨f6, lsM⟩ := LS.mid (pu := pu) (pu1 := true) (fun _ => rfl) hv ls.sr ls.acc ls.nd hw hws st sub1 go4' sw1 (LS.refl (pu := true) srw1 acc4 nd1)
      exact ⟨F4, S4, cs', f6, g', e7, ls.trans lsM⟩
  · have : i = ds.length := by omega
    subst this
    rw [List.drop_length] at e'
    have e' : some (cs', Si) = some (csF, SF) := e'
    cases e'
    refine .inl ⟨wd2.stops F' Hc lt, ?_⟩
    obtain ⟨f', goE, cr⟩ := c_end (pu := pu) go.sr hD rfl sw him' ls (fun hp => back_of_wipe (congrArg Sta.ρ (ls.pu hp).1))
    obtain ⟨g3, _, _⟩ := go.trans goE fun _ z => nomatch z
    rw [List.nil_append] at g3
    refine k _ _ _ f' g' ?_ cr
    have : (pi && pu) = (pa && pi && pc && pi1 && pc1) := by
      show (pi && (pc && (pi1 && (pc1 && pa)))) = _
      cases pi <;> cases pc <;> cases pa <;> cases pi1 <;> cases pc1 <;> rfl
    rw [← this]
    exact g3
theorem s_comp2 {elt tg iter tg1 iter1 : Expr} {ifs ifs1 : List Expr} {scope : Scope} {own : List (Str × Nat)} {vs1 : List Nat} {pos : Pos} {t t1 : MT} {ti ti1 : Sta → Option (Bool × List Mi.D × Sta)} (hc : X.calm = true) (hN : X.N.Nodup) (hi : PI X tg iter (tI X.K ti pi)) (ok : BlkOk X.N X.env.scope scope own) (hv : ∀ i ∈ vs1, i ∈ own.map (·.2))
    (hg : ∀ (s : Shared) (H : Hp) (C : Addr) (cl : List (Str × Addr)) (fp : List Addr), PG (X.blk s H scope (compEnvC scope cl C X.env) fp) tg (tG X.K t)) (ht : ∀ (s : Shared) (H : Hp) (C : Addr) (cl : List (Str × Addr)) (fp : List Addr), PTs (X.blk s H scope (compEnvC scope cl C X.env) fp) ifs (tT X.K tc pc))
    (hi1 : ∀ (s : Shared) (H : Hp) (C : Addr) (cl : List (Str × Addr)) (fp : List Addr), PI (X.blk s H scope (compEnvC scope cl C X.env) fp) tg1 iter1 (tI X.K ti1 pi1))
    (hg1 : ∀ (s : Shared) (H : Hp) (C : Addr) (cl : List (Str × Addr)) (fp : List Addr), PG (X.blk s H scope (compEnvC scope cl C X.env) fp) tg1 (tG X.K t1)) (ht1 : ∀ (s : Shared) (H : Hp) (C : Addr) (cl : List (Str × Addr)) (fp : List Addr), PTs (X.blk s H scope (compEnvC scope cl C X.env) fp) ifs1 (tT X.K tc1 pc1))
    (he : ∀ (s : Shared) (H : Hp) (C : Addr) (cl : List (Str × Addr)) (fp : List Addr), PE (X.blk s H scope (compEnvC scope cl C X.env) fp) elt (tE X.K ta pa)) (tin : ∀ i ∈ t.sl, i ∈ own.map (·.2)) (tin1 : ∀ i ∈ t1.sl, i ∈ vs1) (pl : plE iter = true) (pl1 : plE iter1 = true) :
    PE X (.ListComp elt [⟨tg, iter, ifs, 0⟩, ⟨tg1, iter1, ifs1, 0⟩] scope pos) (tE X.K (fun S => (ti S).bind fun p =>
      if (p.1 && !(pa && pc && pi1 && pc1)) || !(own.all fun q => (p.2.2.ρ.getD q.2 .no).isIm) || !(vs1.all fun i => own.any fun q => q.2 == i) then none else
      (compL2 (own.map (·.2)) t tc (fun S acc => (ti1 S).bind fun p1 =>
        if p1.1 && !(pa && pc1) then none else compL vs1 t1 tc1 ta p1.2.1 p1.2.2 acc) p.2.1 p.2.2 []).map fun q => (.own (.ow q.1), ⟨backS p.2.2.ρ q.2.ρ (own.map (·.2)), q.2.io⟩)) (pa && pi && pc && pi1 && pc1)) :=
  (pe_lc2 hc hN hi ok hv hg ht hi1 hg1 ht1 he (fun x => folded_pl pl _ x) (fun env x => folded_pl pl1 env x)).imp fun σ H Q h => k_comp2 hv tin tin1 h
end
end Mi
/-! The text, read back from the terms. -/
namespace Mi
open PySem PySem.Spec L2
section
variable {tx : Txt} {N : List Str} {sc : Scope} {op o1 o2 : CmpOp} {bo : Operator} {a b c : ME} {es : Es} {pe tg : Expr} {i f : Nat} {x : Str}
theorem mt_non (h : mt tx N sc .non pe = true) : ∃ k pos, pe = .Constant .none k pos := by
  cases pe with
  | Constant c k pos => cases c <;> simp [mt, ctEq] at h; exact ⟨_, _, rfl⟩
  | _ => simp [mt] at h
theorem mt_bl {v : Bool} (h : mt tx N sc (.bl v) pe = true) : ∃ k pos, pe = .Constant (.bool v) k pos := by
  cases pe with
  | Constant c k pos => cases c <;> simp [mt, ctEq] at h; subst h; exact ⟨_, _, rfl⟩
  | _ => simp [mt] at h
theorem mt_int {v : Int} (h : mt tx N sc (.int v) pe = true) : ∃ k pos, pe = .Constant (.int v) k pos := by
  cases pe with
  | Constant c k pos => cases c <;> simp [mt, ctEq] at h; subst h; exact ⟨_, _, rfl⟩
  | _ => simp [mt] at h
theorem mt_str {v : Str} (h : mt tx N sc (.str v) pe = true) : ∃ k pos, pe = .Constant (.str v) k pos := by
  cases pe with
  | Constant c k pos => cases c <;> simp [mt, ctEq] at h; subst h; exact ⟨_, _, rfl⟩
  | _ => simp [mt] at h
theorem mt_glob {v : Int} (h : mt tx N sc (.glob x v) pe = true) : ∃ pos, pe = .Name x pos ∧ glB sc x = true ∧ nmB x = true ∧ (x, v) ∈ tx.cs := by
  cases pe with
  | Name y pos =>
    simp only [mt, Bool.and_eq_true, decide_eq_true_eq] at h
    obtain ⟨⟨⟨rfl, h1⟩, h2⟩, h3⟩ := h
    exact ⟨_, rfl, h1, h2, by simpa using h3⟩
  | _ => simp [mt] at h
theorem mt_bin (h : mt tx N sc (.bin bo a b) pe = true) : ∃ x y pos, pe = .BinOp x bo y pos ∧ mt tx N sc a x = true ∧ mt tx N sc b y = true := by
  cases pe with
  | BinOp x o y pos => simp [mt] at h; obtain ⟨⟨rfl, h1⟩, h2⟩ := h; exact ⟨_, _, _, rfl, h1, h2⟩
  | _ => simp [mt] at h
theorem mt_neg (h : mt tx N sc (.neg a) pe = true) : ∃ x pos, pe = .UnaryOp .USub x pos ∧ mt tx N sc a x = true := by
  cases pe with
  | UnaryOp o x pos => cases o <;> simp [mt] at h; exact ⟨_, _, rfl, h⟩
  | _ => simp [mt] at h
theorem mt_not (h : mt tx N sc (.not a) pe = true) : ∃ x pos, pe = .UnaryOp .Not x pos ∧ mt tx N sc a x = true := by
  cases pe with
  | UnaryOp o x pos => cases o <;> simp [mt] at h; exact ⟨_, _, rfl, h⟩
  | _ => simp [mt] at h
theorem mt_cmp (h : mt tx N sc (.cmp op a b) pe = true) : ∃ x y pos, pe = .Compare x [op] [y] pos ∧ mt tx N sc a x = true ∧ mt tx N sc b y = true := by
  cases pe with
  | Compare x ops cs pos =>
    rcases ops with _ | ⟨o, _ | ⟨o2, ops⟩⟩ <;> rcases cs with _ | ⟨y, _ | ⟨y2, cs⟩⟩ <;> simp [mt] at h
    obtain ⟨⟨rfl, h1⟩, h2⟩ := h
    exact ⟨_, _, _, rfl, h1, h2⟩
  | _ => simp [mt] at h
theorem mt_chain (h : mt tx N sc (.chain o1 o2 a b c) pe = true) : ∃ x y z pos, pe = .Compare x [o1, o2] [y, z] pos ∧ mt tx N sc a x = true ∧ mt tx N sc b y = true ∧ mt tx N sc c z = true := by
  cases pe with
  | Compare x ops cs pos =>
    rcases ops with _ | ⟨o, _ | ⟨o2, _ | ⟨o3, ops⟩⟩⟩ <;> rcases cs with _ | ⟨y, _ | ⟨y2, _ | ⟨y3, cs⟩⟩⟩ <;> simp [mt] at h
    obtain ⟨⟨⟨⟨rfl, rfl⟩, h1⟩, h2⟩, h3⟩ := h
    exact ⟨_, _, _, _, rfl, h1, h2, h3⟩
  | _ => simp [mt] at h
theorem mt_and (h : mt tx N sc (.and a b) pe = true) : ∃ x y rest pos, pe = .BoolOp .And (x :: y :: rest) pos ∧ mt tx N sc a x = true ∧ mt tx N sc b (.BoolOp .And (y :: rest) pos) = true := by
  cases pe with
  | BoolOp o xs pos =>
    cases o <;> rcases xs with _ | ⟨x, _ | ⟨y, xs⟩⟩ <;> simp [mt] at h
    exact ⟨_, _, _, _, rfl, h.1, h.2⟩
  | _ => simp [mt] at h
theorem mt_or (h : mt tx N sc (.or a b) pe = true) : ∃ x y rest pos, pe = .BoolOp .Or (x :: y :: rest) pos ∧ mt tx N sc a x = true ∧ mt tx N sc b (.BoolOp .Or (y :: rest) pos) = true := by
  cases pe with
  | BoolOp o xs pos =>
    cases o <;> rcases xs with _ | ⟨x, _ | ⟨y, xs⟩⟩ <;> simp [mt] at h
    exact ⟨_, _, _, _, rfl, h.1, h.2⟩
  | _ => simp [mt] at h
theorem mt_one (h : mt tx N sc (.one a) pe = true) : ∃ o x pos, pe = .BoolOp o [x] pos ∧ mt tx N sc a x = true := by
  cases pe with
  | BoolOp o xs pos =>
    rcases xs with _ | ⟨x, _ | ⟨y, xs⟩⟩ <;> simp [mt] at h
    exact ⟨_, _, _, rfl, h⟩
  | _ => simp [mt] at h
theorem mt_ite (h : mt tx N sc (.ite a b c) pe = true) : ∃ x y z pos, pe = .IfExp x y z pos ∧ mt tx N sc a x = true ∧ mt tx N sc b y = true ∧ mt tx N sc c z = true := by
  cases pe with
  | IfExp x y z pos => simp [mt] at h; exact ⟨_, _, _, _, rfl, h.1.1, h.1.2, h.2⟩
  | _ => simp [mt] at h
theorem mt_tup (h : mt tx N sc (.tup es) pe = true) : ∃ xs n pos, pe = .Tuple xs n pos ∧ mts tx N sc es xs = true := by
  cases pe with
  | Tuple xs n pos => simp [mt] at h; exact ⟨_, _, _, rfl, h⟩
  | _ => simp [mt] at h
theorem mt_lst (h : mt tx N sc (.lst es) pe = true) : ∃ xs pos, pe = .List xs pos ∧ mts tx N sc es xs = true := by
  cases pe with
  | List xs pos => simp [mt] at h; exact ⟨_, _, rfl, h⟩
  | _ => simp [mt] at h
theorem mt_idx (h : mt tx N sc (.idx a b) pe = true) : ∃ x y pos, pe = .Subscript x y pos ∧ mt tx N sc a x = true ∧ mt tx N sc b y = true := by
  cases pe with
  | Subscript x y pos => simp [mt] at h; exact ⟨_, _, _, rfl, h.1, h.2⟩
  | _ => simp [mt] at h
theorem mt_slc (h : mt tx N sc (.slc a b c) pe = true) : ∃ x l hh p2 pos, pe = .Subscript x (.Slice l hh none p2) pos ∧ mt tx N sc a x = true ∧
    (b.isNo = true ∧ l = none ∨ b.isNo = false ∧ ∃ e, l = some e ∧ mt tx N sc b e = true) ∧ (c.isNo = true ∧ hh = none ∨ c.isNo = false ∧ ∃ e, hh = some e ∧ mt tx N sc c e = true) := by
  cases pe with
  | Subscript x y pos =>
    cases y with
    | Slice l hh st p2 =>
      cases st with
      | none =>
        simp only [mt, Bool.and_eq_true] at h
        obtain ⟨⟨h1, h2⟩, h3⟩ := h
        refine ⟨_, _, _, _, _, rfl, h1, ?_, ?_⟩
        · cases l with
          | none => exact .inl ⟨h2, rfl⟩
          | some e => simp only [Bool.and_eq_true, Bool.not_eq_true'] at h2; exact .inr ⟨h2.1, _, rfl, h2.2⟩
        · cases hh with
          | none => exact .inl ⟨h3, rfl⟩
          | some e => simp only [Bool.and_eq_true, Bool.not_eq_true'] at h3; exact .inr ⟨h3.1, _, rfl, h3.2⟩
      | some st => simp [mt] at h
    | _ => simp [mt] at h
  | _ => simp [mt] at h
theorem mt_rev (h : mt tx N sc (.rev a) pe = true) : ∃ x n p1 p2 p3 pos, pe = .Subscript x (.Slice none none (some (.UnaryOp .USub (.Constant (.int 1) n p1) p2)) p3) pos ∧ mt tx N sc a x = true := by
  cases pe with
  | Subscript x y pos =>
    cases y with
    | Slice l hh st p2 =>
      cases l with
      | some _ => simp [mt] at h
      | none =>
      cases hh with
      | some _ => simp [mt] at h
      | none =>
      cases st with
      | none => simp [mt] at h
      | some st =>
      cases st with
      | UnaryOp o z p =>
        cases o <;> cases z <;> first | (simp [mt] at h; done) | skip
        rename_i c k p'
        cases c <;> simp [mt] at h
        obtain ⟨rfl, h⟩ := h
        exact ⟨_, _, _, _, _, _, rfl, h⟩
      | _ => simp [mt] at h
    | _ => simp [mt] at h
  | _ => simp [mt] at h
theorem mt_comp {own : List (Str × Nat)} {t : MT} {it : MI} (h : mt tx N sc (.comp own a t it es) pe = true) : ∃ x tg iter ifs scope pos, pe = .ListComp x [⟨tg, iter, ifs, 0⟩] scope pos ∧ blkC N sc scope own = true ∧ mtI tx N sc it iter tg = true ∧
    tgt N scope (some (own.map (·.2))) t tg = true ∧ mts tx N (relS scope sc) es ifs = true ∧ mt tx N (relS scope sc) a x = true ∧ ifs.length ≤ 1 := by
  cases pe with
  | ListComp x gs scope pos =>
    rcases gs with _ | ⟨⟨tg, iter, ifs, z⟩, _ | ⟨g2, gs⟩⟩
    · simp [mt] at h
    · simp only [mt, Bool.and_eq_true, decide_eq_true_eq] at h
      obtain ⟨⟨⟨⟨⟨⟨rfl, h1⟩, h2⟩, h3⟩, h4⟩, h5⟩, h6⟩ := h
      exact ⟨_, _, _, _, _, _, rfl, h1, h2, h3, h4, h5, h6⟩
    · cases g2; simp [mt] at h
  | _ => simp [mt] at h
theorem mt_comp2 {own : List (Str × Nat)} {t t1 : MT} {it it1 : MI} {c1 : Es} {vs : List Nat} (h : mt tx N sc (.comp2 own a t it es vs t1 it1 c1) pe = true) : ∃ x tg iter ifs tg1 iter1 ifs1 scope pos, pe = .ListComp x [⟨tg, iter, ifs, 0⟩, ⟨tg1, iter1, ifs1, 0⟩] scope pos ∧ blkC N sc scope own = true ∧ mtI tx N sc it iter tg = true ∧
    tgt N scope (some (own.map (·.2))) t tg = true ∧ mts tx N (relS scope sc) es ifs = true ∧ mtI tx N (relS scope sc) it1 iter1 tg1 = true ∧ tgt N scope (some vs) t1 tg1 = true ∧ mts tx N (relS scope sc) c1 ifs1 = true ∧ mt tx N (relS scope sc) a x = true ∧ ifs.length ≤ 1 ∧ ifs1.length ≤ 1 := by
  cases pe with
  | ListComp x gs scope pos =>
    rcases gs with _ | ⟨⟨tg, iter, ifs, z⟩, _ | ⟨⟨tg1, iter1, ifs1, z1⟩, _ | ⟨g3, gs⟩⟩⟩
    · simp [mt] at h
    · simp [mt] at h
    · simp only [mt, Bool.and_eq_true, decide_eq_true_eq] at h
      obtain ⟨⟨⟨⟨⟨⟨⟨⟨⟨⟨⟨rfl, rfl⟩, h1⟩, h2⟩, h3⟩, h4⟩, h5⟩, h6⟩, h7⟩, h8⟩, h9⟩, h10⟩ := h
      exact ⟨_, _, _, _, _, _, _, _, _, rfl, h1, h2, h3, h4, h5, h6, h7, h8, h9, h10⟩
    · simp [mt] at h
  | _ => simp [mt] at h
theorem mt_call (h : mt tx N sc (.call f es) pe = true) : ∃ x p e xs pos, pe = .Call (.Name x p) (e :: xs) [] pos ∧ tx.fs[f]? = some (x, false) ∧ glB sc x = true ∧ nmB x = true ∧ mts tx N sc es (e :: xs) = true := by
  cases pe with
  | Call fn as ks pos =>
    rcases as with _ | ⟨e, as⟩ <;> rcases ks with _ | ⟨k, ks⟩ <;> cases fn <;> first | (simp [mt] at h; done) | skip
    simp only [mt, Bool.and_eq_true, decide_eq_true_eq] at h
    exact ⟨_, _, _, _, _, rfl, h.1.1.1, h.1.1.2, h.1.2, h.2⟩
  | _ => simp [mt] at h
theorem mt_callIo (h : mt tx N sc (.callIo f i es) pe = true) : ∃ x p e xs pos, pe = .Call (.Name x p) (e :: xs) [] pos ∧ tx.fs[f]? = some (x, true) ∧ glB sc x = true ∧ nmB x = true ∧ nm1 N sc i e = true ∧ mts tx N sc es xs = true := by
  cases pe with
  | Call fn as ks pos =>
    rcases as with _ | ⟨e, as⟩ <;> rcases ks with _ | ⟨k, ks⟩ <;> cases fn <;> first | (simp [mt] at h; done) | skip
    simp only [mt, Bool.and_eq_true, decide_eq_true_eq] at h
    exact ⟨_, _, _, _, _, rfl, h.1.1.1.1, h.1.1.1.2, h.1.1.2, h.1.2, h.2⟩
  | _ => simp [mt] at h
theorem mt_blt (h : mt tx N sc (.blt x es) pe = true) : ∃ p e xs pos, pe = .Call (.Name x p) (e :: xs) [] pos ∧ bltNs.contains x = true ∧ glB sc x = true ∧ nmB x = true ∧ mts tx N sc es (e :: xs) = true := by
  cases pe with
  | Call fn as ks pos =>
    rcases as with _ | ⟨e, as⟩ <;> rcases ks with _ | ⟨k, ks⟩ <;> cases fn <;> first | (simp [mt] at h; done) | skip
    simp only [mt, Bool.and_eq_true, decide_eq_true_eq] at h
    obtain ⟨⟨⟨⟨rfl, h1⟩, h2⟩, h3⟩, h4⟩ := h
    exact ⟨_, _, _, _, rfl, h1, h2, h3, h4⟩
  | _ => simp [mt] at h
theorem mt_lrng1 (h : mt tx N sc (.lrng1 a) pe = true) : ∃ p p2 y pos pos2, pe = .Call (.Name "list" p) [.Call (.Name "range" p2) [y] [] pos2] [] pos ∧ glB sc "list" = true ∧ glB sc "range" = true ∧ mt tx N sc a y = true := by
  cases pe with
  | Call fn as ks pos =>
    rcases as with _ | ⟨e, _ | ⟨e2, as⟩⟩ <;> rcases ks with _ | ⟨k, ks⟩ <;> cases fn <;> first | (simp [mt] at h; done) | skip
    cases e with
    | Call fn as ks pos =>
      rcases as with _ | ⟨e, _ | ⟨e2, as⟩⟩ <;> rcases ks with _ | ⟨k, ks⟩ <;> cases fn <;> first | (simp [mt] at h; done) | skip
      simp only [mt, Bool.and_eq_true, decide_eq_true_eq] at h
      obtain ⟨⟨⟨⟨rfl, rfl⟩, h1⟩, h2⟩, h3⟩ := h
      exact ⟨_, _, _, _, _, rfl, h1, h2, h3⟩
    | _ => simp [mt] at h
  | _ => simp [mt] at h
theorem mt_lrng2 (h : mt tx N sc (.lrng2 a b) pe = true) : ∃ p p2 y z pos pos2, pe = .Call (.Name "list" p) [.Call (.Name "range" p2) [y, z] [] pos2] [] pos ∧ glB sc "list" = true ∧ glB sc "range" = true ∧ mt tx N sc a y = true ∧ mt tx N sc b z = true := by
  cases pe with
  | Call fn as ks pos =>
    rcases as with _ | ⟨e, _ | ⟨e2, as⟩⟩ <;> rcases ks with _ | ⟨k, ks⟩ <;> cases fn <;> first | (simp [mt] at h; done) | skip
    cases e with
    | Call fn as ks pos =>
      rcases as with _ | ⟨e, _ | ⟨e2, _ | ⟨e3, as⟩⟩⟩ <;> rcases ks with _ | ⟨k, ks⟩ <;> cases fn <;> first | (simp [mt] at h; done) | skip
      simp only [mt, Bool.and_eq_true, decide_eq_true_eq] at h
      obtain ⟨⟨⟨⟨⟨rfl, rfl⟩, h1⟩, h2⟩, h3⟩, h4⟩ := h
      exact ⟨_, _, _, _, _, _, rfl, h1, h2, h3, h4⟩
    | _ => simp [mt] at h
  | _ => simp [mt] at h
theorem mt_isi {tup : Bool} {ts : List Str} (h : mt tx N sc (.isi a tup ts) pe = true) : ∃ p e ty pos, pe = .Call (.Name "isinstance" p) [e, ty] [] pos ∧ glB sc "isinstance" = true ∧ mt tx N sc a e = true ∧
    ((tup = false ∧ ∃ t p2, ty = .Name t p2 ∧ ts = [t] ∧ glB sc t = true ∧ nmB t = true) ∨ (tup = true ∧ ∃ xs n p2, ty = .Tuple xs n p2 ∧ isiNs sc ts xs = true ∧ ts.length ≤ 9 ∧ (∀ u ∈ ts, u ∈ isTyNs) ∧ ts ≠ [])) := by
  cases pe with
  | Call fn as ks pos =>
    rcases as with _ | ⟨e, _ | ⟨ty, _ | ⟨e3, as⟩⟩⟩ <;> rcases ks with _ | ⟨k, ks⟩ <;> cases fn <;> first | (simp [mt] at h; done) | skip
    simp only [mt, Bool.and_eq_true, decide_eq_true_eq] at h
    obtain ⟨⟨⟨rfl, h1⟩, h2⟩, h3⟩ := h
    refine ⟨_, _, _, _, rfl, h1, h2, ?_⟩
    split at h3
    · simp only [Bool.and_eq_true, decide_eq_true_eq] at h3
      obtain ⟨⟨rfl, h4⟩, h5⟩ := h3
      exact .inl ⟨rfl, _, _, rfl, rfl, h4, h5⟩
    · simp only [Bool.and_eq_true, decide_eq_true_eq, List.all_eq_true, List.contains_iff_mem, Bool.not_eq_true'] at h3
      obtain ⟨⟨⟨h4, h5⟩, h6⟩, h7⟩ := h3
      refine .inr ⟨rfl, _, _, _, rfl, h4, h5, h6, fun z => ?_⟩
      subst z; simp at h7
    · cases h3
  | _ => simp [mt] at h
theorem mt_pop0 (h : mt tx N sc (.pop0 i) pe = true) : ∃ y ap pos, pe = .Call (.Attribute y "pop" ap) [] [] pos ∧ nm1 N sc i y = true ∧ (ap.endLine == pos.line) = true := by
  cases pe with
  | Call fn as ks pos =>
    rcases as with _ | ⟨e, as⟩ <;> rcases ks with _ | ⟨k, ks⟩ <;> cases fn <;> first | (simp [mt] at h; done) | skip
    simp only [mt, Bool.and_eq_true, decide_eq_true_eq] at h
    obtain ⟨⟨rfl, h1⟩, h2⟩ := h
    exact ⟨_, _, _, rfl, h1, h2⟩
  | _ => simp [mt] at h
theorem mt_pop (h : mt tx N sc (.pop i a) pe = true) : ∃ y ap x pos, pe = .Call (.Attribute y "pop" ap) [x] [] pos ∧ nm1 N sc i y = true ∧ mt tx N sc a x = true ∧ (ap.endLine == pos.line) = true := by
  cases pe with
  | Call fn as ks pos =>
    rcases as with _ | ⟨e, _ | ⟨e2, as⟩⟩ <;> rcases ks with _ | ⟨k, ks⟩ <;> cases fn <;> first | (simp [mt] at h; done) | skip
    simp only [mt, Bool.and_eq_true, decide_eq_true_eq] at h
    obtain ⟨⟨⟨rfl, h1⟩, h2⟩, h3⟩ := h
    exact ⟨_, _, _, _, rfl, h1, h2, h3⟩
  | _ => simp [mt] at h
theorem mt_ixof (h : mt tx N sc (.ixof a b) pe = true) : ∃ y ap x pos, pe = .Call (.Attribute y "index" ap) [x] [] pos ∧ noCall y = true ∧ mt tx N sc a y = true ∧ mt tx N sc b x = true ∧ (ap.endLine == pos.line) = true := by
  cases pe with
  | Call fn as ks pos =>
    rcases as with _ | ⟨e, _ | ⟨e2, as⟩⟩ <;> rcases ks with _ | ⟨k, ks⟩ <;> cases fn <;> first | (simp [mt] at h; done) | skip
    simp only [mt, Bool.and_eq_true, decide_eq_true_eq] at h
    obtain ⟨⟨⟨⟨rfl, h0⟩, h1⟩, h2⟩, h3⟩ := h
    exact ⟨_, _, _, _, rfl, h0, h1, h2, h3⟩
  | _ => simp [mt] at h
theorem mti_rng1 (h : mtI tx N sc (.rng1 a) pe tg = true) : ∃ p y pos, pe = .Call (.Name "range" p) [y] [] pos ∧ glB sc "range" = true ∧ mt tx N sc a y = true := by
  cases pe with
  | Call fn as ks pos =>
    rcases as with _ | ⟨e, _ | ⟨e2, as⟩⟩ <;> rcases ks with _ | ⟨k, ks⟩ <;> cases fn <;> first | (simp [mtI] at h; done) | skip
    simp only [mtI, Bool.and_eq_true, decide_eq_true_eq] at h
    obtain ⟨⟨rfl, h1⟩, h2⟩ := h
    exact ⟨_, _, _, rfl, h1, h2⟩
  | _ => simp [mtI] at h
theorem mti_rng2 (h : mtI tx N sc (.rng2 a b) pe tg = true) : ∃ p y z pos, pe = .Call (.Name "range" p) [y, z] [] pos ∧ glB sc "range" = true ∧ mt tx N sc a y = true ∧ mt tx N sc b z = true := by
  cases pe with
  | Call fn as ks pos =>
    rcases as with _ | ⟨e, _ | ⟨e2, _ | ⟨e3, as⟩⟩⟩ <;> rcases ks with _ | ⟨k, ks⟩ <;> cases fn <;> first | (simp [mtI] at h; done) | skip
    simp only [mtI, Bool.and_eq_true, decide_eq_true_eq] at h
    obtain ⟨⟨⟨rfl, h1⟩, h2⟩, h3⟩ := h
    exact ⟨_, _, _, _, rfl, h1, h2, h3⟩
  | _ => simp [mtI] at h
theorem mti_enum (h : mtI tx N sc (.enum a) pe tg = true) : ∃ p y pos, pe = .Call (.Name "enumerate" p) [y] [] pos ∧ glB sc "enumerate" = true ∧ mt tx N sc a y = true ∧ isTupE tg = true := by
  cases pe with
  | Call fn as ks pos =>
    rcases as with _ | ⟨e, _ | ⟨e2, as⟩⟩ <;> rcases ks with _ | ⟨k, ks⟩ <;> cases fn <;> first | (simp [mtI] at h; done) | skip
    simp only [mtI, Bool.and_eq_true, decide_eq_true_eq] at h
    obtain ⟨⟨⟨rfl, h1⟩, h2⟩, h3⟩ := h
    exact ⟨_, _, _, rfl, h1, h2, h3⟩
  | _ => simp [mtI] at h
theorem mti_zip (h : mtI tx N sc (.zip a b) pe tg = true) : ∃ p y z pos, pe = .Call (.Name "zip" p) [y, z] [] pos ∧ glB sc "zip" = true ∧ mt tx N sc a y = true ∧ mt tx N sc b z = true ∧ isTupE tg = true := by
  cases pe with
  | Call fn as ks pos =>
    rcases as with _ | ⟨e, _ | ⟨e2, _ | ⟨e3, as⟩⟩⟩ <;> rcases ks with _ | ⟨k, ks⟩ <;> cases fn <;> first | (simp [mtI] at h; done) | skip
    simp only [mtI, Bool.and_eq_true, decide_eq_true_eq] at h
    obtain ⟨⟨⟨⟨rfl, h1⟩, h2⟩, h3⟩, h4⟩ := h
    exact ⟨_, _, _, _, rfl, h1, h2, h3, h4⟩
  | _ => simp [mtI] at h
end
end Mi
/-! Every term that stands to a text reads as it comes. -/
namespace Mi
open PySem PySem.Spec L2
/-- a term that stands to a text -/
structure Mn (X : Cx) (cf : CF) (m : ME) (e : Expr) : Prop where
  pe : PE X e (tE X.K (evB cf m).v m.pure)
  pt : PT X e (tT X.K (evB cf m).t m.pure)
  pw : boolE e = true → PW X e (tT X.K (evB cf m).t m.pure)
structure Mz (X : Cx) (cf : CF) (m : Es) (es : List Expr) : Prop where
  pa : PA X es (tA X.K (evsB cf m).v m.pure)
  pts : es.length ≤ 1 → PTs X es (tT X.K (evsB cf m).t m.pure)
section
variable {tx : Txt} {cf : CF} {k : Nat} {N : List Str} {X : Cx}
theorem PE.void {e : Expr} {pu : Bool} {t : Sta → Option (R × Sta)} (h : ∀ S, t S = none) : PE X e (tE X.K t pu) :=
  ⟨fun pins s σ H Q I ⟨F, S, p, l, f, sr, r, S', e, k⟩ => by rw [h] at e; cases e⟩
theorem PT.void {e : Expr} {pu : Bool} {t : Sta → Option (Bool × Sta)} (h : ∀ S, t S = none) : PT X e (tT X.K t pu) :=
  ⟨fun pins s σ H Q I ⟨F, S, p, l, f, sr, r, S', e, k⟩ => by rw [h] at e; cases e⟩
theorem PI.void {e tg : Expr} {pu : Bool} {t : Sta → Option (Bool × List D × Sta)} (h : ∀ S, t S = none) : PI X tg e (tI X.K t pu) :=
  ⟨fun pins s σ H R I ⟨F, S, p, l, f, sr, b, ds, S', e, k⟩ => by rw [h] at e; cases e⟩
theorem PW.void {e : Expr} {pu : Bool} {t : Sta → Option (Bool × Sta)} (h : ∀ S, t S = none) : PW X e (tT X.K t pu) :=
  ⟨fun wh pins s σ H Q I ⟨F, S, p, l, f, sr, r, S', e, k⟩ => by rw [h] at e; cases e⟩
theorem PE.void' {e : Expr} {pu : Bool} {t : Sta → Option (R × Sta)} (h : ∀ S r S', t S = some (r, S') → False) : PE X e (tE X.K t pu) :=
  ⟨fun pins s σ H Q I ⟨F, S, p, l, f, sr, r, S', e, k⟩ => (h _ _ _ e).elim⟩
theorem plI_of {tx : Txt} {N : List Str} {sc : Scope} {m : MI} {e tg : Expr} (h : mtI tx N sc m e tg = true) : plE e = true := by
  cases m with
  | ex a => unfold mtI at h; exact plE_of h
  | never => unfold mtI at h; exact h
  | _ => cases e <;> first | rfl | (simp [mtI] at h; done)
theorem Mn.mk' {m : ME} {e : Expr} (pe : PE X e (tE X.K (evB cf m).v m.pure)) (he : tstB e = true) (hb : boolE e = false) (ht : (evB cf m).t = (mkV (evB cf m).v).t) : Mn X cf m e :=
  ⟨pe, by rw [ht]; exact s_tst pe he, fun z => by rw [hb] at z; cases z⟩
theorem loc_blk {X : Cx} {scope : Scope} (s : Shared) (H : Hp) (C : Addr) (cl : List (Str × Addr)) (fp : List Addr) (x : Str) (h : lcB scope x = true) :
    Loc (X.blk s H scope (compEnvC scope cl C X.env) fp).env.scope x ∧ ((X.blk s H scope (compEnvC scope cl C X.env) fp).fn x = true ∨ (X.blk s H scope (compEnvC scope cl C X.env) fp).env.scope.names.lookup x = some .local) := by
  rcases lc_name h with h | h
  · have := lookup_relS_keep (sc := X.env.scope) (k := .local) (by simp) h
    exact ⟨.inl this, .inr this⟩
  · have := lookup_relS_keep (sc := X.env.scope) (k := .cell) (by simp) h
    exact ⟨.inr this, .inl (by show (List.lookup x scope.names == some NameKind.cell) = true; rw [h]; rfl)⟩
mutual
theorem mt_ok : ∀ (m : ME) {X : Cx} (fx : Fx tx cf k N X) {e : Expr}, mt tx N X.env.scope m e = true → Mn X cf m e
  | .var i, X, fx, e, h => by
    have h' : nm1 N X.env.scope i e = true := by unfold mt at h; exact h
    obtain ⟨x, p, rfl, _⟩ := nm1_of h'
    exact .mk' (s_var fx h') rfl rfl rfl
  | .fvar i, X, fx, e, h => by
    have h' : nm1 N X.env.scope i e = true := by unfold mt at h; exact h
    obtain ⟨x, p, rfl, _⟩ := nm1_of h'
    exact .mk' (s_fvar fx h') rfl rfl rfl
  | .mvar i, X, fx, e, h => by
    have h' : nm1 N X.env.scope i e = true := by unfold mt at h; exact h
    obtain ⟨x, p, rfl, _⟩ := nm1_of h'
    exact .mk' (s_mvar fx h') rfl rfl rfl
  | .non, X, fx, e, h => by
    obtain ⟨_, _, rfl⟩ := mt_non h
    exact .mk' (s_im pe_non fun _ => .non) rfl rfl rfl
  | .bl b, X, fx, e, h => by
    obtain ⟨_, _, rfl⟩ := mt_bl h
    exact .mk' (s_im pe_bl fun _ => .bl b) rfl rfl rfl
  | .int i, X, fx, e, h => by
    obtain ⟨_, _, rfl⟩ := mt_int h
    exact .mk' (s_im pe_int fun _ => .int i) rfl rfl rfl
  | .str s, X, fx, e, h => by
    obtain ⟨_, _, rfl⟩ := mt_str h
    exact .mk' (s_im pe_str fun _ => .str s) rfl rfl rfl
  | .glob x i, X, fx, e, h => by
    obtain ⟨p, rfl, h1, h2, h3⟩ := mt_glob h
    obtain ⟨t, ht⟩ := fx.cst x i h3
    exact .mk' (s_im (pe_glob (v := .int i) (gl_of h1) ht ⟨t, rfl⟩ (nm_dbg h2)) fun _ => .int i) rfl rfl rfl
  | .bin op a b, X, fx, e, h => by
    obtain ⟨x, y, p, rfl, ha, hb⟩ := mt_bin h
    exact .mk' (s_bin (mt_ok a fx ha).pe (mt_ok b fx hb).pe) rfl rfl rfl
  | .neg a, X, fx, e, h => by
    obtain ⟨x, p, rfl, ha⟩ := mt_neg h
    exact .mk' (s_neg (mt_ok a fx ha).pe) rfl rfl rfl
  | .cmp op a b, X, fx, e, h => by
    obtain ⟨x, y, p, rfl, ha, hb⟩ := mt_cmp h
    exact ⟨s_cmp fx (mt_ok a fx ha).pe (mt_ok b fx hb).pe (plE_of hb), s_tcmp fx (mt_ok a fx ha).pe (mt_ok b fx hb).pe (plE_of hb), fun z => nomatch z⟩
  | .chain o1 o2 a b c, X, fx, e, h => by
    obtain ⟨x, y, z, p, rfl, ha, hb, hc⟩ := mt_chain h
    have := s_chain (pos := p) (o1 := o1) (o2 := o2) fx (mt_ok a fx ha).pe (mt_ok b fx hb).pe (mt_ok c fx hc).pe (plE_of hc)
    exact ⟨this.1, this.2, fun z => nomatch z⟩
  | .and a r, X, fx, e, h => by
    obtain ⟨x, y, rest, p, rfl, ha, hr⟩ := mt_and h
    have m1 := mt_ok a fx ha
    have m2 := mt_ok r fx hr
    have w := s_tand m1.pt (m2.pw rfl)
    exact ⟨s_and m1.pe m2.pe, w.pt, fun _ => w⟩
  | .or a r, X, fx, e, h => by
    obtain ⟨x, y, rest, p, rfl, ha, hr⟩ := mt_or h
    have m1 := mt_ok a fx ha
    have m2 := mt_ok r fx hr
    have w := s_tor m1.pt (m2.pw rfl)
    exact ⟨s_or m1.pe m2.pe, w.pt, fun _ => w⟩
  | .one a, X, fx, e, h => by
    obtain ⟨o, x, p, rfl, ha⟩ := mt_one h
    have m1 := mt_ok a fx ha
    have w : PW X (.BoolOp o [x] p) (tT X.K (evB cf a).t a.pure) := by
      cases o
      · exact pw_and1 m1.pt
      · exact pw_or1 m1.pt
    exact ⟨pe_one m1.pe, w.pt, fun _ => w⟩
  | .not a, X, fx, e, h => by
    obtain ⟨x, p, rfl, ha⟩ := mt_not h
    have m1 := mt_ok a fx ha
    exact ⟨s_not m1.pe, s_tnot m1.pt, fun z => nomatch z⟩
  | .ite c a b, X, fx, e, h => by
    obtain ⟨x, y, z, p, rfl, hc, ha, hb⟩ := mt_ite h
    exact ⟨s_ite (mt_ok c fx hc).pt (mt_ok a fx ha).pe (mt_ok b fx hb).pe, PT.void fun _ => rfl, fun z => nomatch z⟩
  | .tup es, X, fx, e, h => by
    obtain ⟨xs, n, p, rfl, hs⟩ := mt_tup h
    exact .mk' (s_tup (mts_ok es fx hs).pa) rfl rfl rfl
  | .lst es, X, fx, e, h => by
    obtain ⟨xs, p, rfl, hs⟩ := mt_lst h
    exact .mk' (s_lst (mts_ok es fx hs).pa) rfl rfl rfl
  | .idx a i, X, fx, e, h => by
    obtain ⟨x, y, p, rfl, ha, hi⟩ := mt_idx h
    exact .mk' (s_idx (mt_ok a fx ha).pe (mt_ok i fx hi).pe (plE_of hi)) rfl rfl rfl
  | .slc a lo hi, X, fx, e, h => by
    obtain ⟨x, l, hh, p2, p, rfl, ha, hl, hu⟩ := mt_slc h
    refine .mk' (s_slc (mt_ok a fx ha).pe ?_ ?_) rfl rfl rfl
    · rcases hl with hl | ⟨hl, e, rfl, he⟩
      · exact .inl hl
      · exact .inr ⟨hl, e, rfl, (mt_ok lo fx he).pe⟩
    · rcases hu with hu | ⟨hu, e, rfl, he⟩
      · exact .inl hu
      · exact .inr ⟨hu, e, rfl, (mt_ok hi fx he).pe⟩
  | .no, X, fx, e, h => ⟨PE.void fun _ => rfl, PT.void fun _ => rfl, fun z => by
      cases e <;> simp [mt] at h⟩
  | .rev a, X, fx, e, h => by
    obtain ⟨x, n, p1, p2, p3, p, rfl, ha⟩ := mt_rev h
    exact .mk' (s_rev (mt_ok a fx ha).pe) rfl rfl rfl
  | .comp own el t it c, X, fx, e, h => by
    obtain ⟨x, tg, iter, ifs, scope, p, rfl, hk, hi, ht, hc, he, hl⟩ := mt_comp h
    refine .mk' (s_comp fx.calm (by rw [fx.hN]; exact fx.nd) (mtI_ok it fx hi) (blkOk_by (by rw [fx.hN]; exact hk)) (fun s H C cl fp => ?_) (fun s H C cl fp => ?_) (fun s H C cl fp => ?_) (tgt_sl ht) (plI_of hi)) rfl rfl rfl
    · exact s_tgt (X := X.blk s H scope (compEnvC scope cl C X.env) fp) fx.hN fx.nd fx.calm (loc_blk s H C cl fp) ht
    · exact (mts_ok c (fx.blk s H scope _ fp) hc).pts hl
    · exact (mt_ok el (fx.blk s H scope _ fp) he).pe
  | .comp2 own el t it c vs1 t1 it1 c1, X, fx, e, h => by
    obtain ⟨x, tg, iter, ifs, tg1, iter1, ifs1, scope, p, rfl, hk, hi, ht, hc, hi1, ht1, hc1, he, hl, hl1⟩ := mt_comp2 h
    have body := fun (hv : ∀ i ∈ vs1, i ∈ own.map (·.2)) => s_comp2 (pos := p) fx.calm (by rw [fx.hN]; exact fx.nd) (mtI_ok it fx hi) (blkOk_by (by rw [fx.hN]; exact hk)) hv (fun s H C cl fp => s_tgt (X := X.blk s H scope (compEnvC scope cl C X.env) fp) fx.hN fx.nd fx.calm (loc_blk s H C cl fp) ht)
      (fun s H C cl fp => (mts_ok c (fx.blk s H scope _ fp) hc).pts hl) (fun s H C cl fp => mtI_ok it1 (fx.blk s H scope _ fp) hi1) (fun s H C cl fp => s_tgt (X := X.blk s H scope (compEnvC scope cl C X.env) fp) fx.hN fx.nd fx.calm (loc_blk s H C cl fp) ht1)
      (fun s H C cl fp => (mts_ok c1 (fx.blk s H scope _ fp) hc1).pts hl1) (fun s H C cl fp => (mt_ok el (fx.blk s H scope _ fp) he).pe) (tgt_sl ht) (tgt_sl ht1) (plI_of hi) (plI_of hi1)
    by_cases hv : ∀ i ∈ vs1, i ∈ own.map (·.2)
    · exact .mk' (body hv) rfl rfl rfl
    · refine .mk' (PE.void' fun S r S' e => hv ?_) rfl rfl rfl
      simp only [evB, mkV, Option.bind_eq_some_iff] at e
      obtain ⟨q, e1, e2⟩ := e
      split at e2
      · cases e2
      · rename_i hc
        simp only [Bool.or_eq_true, Bool.not_eq_true', not_or, Bool.not_eq_false, List.all_eq_true, List.any_eq_true, beq_iff_eq] at hc
        intro i hi
        obtain ⟨z, hz, rfl⟩ := hc.2 i hi
        exact List.mem_map.mpr ⟨z, hz, rfl⟩
  | .call f es, X, fx, e, h => by
    obtain ⟨x, p, y, ys, pos, rfl, h1, h2, h3, h4⟩ := mt_call h
    exact .mk' (s_call fx h1 h2 h3 (mts_pl h4) (mts_ok es fx h4).pa) rfl rfl rfl
  | .callIo f i es, X, fx, e, h => by
    obtain ⟨x, p, y, ys, pos, rfl, h1, h2, h3, h4, h5⟩ := mt_callIo h
    exact .mk' (s_callIo fx h1 h2 h3 h4 (mts_pl h5) (mts_ok es fx h5).pa) rfl rfl rfl
  | .blt b es, X, fx, e, h => by
    obtain ⟨p, y, ys, pos, rfl, h1, h2, h3, h4⟩ := mt_blt h
    exact .mk' (s_blt fx h1 h2 (mts_pl h4) (mts_ok es fx h4).pa) rfl rfl rfl
  | .lrng1 a, X, fx, e, h => by
    obtain ⟨p, p2, y, pos, pos2, rfl, h1, h2, ha⟩ := mt_lrng1 h
    exact .mk' (s_lrng1 fx h1 h2 (plE_of ha) (mt_ok a fx ha).pe) rfl rfl rfl
  | .lrng2 a b, X, fx, e, h => by
    obtain ⟨p, p2, y, z, pos, pos2, rfl, h1, h2, ha, hb⟩ := mt_lrng2 h
    exact .mk' (s_lrng2 fx h1 h2 (plE_of ha) (plE_of hb) (mt_ok a fx ha).pe (mt_ok b fx hb).pe) rfl rfl rfl
  | .isi a tup ts, X, fx, e, h => by
    obtain ⟨p, y, ty, pos, rfl, h1, ha, h2⟩ := mt_isi h
    rcases h2 with ⟨rfl, t, p2, rfl, rfl, h3, h4⟩ | ⟨rfl, xs, n, p2, rfl, h3, h4, h5, h6⟩
    · exact .mk' (s_isi1 fx h1 h3 h4 (plE_of ha) (mt_ok a fx ha).pe) rfl rfl rfl
    · exact .mk' (s_isi2 fx h1 h3 h5 h6 h4 (plE_of ha) (mt_ok a fx ha).pe) rfl rfl rfl
  | .pop0 i, X, fx, e, h => by
    obtain ⟨y, ap, pos, rfl, h1, h2⟩ := mt_pop0 h
    exact .mk' (s_pop0 fx h1 h2) rfl rfl rfl
  | .pop i a, X, fx, e, h => by
    obtain ⟨y, ap, x, pos, rfl, h1, ha, h2⟩ := mt_pop h
    exact .mk' (s_pop fx h1 (plE_of ha) h2 (mt_ok a fx ha).pe) rfl rfl rfl
  | .ixof a b, X, fx, e, h => by
    obtain ⟨y, ap, x, pos, rfl, h1, ha, hb, h2⟩ := mt_ixof h
    exact .mk' (s_ixof fx h1 (plE_of hb) h2 (mt_ok a fx ha).pe (mt_ok b fx hb).pe) rfl rfl rfl
  | .fz a, X, fx, e, h => by
    have h' : (mt tx N X.env.scope a e && tstB e && !boolE e) = true := by unfold mt at h; simp only [Bool.and_eq_true] at h ⊢; exact h.2
    simp only [Bool.and_eq_true, Bool.not_eq_true'] at h'
    exact .mk' (s_fz (mt_ok a fx h'.1.1).pe) h'.1.2 h'.2 rfl
  | .never, X, fx, e, h => ⟨PE.void fun _ => rfl, PT.void fun _ => rfl, fun z => PW.void fun _ => rfl⟩
theorem mts_ok : ∀ (m : Es) {X : Cx} (fx : Fx tx cf k N X) {es : List Expr}, mts tx N X.env.scope m es = true → Mz X cf m es
  | .nil, X, fx, [], h => ⟨s_anil, fun _ => ⟨fun pins s σ H Q I ⟨F, S, p, l, f, sr, r, S', e, k⟩ => pts_nil.run pins s σ H Q I (by cases e; exact k _ _ _ (.refl sr))⟩⟩
  | .nil, X, fx, _ :: _, h => by simp [mts] at h
  | .cons e es, X, fx, [], h => by simp [mts] at h
  | .cons m ms, X, fx, e :: es, h => by
    simp only [mts, Bool.and_eq_true] at h
    refine ⟨s_acons (mt_ok m fx h.1).pe (mts_ok ms fx h.2).pa (plE_of h.1), fun hl => ?_⟩
    cases es with
    | cons _ _ => simp at hl
    | nil =>
      cases ms with
      | cons _ _ => simp [mts] at h
      | nil =>
        have e1 : (Es.cons m .nil).pure = m.pure := by show (m.pure && true) = m.pure; simp
        rw [e1]
        exact pts_one (mt_ok m fx h.1).pt
theorem mtI_ok : ∀ (m : MI) {X : Cx} (fx : Fx tx cf k N X) {e tg : Expr}, mtI tx N X.env.scope m e tg = true → PI X tg e (tI X.K (evIB cf m) m.pure)
  | .ex a, X, fx, e, tg, h => by
    have h' : mt tx N X.env.scope a e = true := by unfold mtI at h; exact h
    exact i_ex (mt_ok a fx h').pe
  | .rng1 a, X, fx, e, tg, h => by
    obtain ⟨p, y, pos, rfl, h1, ha⟩ := mti_rng1 h
    exact i_rng1 fx h1 (plE_of ha) (mt_ok a fx ha).pe
  | .rng2 a b, X, fx, e, tg, h => by
    obtain ⟨p, y, z, pos, rfl, h1, ha, hb⟩ := mti_rng2 h
    exact i_rng2 fx h1 (plE_of ha) (plE_of hb) (mt_ok a fx ha).pe (mt_ok b fx hb).pe
  | .enum a, X, fx, e, tg, h => by
    obtain ⟨p, y, pos, rfl, h1, ha, h2⟩ := mti_enum h
    exact i_enum fx h1 h2 (plE_of ha) (mt_ok a fx ha).pe
  | .zip a b, X, fx, e, tg, h => by
    obtain ⟨p, y, z, pos, rfl, h1, ha, hb, h2⟩ := mti_zip h
    exact i_zip fx h1 h2 (plE_of ha) (plE_of hb) (mt_ok a fx ha).pe (mt_ok b fx hb).pe
  | .never, X, fx, e, tg, h => PI.void fun _ => rfl
end
end
end Mi
/-! Statements: how they stand to the text, a list changed in place. -/
namespace Mi
open PySem PySem.Spec L2
section
variable {X : Cx} {K : PySem.W.Frag} {F F' F1 F2 H H' H1 H2 : Hp} {σ σ1 : L2.St} {p : Addr} {l f f1 g : List Addr} {S S1 S' : Sta} {pu : Bool}
theorem crs_at : ∀ {cs : List Cell} {vs : List V} {fo : List Addr} {n : Nat} {c : Cell}, CRs K F H vs cs fo → cs[n]? = some c → ∃ v g1 g0 g2, vs[n]? = some v ∧ fo = g1 ++ (g0 ++ g2) ∧ CR K F H v c g0 ∧
    ∀ F' H' v' c' g', Same F F' → (∀ x ∈ g1 ++ g2, ∀ o, H x = some o → H' x = some o) → (∀ x ∈ g1 ++ g2, F' x = none) → CR K F' H' v' c' g' → CRs K F' H' (vs.set n v') (cs.set n c') (g1 ++ (g' ++ g2))
  | [], _, _, _, _, h, e => by simp at e
  | x :: cs, _, _, 0, c, h, e => by
    cases h with
    | @cons v vs _ _ f g h1 h2 =>
      simp at e; subst e
      exact ⟨v, [], f, g, rfl, rfl, h1, fun F' H' v' c' g' ff k n q => (show CRs K F' H' (v' :: vs) (c' :: cs) (g' ++ g) from .cons q (CRs.mono ff h2 (fun a ha => k a (by simpa using ha)) fun a ha => n a (by simpa using ha)))⟩
  | x :: cs, _, _, j + 1, c, h, e => by
    cases h with
    | @cons v vs _ _ f g h1 h2 =>
      obtain ⟨v', g1, g0, g2, a, b, q1, q2⟩ := crs_at h2 (n := j) (by simpa using e)
      subst b
      refine ⟨v', f ++ g1, g0, g2, by simpa using a, by simp, q1, fun F' H' v2 c2 g' ff k n q => ?_⟩
      have i1 := q2 F' H' v2 c2 g' ff (fun a ha => k a (by rcases List.mem_append.mp ha with z | z <;> simp [z])) (fun a ha => n a (by rcases List.mem_append.mp ha with z | z <;> simp [z])) q
      have i2 := CR.mono ff h1 (fun a ha => k a (by simp [ha])) fun a ha => n a (by simp [ha])
      have := CRs.cons i2 i1
      simpa using this
/-- where a path's list lies -/
def AtP (σ : L2.St) (H : Hp) (a : Addr) : Pth → Prop
  | .sl i => σ[i]? = some (some (.ref a))
  | .at i m => ∃ a0 us, σ[i]? = some (some (.ref a0)) ∧ H a0 = some (.lst us) ∧ atI us m = some (.ref a)
theorem nd_sl {l f1 f2 fo fo' g : List Addr} {a : Addr} (nd : (l ++ ((f1 ++ ((a :: fo) ++ f2)) ++ g)).Nodup) (h : fo'.Nodup) (m : ∀ x ∈ fo', x ∈ fo ∨ x ∈ g) : (l ++ (f1 ++ ((a :: fo') ++ f2))).Nodup := by
  simp only [List.nodup_append, List.mem_append, List.nodup_cons, List.cons_append, List.mem_cons] at nd ⊢
  grind
theorem nd_at {l f1 f2 g1 g2 fo fo' g : List Addr} {a b : Addr} (nd : (l ++ ((f1 ++ ((a :: (g1 ++ ((b :: fo) ++ g2))) ++ f2)) ++ g)).Nodup) (h : fo'.Nodup) (m : ∀ x ∈ fo', x ∈ fo ∨ x ∈ g) : (l ++ (f1 ++ ((a :: (g1 ++ ((b :: fo') ++ g2))) ++ f2))).Nodup := by
  simp only [List.nodup_append, List.mem_append, List.nodup_cons, List.cons_append, List.mem_cons] at nd ⊢
  grind
theorem up_focus {pth : Pth} {fl : List Cell → Option (List Cell)} (sr : SR K F H σ S p l f) (e : upP pth S fl = some S') (nd : (l ++ (f ++ g)).Nodup) :
    ∃ a vs cs cs' fo, AtP σ H a pth ∧ H a = some (.lst vs) ∧ F a = none ∧ a ∈ l ++ f ∧ a ∉ fo ∧ CRs K F H vs cs fo ∧ fl cs = some cs' ∧ (fo ++ g).Nodup ∧
      ∀ vs' fo', CRs K F (upd H a (.lst vs')) vs' cs' fo' → fo'.Nodup → (∀ x ∈ fo', x ∈ fo ∨ x ∈ g) → ∃ f', SR K F (upd H a (.lst vs')) σ S' p l f' ∧ ∀ x ∈ f', x ∈ f ∨ x ∈ g := by
  cases pth with
  | sl i =>
    unfold upP at e
    dsimp only at e
    split at e
    · rename_i cs hd
      simp only [Option.map_eq_some_iff] at e
      obtain ⟨cs', e, rfl⟩ := e
      obtain ⟨o, f1, go, f2, a, rfl, c1, put⟩ := sr.er.at hd
      cases c1 with
      | c c1 =>
      cases c1 with
      | @ow p0 us _ fo i1 i2 i3 =>
      have inF : ∀ x ∈ f1 ++ f2, x ≠ p0 := fun x hx z => by
        subst z
        simp only [List.nodup_append, List.mem_append, List.mem_cons, List.cons_append, List.nodup_cons] at nd hx
        grind
      have nfo : p0 ∉ fo := fun z => by
        simp only [List.nodup_append, List.mem_append, List.mem_cons, List.cons_append, List.nodup_cons] at nd
        grind
      have ln : ∀ x ∈ l, x ≠ p0 := fun x hx z => by
        subst z
        simp only [List.nodup_append, List.mem_append, List.nodup_cons, List.cons_append, List.mem_cons] at nd
        grind
      have ndfg : (fo ++ g).Nodup := by
        simp only [List.nodup_append, List.mem_append, List.nodup_cons, List.cons_append, List.mem_cons] at nd ⊢
        grind
      refine ⟨p0, us, cs, cs', fo, a, i2, i1, by simp, nfo, i3, e, ndfg, fun vs' fo' cr nd' m => ?_⟩
      have up : ∀ x o, x ≠ p0 → H x = some o → upd H p0 (.lst vs') x = some o := fun x o n h => by rw [upd_ne n]; exact h
      have er := put F (upd H p0 (.lst vs')) (some (.ref p0)) (.c (.ow cs')) (p0 :: fo') (fun _ _ h => h) (fun x hx o h => up x o (inF x hx) h) (fun x hx => (sr.er.own x (by rcases List.mem_append.mp hx with z | z <;> simp [z])).1) (.c (.ow i1 upd_same cr))
      rw [set_id a] at er
      refine ⟨_, ⟨fun x o h => up x o (fun z => by subst z; rw [i1] at h; cases h) (sr.sub x o h), er, sr.ior.mono (fun _ _ h => h) fun x hx o h => ⟨up x o (ln x hx) h, fun n => n⟩, nd_sl nd nd' m⟩, fun x hx => ?_⟩
      simp only [List.mem_append, List.mem_cons, List.cons_append] at hx ⊢
      rcases hx with z | z | z | z
      · simp [z]
      · simp [z]
      · rcases m x z with z | z <;> simp [z]
      · simp [z]
    · rename_i hd
      cases hio : S.io with
      | none => rw [hio] at e; cases e
      | some u =>
      rw [hio] at e
      have e : ((fl (u.map .im)).bind fun cs' => (Cell.ims cs').map fun u' => (⟨S.ρ, some u'⟩ : Sta)) = some S' := e
      simp only [Option.bind_eq_some_iff, Option.map_eq_some_iff] at e
      obtain ⟨cs', e1, u', e2, rfl⟩ := e
      obtain ⟨o, f1, go, f2, a, rfl, c1, put⟩ := sr.er.at hd
      have io := sr.ior
      rw [hio] at io
      obtain ⟨rfl, hp, vs, h1, h2⟩ := io
      cases c1
      have inF : ∀ x ∈ f1 ++ ([] ++ f2), x ≠ p := fun x hx z => by
        subst z
        have := sr.nd
        rw [List.nodup_append] at this
        exact this.2.2 x (by simp) x hx rfl
      have ndg : ([] ++ g).Nodup := by
        rw [List.nodup_append] at nd
        have := nd.2.1
        rw [List.nodup_append] at this
        simpa using this.2.1
      refine ⟨p, vs, _, cs', [], a, h1, hp, by simp, by simp, CRs.ofIms h2, e1, ndg, fun vs' fo' cr nd' m => ?_⟩
      obtain ⟨r1, rfl⟩ := CRs.ims cr e2
      have up : ∀ x o, x ≠ p → H x = some o → upd H p (.lst vs') x = some o := fun x o n h => by rw [upd_ne n]; exact h
      refine ⟨f1 ++ ([] ++ f2), ⟨fun x o h => up x o (fun z => by subst z; rw [hp] at h; cases h) (sr.sub x o h), sr.er.mono (fun _ _ h => h) (fun x hx o h => up x o (inF x hx) h) (fun x hx => (sr.er.own x hx).1), ⟨rfl, hp, vs', upd_same, r1⟩, sr.nd⟩, fun x hx => .inl hx⟩
    · cases e
  | «at» i k =>
    unfold upP at e
    dsimp only at e
    split at e
    · rename_i cs hd
      simp only [Option.bind_eq_some_iff] at e
      obtain ⟨n, en, e⟩ := e
      split at e
      · rename_i xs hn
        simp only [Option.map_eq_some_iff] at e
        obtain ⟨xs', e, rfl⟩ := e
        obtain ⟨o, f1, go, f2, a, rfl, c1, put⟩ := sr.er.at hd
        cases c1 with
        | c c1 =>
        cases c1 with
        | @ow p0 us _ fo0 i1 i2 i3 =>
        obtain ⟨v, g1, g0, g2, hv, rfl, q1, q2⟩ := crs_at i3 hn
        cases q1 with
        | @ow b ws _ fo j1 j2 j3 =>
        have inF : ∀ x ∈ f1 ++ f2, x ≠ b := fun x hx z => by
          subst z
          simp only [List.nodup_append, List.mem_append, List.mem_cons, List.cons_append, List.nodup_cons] at nd hx
          grind
        have inG : ∀ x ∈ g1 ++ g2, x ≠ b := fun x hx z => by
          subst z
          simp only [List.nodup_append, List.mem_append, List.mem_cons, List.cons_append, List.nodup_cons] at nd hx
          grind
        have nab : p0 ≠ b := fun z => by
          subst z
          simp only [List.nodup_append, List.mem_append, List.mem_cons, List.cons_append, List.nodup_cons] at nd
          grind
        have nfo : b ∉ fo := fun z => by
          simp only [List.nodup_append, List.mem_append, List.mem_cons, List.cons_append, List.nodup_cons] at nd
          grind
        have ln : ∀ x ∈ l, x ≠ b := fun x hx z => by
          subst z
          simp only [List.nodup_append, List.mem_append, List.nodup_cons, List.cons_append, List.mem_cons] at nd
          grind
        have ndfg : (fo ++ g).Nodup := by
          simp only [List.nodup_append, List.mem_append, List.nodup_cons, List.cons_append, List.mem_cons] at nd ⊢
          grind
        have at1 : atI us k = some (.ref b) := by
          unfold atI
          rw [i3.len, en]
          exact hv
        refine ⟨b, ws, xs, xs', fo, ⟨p0, us, a, i2, at1⟩, j2, j1, by simp, nfo, j3, e, ndfg, fun vs' fo' cr nd' m => ?_⟩
        have up : ∀ x o, x ≠ b → H x = some o → upd H b (.lst vs') x = some o := fun x o n h => by rw [upd_ne n]; exact h
        have in0 : CRs K F (upd H b (.lst vs')) (us.set n (.ref b)) (cs.set n (.ow xs')) (g1 ++ ((b :: fo') ++ g2)) := q2 F (upd H b (.lst vs')) (.ref b) (.ow xs') (b :: fo') (fun _ _ h => h) (fun x hx o h => up x o (inG x hx) h) (fun x hx => (CRs.own i3 x (by rcases List.mem_append.mp hx with z | z <;> simp [z])).1) (.ow j1 upd_same cr)
        have us_id : us.set n (.ref b) = us := List.ext_getElem? fun j => by
          rw [List.getElem?_set]
          split
          · rename_i hj
            subst hj
            split
            · exact hv.symm
            · rename_i hz
              rw [List.getElem?_eq_none (by omega)]
          · rfl
        rw [us_id] at in0
        have er := put F (upd H b (.lst vs')) (some (.ref p0)) (.c (.ow (cs.set n (.ow xs')))) (p0 :: (g1 ++ ((b :: fo') ++ g2))) (fun _ _ h => h) (fun x hx o h => up x o (inF x hx) h) (fun x hx => (sr.er.own x (by rcases List.mem_append.mp hx with z | z <;> simp [z])).1) (.c (.ow i1 (up p0 _ nab i2) in0))
        rw [set_id a] at er
        refine ⟨_, ⟨fun x o h => up x o (fun z => by subst z; rw [j1] at h; cases h) (sr.sub x o h), er, sr.ior.mono (fun _ _ h => h) fun x hx o h => ⟨up x o (ln x hx) h, fun n => n⟩, nd_at nd nd' m⟩, fun x hx => ?_⟩
        simp only [List.mem_append, List.mem_cons, List.cons_append] at hx ⊢
        rcases hx with z | z | (z | z | z | z) | z
        · simp [z]
        · simp [z]
        · simp [z]
        · simp [z]
        · rcases m x z with z | z <;> simp [z]
        · simp [z]
        · simp [z]
      · cases e
    · cases e
theorem Go.lsub {g : List Addr} {pu : Bool} (a : Go K σ p l F H S f pu F1 H1 σ1 S1 f1 g) {q : Addr} (h : q ∈ l ++ f1) : q ∈ mus false l f ∨ H q = none := by
  unfold mus
  rw [if_neg (by simp)]
  rcases List.mem_append.mp h with z | z
  · exact .inl (List.mem_append_left _ z)
  · rcases a.nw q (List.mem_append_left _ z) with y | y
    · exact .inl (List.mem_append_right _ y)
    · exact .inr y
theorem Go.none_of {g : List Addr} {pu : Bool} (a : Go K σ p l F H S f pu F1 H1 σ1 S1 f1 g) {q : Addr} (h : q ∈ f1 ++ g) : q ∈ f ∨ H q = none := a.nw q h
/-- .. as one step -/
theorem up_go {pth : Pth} {fl : List Cell → Option (List Cell)} (go : Go K σ p l F H S f pu F1 H1 σ S1 f1 g) (e : upP pth S1 fl = some S') :
    ∃ a vs cs cs' fo, AtP σ H1 a pth ∧ H1 a = some (.lst vs) ∧ a ∉ fo ∧ CRs K F1 H1 vs cs fo ∧ fl cs = some cs' ∧ (fo ++ g).Nodup ∧ a ∉ g ∧
      ∀ vs' fo', CRs K F1 (upd H1 a (.lst vs')) vs' cs' fo' → fo'.Nodup → (∀ x ∈ fo', x ∈ fo ∨ x ∈ g) → ∃ f', Go K σ p l F H S f false F1 (upd H1 a (.lst vs')) σ S' f' [] := by
  obtain ⟨a, vs, cs, cs', fo, h1, h2, h3, h4, h5, h6, h7, h8, k⟩ := up_focus go.sr e go.nd
  refine ⟨a, vs, cs, cs', fo, h1, h2, h5, h6, h7, h8, fun z => ?_, fun vs' fo' cr nd m => ?_⟩
  · have nd := go.nd
    rw [← List.append_assoc, List.nodup_append] at nd
    exact nd.2.2 a h4 a z rfl
  · obtain ⟨f', sr, hf⟩ := k vs' fo' cr nd m
    have st : Stp F1 H1 F1 (upd H1 a (.lst vs')) [a] := ⟨fun _ _ h => h, fun x o h n => by rw [upd_ne (by simpa using n)]; exact h, fun _ _ _ h _ => h⟩
    refine ⟨f', ⟨go.unpure.st.trans st fun x hx => ?_, sr, by simpa using sr.nd, fun x hx => ?_, fun h => by cases h⟩⟩
    · have : x = a := by simpa using hx
      subst this
      exact go.lsub h4
    · have hx : x ∈ f' := by simpa using hx
      rcases hf x hx with z | z
      · exact go.nw x (List.mem_append_left _ z)
      · exact go.nw x (List.mem_append_right _ z)
/-- xs[k] = v in a list's cells -/
theorem crs_set {cs : List Cell} {vs : List V} {fo : List Addr} {n : Nat} {v : V} {c : Cell} {a : Addr} {o : HO} (h : CRs K F H vs cs fo) (hn : n < cs.length) (cr : CR K F H v c g) (ha : a ∉ fo) (hg : a ∉ g) (nd : (fo ++ g).Nodup) :
    ∃ fo', CRs K F (upd H a o) (vs.set n v) (cs.set n c) fo' ∧ fo'.Nodup ∧ ∀ x ∈ fo', x ∈ fo ∨ x ∈ g := by
  obtain ⟨v0, g1, g0, g2, h1, rfl, q1, q2⟩ := crs_at h (List.getElem?_eq_getElem hn)
  have up : ∀ x, x ≠ a → ∀ o', H x = some o' → upd H a o x = some o' := fun x n o' h => by rw [upd_ne n]; exact h
  refine ⟨_, q2 F (upd H a o) v c g (fun _ _ h => h) (fun x hx => up x fun z => ?_) (fun x hx => (CRs.own h x (by rcases List.mem_append.mp hx with z | z <;> simp [z])).1) (CR.mono (fun _ _ h => h) cr (fun x hx => up x fun z => hg (z ▸ hx)) fun x hx => (CR.own cr x hx).1), ?_, fun x hx => ?_⟩
  · subst z
    exact ha (by rcases List.mem_append.mp hx with z | z <;> simp [z])
  · simp only [List.nodup_append, List.mem_append] at nd ⊢
    grind
  · simp only [List.mem_append] at hx ⊢
    grind
/-- xs.append(v) -/
theorem crs_push {cs : List Cell} {vs : List V} {fo : List Addr} {v : V} {c : Cell} {a : Addr} {o : HO} (h : CRs K F H vs cs fo) (cr : CR K F H v c g) (ha : a ∉ fo) (hg : a ∉ g) (nd : (fo ++ g).Nodup) :
    ∃ fo', CRs K F (upd H a o) (vs ++ [v]) (cs ++ [c]) fo' ∧ fo'.Nodup ∧ ∀ x ∈ fo', x ∈ fo ∨ x ∈ g := by
  have up : ∀ x, x ≠ a → ∀ o', H x = some o' → upd H a o x = some o' := fun x n o' h => by rw [upd_ne n]; exact h
  have h1 := CRs.mono (F' := F) (H' := upd H a o) (fun _ _ h => h) h (fun x hx => up x fun z => ha (z ▸ hx)) fun x hx => (CRs.own h x hx).1
  have h2 := CR.mono (F' := F) (H' := upd H a o) (fun _ _ h => h) cr (fun x hx => up x fun z => hg (z ▸ hx)) fun x hx => (CR.own cr x hx).1
  refine ⟨fo ++ (g ++ []), CRs.app h1 (.cons h2 .nil), by simpa using nd, fun x hx => by simpa using hx⟩
theorem ixN_lt {n : Nat} {i : Int} {j : Nat} (h : ixN n i = some j) : j < n := by
  unfold ixN at h
  split at h
  · split at h
    · cases h; omega
    · cases h
  · split at h
    · cases h; omega
    · cases h
/-- a value into a slot -/
theorem Go.put {v : V} {c : Cell} {i : Nat} (go : Go K σ p l F H S f pu F1 H1 σ1 S1 f1 g) (cr : CR K F1 H1 v c g) : ∃ f', Go K σ p l F H S f false F1 H1 (σ1.set i (some v)) ⟨S1.ρ.set i (.c c), S1.io⟩ f' [] := by
  obtain ⟨f', sr, hf⟩ := go.sr.put cr go.nd
  refine ⟨f', ⟨go.unpure.st, sr, by simpa using sr.nd, fun x hx => ?_, fun h => by cases h⟩⟩
  have hx : x ∈ f' := by simpa using hx
  rcases hf x hx with z | z
  · exact go.nw x (List.mem_append_left _ z)
  · exact go.nw x (List.mem_append_right _ z)
/-- slots forgotten -/
theorem kill_sr : ∀ (is : List Nat) {S : Sta} {f : List Addr}, SR K F H σ S p l f → ∃ f', SR K F H σ ⟨killS S.ρ is, S.io⟩ p l f' ∧ f'.Sublist f
  | [], S, f, sr => ⟨f, ⟨sr.sub, sr.er, sr.ior, sr.nd⟩, .refl _⟩
  | i :: is, S, f, sr => by
    have one : ∃ f', SR K F H σ ⟨S.ρ.set i .no, S.io⟩ p l f' ∧ f'.Sublist f := by
      by_cases hi : i < S.ρ.length
      · obtain ⟨o, f1, go, f2, a, rfl, c1, put⟩ := sr.er.at (List.getElem?_eq_getElem hi)
        have er := put F H o .no [] (fun _ _ h => h) (fun _ _ _ h => h) (fun x hx => (sr.er.own x (by rcases List.mem_append.mp hx with z | z <;> simp [z])).1) .no
        rw [set_id a] at er
        have sl : (f1 ++ ([] ++ f2)).Sublist (f1 ++ (go ++ f2)) := (List.Sublist.refl _).append ((List.nil_sublist _).append (List.Sublist.refl _))
        exact ⟨_, ⟨sr.sub, er, sr.ior, sr.nd.sublist ((List.Sublist.refl l).append sl)⟩, sl⟩
      · rw [List.set_eq_of_length_le (by omega)]
        exact ⟨f, ⟨sr.sub, sr.er, sr.ior, sr.nd⟩, .refl _⟩
    obtain ⟨f1, sr1, s1⟩ := one
    obtain ⟨f2, sr2, s2⟩ := kill_sr is sr1
    exact ⟨f2, sr2, s2.trans s1⟩
/-- how a run ends -/
def fin (K : PySem.W.Frag) (σ : L2.St) (p : Addr) (l : List Addr) (F H : Hp) (S : Sta) (f : List Addr) (D : Ends) : Out → Prop
  | .nx S' => ∀ F' H' σ' f', Go K σ p l F H S f false F' H' σ' S' f' [] → D.nx σ' H'
  | .bk S' => ∀ F' H' σ' f', Go K σ p l F H S f false F' H' σ' S' f' [] → D.bk σ' H'
  | .ct S' => ∀ F' H' σ' f', Go K σ p l F H S f false F' H' σ' S' f' [] → D.ct σ' H'
  | .rt c S' => ∀ v F' H' σ' f' g, Go K σ p l F H S f false F' H' σ' S' f' g → CR K F' H' v c g → D.rt v H'
def tS (K : PySem.W.Frag) (t : Sta → Option Out) : TS := fun D σ H => ∃ F S p l f, SR K F H σ S p l f ∧ ∃ o, t S = some o ∧ fin K σ p l F H S f D o
theorem fin.mid {D : Ends} {o : Out} (h : fin K σ p l F H S f D o) (a : Go K σ p l F H S f pu F1 H1 σ1 S1 f1 []) : fin K σ1 p l F1 H1 S1 f1 D o := by
  have a' := a.unpure
  cases o with
  | nx S' => intro F' H' σ' f' b; exact h _ _ _ _ (by have := (a'.trans b fun _ z => nomatch z).1; simpa using this)
  | bk S' => intro F' H' σ' f' b; exact h _ _ _ _ (by have := (a'.trans b fun _ z => nomatch z).1; simpa using this)
  | ct S' => intro F' H' σ' f' b; exact h _ _ _ _ (by have := (a'.trans b fun _ z => nomatch z).1; simpa using this)
  | rt c S' => intro v F' H' σ' f' g b cr; exact h _ _ _ _ _ _ (by have := (a'.trans b fun _ z => nomatch z).1; simpa using this) cr
theorem _root_.L2.PS.imp {st : Stmt} {t t' : TS} (h : PS X st t) (i : ∀ D σ H, t' D σ H → t D σ H) : PS X st t' := ⟨fun pins s σ H D I q => h.run pins s σ H D I (i D σ H q)⟩
theorem _root_.L2.PSs.imp {st : List Stmt} {t t' : TS} (h : PSs X st t) (i : ∀ D σ H, t' D σ H → t D σ H) : PSs X st t' := ⟨fun pins s σ H D I q => h.run pins s σ H D I (i D σ H q)⟩
end
end Mi
/-! Statements stand to their text. -/
namespace Mi
open PySem PySem.Spec L2
def isLc : Expr → Bool
  | .ListComp .. => true | _ => false
/-- a comprehension that is stored at once -/
def swB (sc : Scope) (x : Str) (px : Pos) : Expr → Bool
  | .ListComp _ _ scope pos => match sc.names.lookup x with
    | some .local => (px.line == pos.line) && !(scope.names.any fun (n, k) => n == x && (k == .local || k == .cell))
    | _ => true
  | _ => true
def isLoc (sc : Scope) (x : Str) : Bool := match sc.names.lookup x with | some .local => true | _ => false
def isNone {α : Type} : Option α → Bool
  | none => true | _ => false
/-- the names a stored tuple swaps -/
def swNames (sc : Scope) (ts : List Expr) : List Str := ts.filterMap fun x => match x with
  | .Name id pos => if (sc.names.lookup id == some NameKind.local && pos.line == ((ts.head?.map fun x => x.pos.line).getD 0)) = true then some id else none
  | _ => none
/-- it stores without a swap -/
def noSw (sc : Scope) (ts vs : List Expr) : Bool :=
  !(ts.length == 2 || ts.length == 3) || vs.length != ts.length || (vs.any fun x => match x with | .Starred .. => true | _ => false) || (swNames sc ts).length != ts.length || (swNames sc ts).eraseDups.length != (swNames sc ts).length || vs.all (foldedForSure 8)
def nmAt (N : List Str) (sc : Scope) (line : Nat) : Nat → Expr → Bool
  | i, .Name x px => decide (N[i]? = some x) && isLoc sc x && nmB x && (px.line == line)
  | _, _ => false
/-- names, each into its slot -/
def nms (N : List Str) (sc : Scope) : List Nat → List Expr → Bool
  | [], [] => true
  | i :: is, .Name x _ :: xs => decide (N[i]? = some x) && lcB sc x && nmB x && nms N sc is xs
  | _, _ => false
mutual
def mtS (tx : Txt) (N : List Str) (sc : Scope) : MS → Stmt → Bool
  | .asg (.nm i) e, .Assign [.Name x px] v _ => decide (N[i]? = some x) && lcB sc x && nmB x && mt tx N sc e v && swB sc x px v && (e.noFz || !isLc v)
  | .asg (.tp ts) e, .Assign [.Tuple xs kk pp] v _ => tgt N sc none (.tp ts) (.Tuple xs kk pp) && mt tx N sc e v && (match v with | .Tuple vs _ _ => noSw sc xs vs | _ => true)
  | .par [i, j] es, .Assign [.Tuple [.Name x px, .Name y py] _ _] (.Tuple [a, b] _ _) _ => decide (N[i]? = some x) && decide (N[j]? = some y) && decide (i ≠ j) && isLoc sc x && isLoc sc y && (px.line == py.line) && !([a, b].all (foldedForSure 8)) && !([a, b].all (constantsAlone 8)) && mts tx N sc es [a, b]
  | .par [i, j, m] es, .Assign [.Tuple [.Name x px, .Name y py, .Name z pz] _ _] (.Tuple [a, b, c] _ _) _ => decide (N[i]? = some x) && decide (N[j]? = some y) && decide (N[m]? = some z) && decide (i ≠ j) && decide (i ≠ m) && decide (j ≠ m) && isLoc sc x && isLoc sc y && isLoc sc z && (px.line == py.line) && (px.line == pz.line) && !([a, b, c].all (foldedForSure 8)) && !([a, b, c].all (constantsAlone 8)) && mts tx N sc es [a, b, c]
  | .parT is es, .Assign [.Tuple xs _ _] (.Tuple vs _ _) _ => nms N sc is xs && noSw sc xs vs && mts tx N sc es vs
  | .set1 i j e, .Assign [.Subscript o y _] v _ => nm1 N sc i o && mt tx N sc j y && mt tx N sc e v
  | .set2 i a j e, .Assign [.Subscript (.Subscript o z _) y _] v _ => nm1 N sc i o && mt tx N sc a z && mt tx N sc j y && mt tx N sc e v
  | .app1 i e, .Expr (.Call (.Attribute o m ap) [v] [] cp) _ => decide (m = "append") && nm1 N sc i o && mt tx N sc e v && (ap.endLine == cp.line)
  | .app2 i a e, .Expr (.Call (.Attribute (.Subscript o z _) m ap) [v] [] cp) _ => decide (m = "append") && nm1 N sc i o && mt tx N sc a z && mt tx N sc e v && (ap.endLine == cp.line)
  | .aug i op e, .AugAssign (.Name x _) o v _ => decide (N[i]? = some x) && lcB sc x && nmB x && decide (op = o) && mt tx N sc e v
  | .ife c t e, .If cc tt ee _ => mt tx N sc c cc && mtSs tx N sc t tt && mtSs tx N sc e ee
  | .loop t it b, .For tg iter body [] _ => mtI tx N sc it iter tg && tgt N sc none t tg && mtSs tx N sc b body
  | .loopV t i b, .For tg iter body [] _ => nm1 N sc i iter && tgt N sc none t tg && mtSs tx N sc b body
  | .ret e, .Return (some v) _ => mt tx N sc e v
  | .retN, .Return v _ => isNone v
  | .brk, .Break _ => true
  | .cont, .Continue _ => true
  | .pass, .Pass _ => true
  | .pass, .Expr (.Constant (.str _) _ _) _ => true
  | .ex e, .Expr v _ => mt tx N sc e v && !isLc v
  | .never, _ => true
  | _, _ => false
def mtSs (tx : Txt) (N : List Str) (sc : Scope) : MSs → List Stmt → Bool
  | .nil, [] => true
  | .cons s ss, t :: ts => mtS tx N sc s t && mtSs tx N sc ss ts
  | .kill _ ss, ts => mtSs tx N sc ss ts
  | .frz _ ss, ts => mtSs tx N sc ss ts
  | _, _ => false
end
section
variable {X : Cx} {K : PySem.W.Frag} {F F' F1 F2 H H' H1 H2 : Hp} {σ σ1 : L2.St} {p : Addr} {l f f1 g : List Addr} {S S1 S' : Sta} {pu pa pb : Bool} {tx : Txt} {cf : CF} {k : Nat} {N : List Str}
variable {ta tb tj : Sta → Option (R × Sta)} {ts : Sta → Option (List R × Sta)} {D : Ends}
/-- what statements need of their place -/
structure SX (tx : Txt) (cf : CF) (k : Nat) (N : List Str) (X : Cx) : Prop where
  fx : Fx tx cf k N X
  fn : X.fn = fun _ => true
  kd : X.env.scope.kind = .function
  own : PassesOwn (model X.prog X.w) X.A X.env X.xe
theorem PS.void {st : Stmt} {t : Sta → Option Out} (h : ∀ S, t S = none) : PS X st (tS X.K t) :=
  ps_never.imp fun D σ H ⟨F, S, p, l, f, sr, o, e, k⟩ => by rw [h] at e; cases e
theorem SX.loc (sx : SX tx cf k N X) {x : Str} (h : lcB X.env.scope x = true) : Loc X.env.scope x ∧ (X.fn x = true ∨ X.env.scope.names.lookup x = some .local) :=
  ⟨lc_name h, .inl (by rw [sx.fn])⟩
/-- x = e -/
theorem k_asg {i : Nat} (h : tS K (fun S => (ta S).bind fun p => match p.1 with
    | .own c => (some (p.2.ρ.set i (.c c))).map fun ρ => .nx ⟨ρ, p.2.io⟩
    | .bor _ => none) D σ H) : tE K ta pa σ H fun x H1 => gName i x σ H1 D.nx := by
  obtain ⟨F, S, p, l, f, sr, o, e, k⟩ := h
  simp only [Option.bind_eq_some_iff] at e
  obtain ⟨⟨r, S1⟩, e1, e2⟩ := e
  refine ⟨F, S, p, l, f, sr, r, S1, e1, fun v F1 H1 f1 g go rr => ?_⟩
  dsimp only at e2
  cases r with
  | bor c => cases e2
  | own c =>
    cases e2
    obtain ⟨f', go'⟩ := go.put (i := i) rr
    exact k _ _ _ _ go'
theorem s_asg (sx : SX tx cf k N X) {i : Nat} {x : Str} {px pos : Pos} {v : Expr} (hi : N[i]? = some x) (hx : lcB X.env.scope x = true) (sw : swapsWith v (some (.Name x px)) pos.line X.env = pure false) (hv : PE X v (tE X.K ta pa)) :
    PS X (.Assign [.Name x px] v pos) (tS X.K fun S => (ta S).bind fun p => match p.1 with
    | .own c => (some (p.2.ρ.set i (.c c))).map fun ρ => .nx ⟨ρ, p.2.io⟩
    | .bor _ => none) :=
  (ps_set (by rw [sx.fx.hN]; exact sx.fx.nd) (by rw [sx.fx.hN]; exact hi) (sx.loc hx).1 hv sw (sx.loc hx).2).imp fun D σ H h => k_asg h
/-- (x, y) = e -/
theorem s_asgT (sx : SX tx cf k N X) {t : MT} {xs : List Expr} {kk : Nat} {pp pos : Pos} {v : Expr} (ht : tgt N X.env.scope none t (.Tuple xs kk pp) = true) (sw : swappedStores [.Tuple xs kk pp] v X.env = pure none) (hv : PE X v (tE X.K ta pa)) :
    PS X (.Assign [.Tuple xs kk pp] v pos) (tS X.K fun S => (ta S).bind fun p => match p.1 with
    | .own c => (bindT t c.frz p.2.ρ).map fun ρ => .nx ⟨ρ, p.2.io⟩
    | .bor _ => none) := by
  refine (ps_asg hv (s_tgt sx.fx.hN sx.fx.nd sx.fx.calm (fun x h => sx.loc h) ht) (by cases v <;> rfl) sw rfl).imp fun D σ H ⟨F, S, p, l, f, sr, o, e, k⟩ => ?_
  simp only [Option.bind_eq_some_iff] at e
  obtain ⟨⟨r, S1⟩, e1, e2⟩ := e
  refine ⟨F, S, p, l, f, sr, r, S1, e1, fun v F1 H1 f1 g go rr => ?_⟩
  dsimp only at e2
  cases r with
  | bor c => cases e2
  | own c =>
    simp only [Option.map_eq_some_iff] at e2
    obtain ⟨ρ1, e2, e3⟩ := e2
    cases e3
    have cr : CR X.K F1 H1 v c g := rr
    have go2 := go.freeze fun x hx => (CR.own cr x hx).1
    refine ⟨_, S1, p, l, f1, _, ρ1, go2.sr, CR.rp (fun x hx => (CR.own cr x hx).1) cr fun _ h => h, e2, fun σ1 f2 sr2 hf _ _ => ?_⟩
    refine k _ _ _ f2 ⟨go2.unpure.st, sr2, by simpa using sr2.nd, fun x hx => ?_, fun h => by cases h⟩
    exact go2.nw x (List.mem_append_left _ (hf x (by simpa using hx)))
theorem ne_of_slots {i j : Nat} {x y : Str} (nd : N.Nodup) (hi : N[i]? = some x) (hj : N[j]? = some y) (h : i ≠ j) : x ≠ y := fun e => by
  subst e
  have := (List.getElem?_inj (List.getElem?_eq_some_iff.mp hi).1 nd).mp (hi.trans hj.symm)
  exact h this
theorem loc_of {sc : Scope} {x : Str} (h : isLoc sc x = true) : sc.names.lookup x = some .local := by
  unfold isLoc at h
  split at h
  · assumption
  · cases h
theorem bk_fn (kd : X.env.scope.kind = .function) : X.env.blockKind = .function := by
  unfold Env.blockKind
  rw [kd]; rfl
theorem star_any : ∀ {vs : List Expr}, (∀ z ∈ vs, plE z = true) → (vs.any fun x => match x with | .Starred value pos => true | x => false) = false
  | [], _ => rfl
  | v :: vs, h => by
    rw [List.any_cons, star_any fun z hz => h z (List.mem_cons_of_mem _ hz)]
    have hv := h v (List.mem_cons_self ..)
    cases v <;> first | rfl | (simp [plE] at hv; done)
theorem sw_par2 (kd : X.env.scope.kind = .function) {x y : Str} {px py pt pt2 : Pos} {kt k2 : Nat} {a b : Expr} (hxy : x ≠ y) (hx : X.env.scope.names.lookup x = some .local) (hy : X.env.scope.names.lookup y = some .local)
    (hl : (px.line == py.line) = true) (h1 : [a, b].all (foldedForSure 8) = false) (h2 : [a, b].all (constantsAlone 8) = false) (pl : ∀ z ∈ [a, b], plE z = true) :
    swappedStores [.Tuple [.Name x px, .Name y py] kt pt] (.Tuple [a, b] k2 pt2) X.env = pure (some [x, y]) := by
  have l2 : py.line = px.line := (beq_iff_eq.mp hl).symm
  have hyx : ¬ y = x := fun e => hxy e.symm
  unfold swappedStores
  rw [bk_fn kd]
  dsimp only
  refine (if_neg (by simp)).trans ?_
  refine (if_neg (fun h => Bool.noConfusion ((star_any pl).symm.trans h))).trans ?_
  simp only [List.all_cons, List.all_nil, Bool.and_true] at h1 h2
  simp [Env.kindOf, hx, hy, l2, Expr.pos, List.eraseDups_cons, hyx, h1, h2]
theorem sw_par3 (kd : X.env.scope.kind = .function) {x y z : Str} {px py pz pt pt2 : Pos} {kt k2 : Nat} {a b c : Expr} (hxy : x ≠ y) (hxz : x ≠ z) (hyz : y ≠ z) (hx : X.env.scope.names.lookup x = some .local) (hy : X.env.scope.names.lookup y = some .local) (hz : X.env.scope.names.lookup z = some .local)
    (hl : (px.line == py.line) = true) (hl3 : (px.line == pz.line) = true) (h1 : [a, b, c].all (foldedForSure 8) = false) (h2 : [a, b, c].all (constantsAlone 8) = false) (pl : ∀ z ∈ [a, b, c], plE z = true) :
    swappedStores [.Tuple [.Name x px, .Name y py, .Name z pz] kt pt] (.Tuple [a, b, c] k2 pt2) X.env = pure (some [x, y, z]) := by
  have l2 : py.line = px.line := (beq_iff_eq.mp hl).symm
  have l3 : pz.line = px.line := (beq_iff_eq.mp hl3).symm
  have hyx : ¬ y = x := fun e => hxy e.symm
  have hzx : ¬ z = x := fun e => hxz e.symm
  have hzy : ¬ z = y := fun e => hyz e.symm
  unfold swappedStores
  rw [bk_fn kd]
  dsimp only
  refine (if_neg (by simp)).trans ?_
  refine (if_neg (fun h => Bool.noConfusion ((star_any pl).symm.trans h))).trans ?_
  simp only [List.all_cons, List.all_nil, Bool.and_true] at h1 h2
  simp [Env.kindOf, hx, hy, hz, l2, l3, Expr.pos, List.eraseDups_cons, hyx, hzx, hzy, h1, h2]
theorem sw_none (kd : X.env.scope.kind = .function) {ts vs : List Expr} {k1 k2 : Nat} {p1 p2 : Pos} (h : noSw X.env.scope ts vs = true) : swappedStores [.Tuple ts k1 p1] (.Tuple vs k2 p2) X.env = pure none := by
  unfold noSw at h
  unfold swappedStores
  rw [bk_fn kd]
  dsimp only
  split
  · rfl
  · rename_i g1
    split
    · rfl
    · rename_i g2
      have e : (ts.filterMap fun x => match x with
          | .Name id pos => if (X.env.kindOf id == some NameKind.local && pos.line == ((ts.head?.map fun x => x.pos.line).getD 0)) = true then some id else none
          | _ => none) = swNames X.env.scope ts := rfl
      split
      · rfl
      · rename_i g3
        refine if_pos ?_
        simp only [Bool.or_eq_true] at h g1
        rcases h with (((((h | h) | h) | h) | h) | h)
        · exact absurd (.inl (.inl h)) g1
        · exact absurd (.inl (.inr h)) g1
        · exact absurd h g2
        · exact absurd (Bool.or_eq_true _ _ |>.mpr (.inl h)) g3
        · exact absurd (Bool.or_eq_true _ _ |>.mpr (.inr h)) g3
        · exact h
theorem Go.putL {i : Nat} {v : V} {g1 g2 : List Addr} {c : Cell} (go : Go K σ p l F H S f pu F1 H1 σ1 S1 f1 (g1 ++ g2)) (cr : CR K F1 H1 v c g1) :
    ∃ f', Go K σ p l F H S f false F1 H1 (σ1.set i (some v)) ⟨S1.ρ.set i (.c c), S1.io⟩ f' g2 := by
  have nd := go.nd
  obtain ⟨f', sr, hf⟩ := go.sr.put (i := i) cr (nd.sublist ((List.Sublist.refl l).append ((List.Sublist.refl f1).append (List.sublist_append_left g1 g2))))
  refine ⟨f', ⟨go.unpure.st, sr, ?_, fun x hx => ?_, fun h => by cases h⟩⟩
  · have n2 := sr.nd
    simp only [List.nodup_append, List.mem_append] at nd n2 ⊢
    grind
  · rcases List.mem_append.mp hx with z | z
    · rcases hf x z with z | z
      · exact go.nw x (List.mem_append_left _ z)
      · exact go.nw x (by simp [z])
    · exact go.nw x (by simp [z])
theorem crs_cons {c : Cell} {cs : List Cell} {vs : List V} (h : CRs K F H vs (c :: cs) g) : ∃ v us g1 g2, vs = v :: us ∧ g = g1 ++ g2 ∧ CR K F H v c g1 ∧ CRs K F H us cs g2 := by
  cases h with
  | cons a b => exact ⟨_, _, _, _, rfl, rfl, a, b⟩
theorem crs_nil {vs : List V} (h : CRs K F H vs [] g) : vs = [] ∧ g = [] := by
  cases h; exact ⟨rfl, rfl⟩
theorem s_par2 (sx : SX tx cf k N X) {i j : Nat} {x y : Str} {px py pt pos pt2 : Pos} {kt k2 : Nat} {a b : Expr} (hi : N[i]? = some x) (hj : N[j]? = some y) (hij : i ≠ j) (hx : isLoc X.env.scope x = true) (hy : isLoc X.env.scope y = true)
    (hl : (px.line == py.line) = true) (h1 : [a, b].all (foldedForSure 8) = false) (h2 : [a, b].all (constantsAlone 8) = false) (pl : ∀ z ∈ [a, b], plE z = true) (hv : PA X [a, b] (tA X.K ts pa)) :
    PS X (.Assign [.Tuple [.Name x px, .Name y py] kt pt] (.Tuple [a, b] k2 pt2) pos) (tS X.K fun S => (ts S).bind fun p => (ownC p.1).bind fun cs => (setAll [i, j] cs p.2.ρ).map fun ρ => .nx ⟨ρ, p.2.io⟩) := by
  have hN := sx.fx.hN
  refine (ps_par sx.fx.calm (by rw [hN]; exact sx.fx.nd) (by rw [hN]; exact hi) (by rw [hN]; exact hj) hij (loc_of hx) (loc_of hy) hv (sw_par2 sx.kd (ne_of_slots sx.fx.nd hi hj hij) (loc_of hx) (loc_of hy) hl h1 h2 pl) rfl).imp fun D σ H ⟨F, S, p, l, f, sr, o, e, kk⟩ => ?_
  simp only [Option.bind_eq_some_iff, Option.map_eq_some_iff] at e
  obtain ⟨⟨rs, S1⟩, e1, cs, e2, ρ1, e3, e4⟩ := e
  cases e4
  refine ⟨F, S, p, l, f, sr, rs, S1, e1, fun vs F1 H1 f1 g go rr => ?_⟩
  have cr := rr.cells e2
  match cs, e3, cr with
  | [c, d], e3, cr =>
    obtain ⟨v, _, g1, _, rfl, rfl, c1, cr⟩ := crs_cons cr
    obtain ⟨w, _, g2, _, rfl, rfl, c2, cr⟩ := crs_cons cr
    obtain ⟨rfl, rfl⟩ := crs_nil cr
    cases e3
    obtain ⟨f2, go2⟩ := go.putL (i := i) c1
    obtain ⟨f3, go3⟩ := go2.putL (i := j) c2
    exact ⟨v, w, rfl, kk _ _ _ _ go3⟩
  | [], e3, _ => cases e3
  | [_], e3, _ => cases e3
  | _ :: _ :: _ :: _, e3, _ => cases e3
theorem s_par3 (sx : SX tx cf k N X) {i j m : Nat} {x y z : Str} {px py pz pt pos pt2 : Pos} {kt k2 : Nat} {a b c : Expr} (hi : N[i]? = some x) (hj : N[j]? = some y) (hm : N[m]? = some z) (hij : i ≠ j) (him : i ≠ m) (hjm : j ≠ m) (hx : isLoc X.env.scope x = true) (hy : isLoc X.env.scope y = true) (hz : isLoc X.env.scope z = true)
    (hl : (px.line == py.line) = true) (hl3 : (px.line == pz.line) = true) (h1 : [a, b, c].all (foldedForSure 8) = false) (h2 : [a, b, c].all (constantsAlone 8) = false) (pl : ∀ z ∈ [a, b, c], plE z = true) (hv : PA X [a, b, c] (tA X.K ts pa)) :
    PS X (.Assign [.Tuple [.Name x px, .Name y py, .Name z pz] kt pt] (.Tuple [a, b, c] k2 pt2) pos) (tS X.K fun S => (ts S).bind fun p => (ownC p.1).bind fun cs => (setAll [i, j, m] cs p.2.ρ).map fun ρ => .nx ⟨ρ, p.2.io⟩) := by
  have hN := sx.fx.hN
  have nd := sx.fx.nd
  refine (ps_par3 sx.fx.calm (by rw [hN]; exact nd) (by rw [hN]; exact hi) (by rw [hN]; exact hj) (by rw [hN]; exact hm) hij him hjm (loc_of hx) (loc_of hy) (loc_of hz) hv (sw_par3 sx.kd (ne_of_slots nd hi hj hij) (ne_of_slots nd hi hm him) (ne_of_slots nd hj hm hjm) (loc_of hx) (loc_of hy) (loc_of hz) hl hl3 h1 h2 pl) rfl).imp fun D σ H ⟨F, S, p, l, f, sr, o, e, kk⟩ => ?_
  simp only [Option.bind_eq_some_iff, Option.map_eq_some_iff] at e
  obtain ⟨⟨rs, S1⟩, e1, cs, e2, ρ1, e3, e4⟩ := e
  cases e4
  refine ⟨F, S, p, l, f, sr, rs, S1, e1, fun vs F1 H1 f1 g go rr => ?_⟩
  have cr := rr.cells e2
  match cs, e3, cr with
  | [c, d, q], e3, cr =>
    obtain ⟨u, _, g1, _, rfl, rfl, c1, cr⟩ := crs_cons cr
    obtain ⟨v, _, g2, _, rfl, rfl, c2, cr⟩ := crs_cons cr
    obtain ⟨w, _, g3, _, rfl, rfl, c3, cr⟩ := crs_cons cr
    obtain ⟨rfl, rfl⟩ := crs_nil cr
    cases e3
    obtain ⟨f2, go2⟩ := go.putL (i := i) c1
    obtain ⟨f3, go3⟩ := go2.putL (i := j) c2
    obtain ⟨f4, go4⟩ := go3.putL (i := m) c3
    exact ⟨u, v, w, rfl, kk _ _ _ _ go4⟩
  | [], e3, _ => cases e3
  | [_], e3, _ => cases e3
  | [_, _], e3, _ => cases e3
  | _ :: _ :: _ :: _ :: _, e3, _ => cases e3
def setVs : L2.St → List Nat → List V → L2.St
  | σ, i :: is, v :: vs => setVs (σ.set i (some v)) is vs
  | σ, _, _ => σ
def tPs (is : List Nat) : TGs := fun vs σ H Q => vs.length = is.length ∧ Q (setVs σ is vs) H
theorem pgs_nms (sx : SX tx cf k N X) : ∀ {is : List Nat} {xs : List Expr}, nms N X.env.scope is xs = true → PGs X xs (tPs is)
  | [], [], _ => ⟨fun pins s σ H vs us Q I r h => pgs_nil.run pins s σ H vs us Q I r (by
      obtain ⟨h1, h2⟩ := h
      cases vs with
      | nil => exact ⟨rfl, h2⟩
      | cons _ _ => simp at h1)⟩
  | [], _ :: _, h => by simp [nms] at h
  | _ :: _, [], h => by simp [nms] at h
  | i :: is, .Name x p :: xs, h => by
    simp only [nms, Bool.and_eq_true, decide_eq_true_eq] at h
    obtain ⟨⟨⟨h1, h2⟩, h3⟩, h4⟩ := h
    have base := pg_name (X := X) (i := i) (pos := p) (by rw [sx.fx.hN]; exact sx.fx.nd) (by rw [sx.fx.hN]; exact h1) (sx.loc h2).1 (sx.loc h2).2
    refine ⟨fun pins s σ H vs us Q I r h => (pgs_cons base (pgs_nms sx h4) rfl).run pins s σ H vs us Q I r ?_⟩
    obtain ⟨q1, q2⟩ := h
    cases vs with
    | nil => simp at q1
    | cons v vs => exact ⟨v, vs, rfl, by simpa using q1, q2⟩
  | _ :: _, .BoolOp .. :: _, h => by simp [nms] at h
  | _ :: _, .NamedExpr .. :: _, h => by simp [nms] at h
  | _ :: _, .BinOp .. :: _, h => by simp [nms] at h
  | _ :: _, .UnaryOp .. :: _, h => by simp [nms] at h
  | _ :: _, .Lambda .. :: _, h => by simp [nms] at h
  | _ :: _, .IfExp .. :: _, h => by simp [nms] at h
  | _ :: _, .Dict .. :: _, h => by simp [nms] at h
  | _ :: _, .Set .. :: _, h => by simp [nms] at h
  | _ :: _, .ListComp .. :: _, h => by simp [nms] at h
  | _ :: _, .SetComp .. :: _, h => by simp [nms] at h
  | _ :: _, .DictComp .. :: _, h => by simp [nms] at h
  | _ :: _, .GeneratorExp .. :: _, h => by simp [nms] at h
  | _ :: _, .Await .. :: _, h => by simp [nms] at h
  | _ :: _, .Yield .. :: _, h => by simp [nms] at h
  | _ :: _, .YieldFrom .. :: _, h => by simp [nms] at h
  | _ :: _, .Compare .. :: _, h => by simp [nms] at h
  | _ :: _, .Call .. :: _, h => by simp [nms] at h
  | _ :: _, .FormattedValue .. :: _, h => by simp [nms] at h
  | _ :: _, .JoinedStr .. :: _, h => by simp [nms] at h
  | _ :: _, .Constant .. :: _, h => by simp [nms] at h
  | _ :: _, .Attribute .. :: _, h => by simp [nms] at h
  | _ :: _, .Subscript .. :: _, h => by simp [nms] at h
  | _ :: _, .Starred .. :: _, h => by simp [nms] at h
  | _ :: _, .Tuple .. :: _, h => by simp [nms] at h
  | _ :: _, .List .. :: _, h => by simp [nms] at h
  | _ :: _, .Slice .. :: _, h => by simp [nms] at h
theorem nms_each {sc : Scope} {env : Env} : ∀ {is : List Nat} {es : List Expr}, nms N sc is es = true → (assignEach es env).findIdx? (·.1) = none ∧ (assignEach es env).length = es.length ∧ is.length = es.length
  | [], [], _ => ⟨rfl, rfl, rfl⟩
  | [], _ :: _, h => by simp [nms] at h
  | _ :: _, [], h => by simp [nms] at h
  | i :: is, e :: es, h => by
    cases e with
    | Name x p =>
      simp only [nms, Bool.and_eq_true] at h
      obtain ⟨h1, h2, h3⟩ := nms_each (env := env) h.2
      have e1 : assignEach (Expr.Name x p :: es) env = (false, assign (.Name x p) env) :: assignEach es env := rfl
      refine ⟨?_, ?_, by simp [h3]⟩
      · rw [e1, List.findIdx?_cons, h1]; rfl
      · rw [e1, List.length_cons, h2, List.length_cons]
    | _ => simp [nms] at h
theorem puts (is : List Nat) : ∀ (cs : List Cell) (vs : List V) (g' : List Addr) (σ2 : L2.St) (S2 : Sta) (f2 : List Addr) (ρ' : List Sl) (pv : Bool), Go K σ p l F H S f pv F1 H1 σ2 S2 f2 g' → CRs K F1 H1 vs cs g' → setAll is cs S2.ρ = some ρ' →
    ∃ f', Go K σ p l F H S f false F1 H1 (setVs σ2 is vs) ⟨ρ', S2.io⟩ f' [] := by
  induction is with
  | nil =>
    intro cs vs g' σ2 S2 f2 ρ' pv go cr e
    cases cs with
    | nil =>
      obtain ⟨rfl, rfl⟩ := crs_nil cr
      cases e
      exact ⟨f2, go.unpure⟩
    | cons _ _ => cases e
  | cons i is ih =>
    intro cs vs g' σ2 S2 f2 ρ' pv go cr e
    cases cs with
    | nil => cases e
    | cons c cs =>
      obtain ⟨v, us, g1, g2, rfl, rfl, c1, cr⟩ := crs_cons cr
      obtain ⟨f3, go2⟩ := go.putL (i := i) c1
      exact ih _ _ _ _ ⟨S2.ρ.set i (.c c), S2.io⟩ _ _ _ go2 cr e
theorem setAll_len : ∀ {is : List Nat} {cs : List Cell} {ρ ρ' : List Sl}, setAll is cs ρ = some ρ' → cs.length = is.length
  | [], [], _, _, _ => rfl
  | [], _ :: _, _, _, e => by cases e
  | _ :: _, [], _, _, e => by cases e
  | i :: is, c :: cs, ρ, ρ', e => by simp [setAll_len (is := is) (cs := cs) e]
theorem s_parT (sx : SX tx cf k N X) {is : List Nat} {xs vs : List Expr} {kt k2 : Nat} {pt pt2 pos : Pos} (hn : nms N X.env.scope is xs = true) (hs : noSw X.env.scope xs vs = true) (hv : PA X vs (tA X.K ts pa)) :
    PS X (.Assign [.Tuple xs kt pt] (.Tuple vs k2 pt2) pos) (tS X.K fun S => (ts S).bind fun p => (ownC p.1).bind fun cs => if cs.length ≤ 16777216 then (setAll is cs p.2.ρ).map fun ρ => .nx ⟨ρ, p.2.io⟩ else none) := by
  obtain ⟨e1, e2, e3⟩ := nms_each (env := X.env) hn
  refine (ps_asg (pe_tup hv) (pg_tup sx.fx.calm (pgs_nms sx hn) e2 e1) rfl (sw_none sx.kd hs) rfl).imp fun D σ H ⟨F, S, p, l, f, sr, o, e, kk⟩ => ?_
  simp only [Option.bind_eq_some_iff] at e
  obtain ⟨⟨rs, S1⟩, q1, cs, q2, q3⟩ := e
  split at q3
  · rename_i hz
    simp only [Option.map_eq_some_iff] at q3
    obtain ⟨ρ1, q3, q4⟩ := q3
    cases q4
    refine ⟨F, S, p, l, f, sr, rs, S1, q1, fun us F1 H1 f1 g go rr => ?_⟩
    have cr := rr.cells q2
    refine ⟨by rw [cr.len, sizeLine_eq]; exact hz, fun q hq => ?_⟩
    obtain ⟨go3, fq, st⟩ := go.newH (o := .tup us) hq fun x hx => let ⟨_, vs, e⟩ := cr.own x hx; ⟨_, e⟩
    have cr3 := CRs.held cr st fun _ _ z => nomatch z
    have hl : us.length = is.length := by rw [cr.len, setAll_len q3]
    obtain ⟨f', go4⟩ := puts _ _ _ _ _ _ _ _ _ (go3.less (List.sublist_cons_self ..)) cr3 q3
    exact ⟨q, us, rfl, .inl (.inl upd_same), by rw [hl, e3], hl, kk _ _ _ _ go4⟩
  · cases q3
theorem tE_pu {t : Sta → Option (R × Sta)} {S : Sta} {r : R} {S2 : Sta} (sr : SR K F H σ S p l f) (e : t S = some (r, S2)) {Q : VK}
    (q : ∀ v F' H' f', Go K σ p l F H S f true F' H' σ S f' [] → (∃ g, RR K F' H' l f' v r g) → Q v H') : tE K t true σ H Q :=
  ⟨F, S, p, l, f, sr, r, S2, e, fun v F' H' f' g go rr => by
    obtain ⟨rfl, rfl, _⟩ := go.pu rfl
    exact q v F' H' f' go.nil ⟨g, rr⟩⟩
theorem int_of {t : Option (R × Sta)} {k : Int} (h : intOf t = some k) : ∃ S2, t = some (.own (.im (.int k)), S2) := by
  unfold intOf at h
  split at h
  · cases h; exact ⟨_, rfl⟩
  · cases h
/-- a pure step after a step: the new cells are held -/
theorem Go.then {pb : Bool} {F2 H2 : Hp} {f2 : List Addr} {v : V} {c : Cell} (a : Go K σ p l F H S f pb F1 H1 σ S1 f1 g) (cr : CR K F1 H1 v c g) (b : Go K σ p l F1 H1 S1 f1 true F2 H2 σ S1 f2 []) :
    Go K σ p l F H S f pb F2 H2 σ S1 f2 g ∧ CR K F2 H2 v c g := by
  obtain ⟨h1, h2, h3⟩ := a.trans b (CR.own cr)
  refine ⟨by simpa using h1, CR.held cr h2 h3⟩
theorem sub_pl {o y : Expr} {p1 : Pos} (h : plE y = true) (env : Env) (w : Value) : assign (.Subscript o y p1) env w = (do
    let ov ← holding [w] (eval o env)
    let iv ← holding [w, ov] (eval y env)
    standAt p1
    holding [w, ov, iv] (setItem ov iv w)
    release [w, ov, iv] []) := by
  cases y <;> first | rfl | (simp [plE] at h; done)
theorem s_set1 (sx : SX tx cf k N X) {i : Nat} {o y v : Expr} {p1 pos : Pos} (ho : nm1 N X.env.scope i o = true) (py : plE y = true) (hj : PE X y (tE X.K tj pb)) (hv : PE X v (tE X.K ta pa)) :
    PS X (.Assign [.Subscript o y p1] v pos) (tS X.K fun S => (ta S).bind fun p => match p.1 with
    | .own c => if pb then (intOf (tj p.2)).bind fun k => (upP (.sl i) p.2 fun xs => (ixN xs.length k).map fun n => xs.set n c).map .nx else none
    | .bor _ => none) := by
  obtain ⟨x, px, rfl, n1, n2, n3, n4⟩ := nm1_of ho
  refine (ps_asg hv (pg_sub (pe_var (i := i) (by rw [sx.fx.hN]; exact n1) n2 n3 n4) hj set_list (sub_pl py _)) (by cases v <;> rfl) (by cases v <;> rfl) rfl).imp fun D σ H ⟨F, S, p, l, f, sr, r, e, kk⟩ => ?_
  simp only [Option.bind_eq_some_iff] at e
  obtain ⟨⟨r1, S1⟩, e1, e2⟩ := e
  refine ⟨F, S, p, l, f, sr, r1, S1, e1, fun w F1 H1 f1 g go rr => ?_⟩
  dsimp only at e2
  cases r1 with
  | bor c => cases e2
  | own c =>
  dsimp only at e2
  split at e2
  · rename_i hpb
    subst hpb
    simp only [Option.bind_eq_some_iff, Option.map_eq_some_iff] at e2
    obtain ⟨k, e3, S', e4, e5⟩ := e2
    subst e5
    obtain ⟨S2, e3⟩ := int_of e3
    obtain ⟨a0, _, _, _, _, at0, ha0, _⟩ := up_go go e4
    refine ⟨_, at0, tE_pu go.sr e3 fun u F2 H2 f2 go2 ⟨g2, rr2⟩ => ?_⟩
    have hu : u = .int k := CR.int rr2
    subst hu
    obtain ⟨go3, cr3⟩ := go.then rr go2
    obtain ⟨a, vs, cs, cs', fo, at1, ha, nfo, crs, hfl, ndg, nag, fin'⟩ := up_go go3 e4
    have : a = a0 := by
      have at1 : σ[i]? = some (some (.ref a)) := at1
      have at0 : σ[i]? = some (some (.ref a0)) := at0
      rw [at0] at at1; cases at1; rfl
    subst this
    simp only [Option.map_eq_some_iff] at hfl
    obtain ⟨n, hn, rfl⟩ := hfl
    refine ⟨a, vs, k, n, rfl, rfl, ha, by rw [crs.len]; exact hn, ?_⟩
    obtain ⟨fo', q1, q2, q3⟩ := crs_set (o := .lst (vs.set n w)) crs (ixN_lt hn) cr3 nfo nag ndg
    obtain ⟨f', go4⟩ := fin' _ _ q1 q2 q3
    exact kk _ _ _ _ go4
  · cases e2
theorem own_ref {i : Nat} (sr : SR K F H σ S p l f) (hob : ownB S i = true) : ∃ p1 us, σ[i]? = some (some (.ref p1)) ∧ H p1 = some (.lst us) := by
  unfold ownB at hob
  split at hob
  · rename_i hd
    obtain ⟨o, f1, g, f2, a, b, c, _⟩ := sr.er.at hd
    cases c with
    | c c => cases c with | ow i1 i2 i3 => exact ⟨_, _, a, i2⟩
  · rename_i hd
    obtain ⟨o, f1, g, f2, a, b, c, _⟩ := sr.er.at hd
    cases c with
    | io =>
      have ir := sr.ior
      unfold IoR at ir
      split at ir
      · rename_i hio; rw [hio] at hob; cases hob
      · obtain ⟨_, _, us, h1, _⟩ := ir
        exact ⟨p, us, a, h1⟩
  · cases hob
theorem s_app1 (sx : SX tx cf k N X) {i : Nat} {o v : Expr} {ap cp pos : Pos} (ho : nm1 N X.env.scope i o = true) (hl : (ap.endLine == cp.line) = true) (pv : plE v = true) (hv : PE X v (tE X.K ta pa)) :
    PS X (.Expr (.Call (.Attribute o "append" ap) [v] [] cp) pos) (tS X.K fun S => if !ownB S i then none else (ta S).bind fun p => match p.1 with
    | .own c => (upP (.sl i) p.2 fun xs => if xs.length < 16777216 then some (xs ++ [c]) else none).map .nx
    | .bor _ => none) := by
  obtain ⟨x, px, rfl, n1, n2, n3, n4⟩ := nm1_of ho
  refine (ps_expr (pe_bm PySem.F.plainAttrs_list PySem.F.slot_list_append PySem.F.type_list_append mt_append (pe_var (i := i) (by rw [sx.fx.hN]; exact n1) n2 n3 n4) (pa_cons hv pa_nil (starEach_pl pv _ _)) rfl (by rw [starEach_pl pv]; rfl) hl (starEach_pl pv _ _) rfl) rfl).imp fun D σ H ⟨F, S, p, l, f, sr, r, e, kk⟩ => ?_
  dsimp only at e
  split at e
  · cases e
  rename_i hob
  obtain ⟨p1, us1, hv0, hus1⟩ := own_ref sr (i := i) (by simpa using hob)
  simp only [Option.bind_eq_some_iff] at e
  obtain ⟨⟨r1, S1⟩, e1, e2⟩ := e
  refine ⟨_, hv0, .inl ⟨rfl, _, .inl (.inl hus1)⟩, F, S, p, l, f, sr, r1, S1, e1, fun w F1 H1 f1 g go rr => ?_⟩
  dsimp only at e2
  cases r1 with
  | bor c => cases e2
  | own c =>
  simp only [Option.map_eq_some_iff] at e2
  obtain ⟨S', e4, e5⟩ := e2
  subst e5
  obtain ⟨a, vs, cs, cs', fo, at1, ha, nfo, crs, hfl, ndg, nag, fin'⟩ := up_go go e4
  have : a = p1 := by
    have at1 : σ[i]? = some (some (.ref a)) := at1
    rw [hv0] at at1; cases at1; rfl
  subst this
  split at hfl
  · rename_i hz
    cases hfl
    refine ⟨a, vs, w, rfl, rfl, ha, by rw [crs.len, sizeLine_eq]; exact hz, ?_⟩
    obtain ⟨fo', q1, q2, q3⟩ := crs_push (o := .lst (vs ++ [w])) crs rr nfo nag ndg
    obtain ⟨f', go4⟩ := fin' _ _ q1 q2 q3
    exact kk _ _ _ _ go4
  · cases hfl
theorem s_app2 (sx : SX tx cf k N X) {i : Nat} {o y v : Expr} {ap cp pos sp : Pos} (ho : nm1 N X.env.scope i o = true) (hl : (ap.endLine == cp.line) = true) (py : plE y = true) (pv : plE v = true) (hj : PE X y (tE X.K tj pb)) (hv : PE X v (tE X.K ta pa)) :
    PS X (.Expr (.Call (.Attribute (.Subscript o y sp) "append" ap) [v] [] cp) pos) (tS X.K fun S => if pb && pa then (intOf (tj S)).bind fun m => (ta S).bind fun p => match p.1 with
      | .own c => (upP (.at i m) S fun xs => if xs.length < 16777216 then some (xs ++ [c]) else none).map .nx
      | .bor _ => none
    else none) := by
  obtain ⟨x, px, rfl, n1, n2, n3, n4⟩ := nm1_of ho
  refine (ps_expr (pe_bm PySem.F.plainAttrs_list PySem.F.slot_list_append PySem.F.type_list_append mt_append (pe_ix ix_seq (pe_var (i := i) (by rw [sx.fx.hN]; exact n1) n2 n3 n4) hj (plainIx_pl py)) (pa_cons hv pa_nil (starEach_pl pv _ _)) rfl (by rw [starEach_pl pv]; rfl) hl (starEach_pl pv _ _) rfl) rfl).imp fun D σ H ⟨F, S, p, l, f, sr, r, e, kk⟩ => ?_
  dsimp only at e
  split at e
  · rename_i hp
    simp only [Bool.and_eq_true] at hp
    obtain ⟨rfl, rfl⟩ := hp
    simp only [Option.bind_eq_some_iff] at e
    obtain ⟨m, e1, ⟨r1, S1⟩, e2, e3⟩ := e
    obtain ⟨S2, e1⟩ := int_of e1
    dsimp only at e3
    cases r1 with
    | bor c => cases e3
    | own c =>
    simp only [Option.map_eq_some_iff] at e3
    obtain ⟨S', e4, e5⟩ := e3
    subst e5
    obtain ⟨a0, _, _, _, _, ⟨b0, us, at0, hb0, hat0⟩, ha0, _⟩ := up_go (.refl (pu := true) sr) e4
    refine ⟨_, at0, tE_pu sr e1 fun u F2 H2 f2 go2 ⟨g2, rr2⟩ => ?_⟩
    have hu : u = .int m := CR.int rr2
    subst hu
    have st2 : Same H H2 := fun q o h => go2.st.keep q o h (by simp [mus])
    refine .inl ⟨b0, us, m, _, rfl, rfl, .inl (.inl (st2 _ _ hb0)), hat0, .inl ⟨rfl, _, .inl (.inl (st2 _ _ ha0))⟩, F2, S, p, l, f2, go2.sr, _, S1, e2, fun w F3 H3 f3 g3 go3 rr3 => ?_⟩
    obtain ⟨rfl, rfl, _⟩ := go3.pu rfl
    obtain ⟨go4, _, _⟩ := go2.trans go3 fun _ z => nomatch z
    rw [List.nil_append] at go4
    have st3 : Same H2 H3 := fun q o h => go3.st.keep q o h (by simp [mus])
    obtain ⟨a, vs, cs, cs', fo, ⟨b1, us1, at1, hb1, hat1⟩, ha, nfo, crs, hfl, ndg, nag, fin'⟩ := up_go go4 e4
    have hb : b1 = b0 := by rw [at0] at at1; cases at1; rfl
    subst hb
    have hus : us1 = us := by rw [st3 _ _ (st2 _ _ hb0)] at hb1; cases hb1; rfl
    subst hus
    have haa : a = a0 := by rw [hat0] at hat1; cases hat1; rfl
    subst haa
    split at hfl
    · rename_i hz
      cases hfl
      refine ⟨a, vs, w, rfl, rfl, ha, by rw [crs.len, sizeLine_eq]; exact hz, ?_⟩
      obtain ⟨fo', q1, q2, q3⟩ := crs_push (o := .lst (vs ++ [w])) crs rr3 nfo nag ndg
      obtain ⟨f', go5⟩ := fin' _ _ q1 q2 q3
      exact kk _ _ _ _ go5
    · cases hfl
  · cases e
theorem s_set2 (sx : SX tx cf k N X) {i : Nat} {o y z v : Expr} {p1 sp pos : Pos} {tz : Sta → Option (R × Sta)} {pz : Bool} (ho : nm1 N X.env.scope i o = true) (pz' : plE z = true) (py : plE y = true) (hz : PE X z (tE X.K tz pz)) (hj : PE X y (tE X.K tj pb)) (hv : PE X v (tE X.K ta pa)) :
    PS X (.Assign [.Subscript (.Subscript o z sp) y p1] v pos) (tS X.K fun S => (ta S).bind fun p => match p.1 with
    | .own c => if pz && pb then (intOf (tz p.2)).bind fun m => (intOf (tj p.2)).bind fun k => (upP (.at i m) p.2 fun xs => (ixN xs.length k).map fun n => xs.set n c).map .nx else none
    | .bor _ => none) := by
  obtain ⟨x, px, rfl, n1, n2, n3, n4⟩ := nm1_of ho
  refine (ps_asg hv (pg_sub (pe_ix ix_seq (pe_var (i := i) (by rw [sx.fx.hN]; exact n1) n2 n3 n4) hz (plainIx_pl pz')) hj set_list (sub_pl py _)) (by cases v <;> rfl) (by cases v <;> rfl) rfl).imp fun D σ H ⟨F, S, p, l, f, sr, r, e, kk⟩ => ?_
  simp only [Option.bind_eq_some_iff] at e
  obtain ⟨⟨r1, S1⟩, e1, e2⟩ := e
  refine ⟨F, S, p, l, f, sr, r1, S1, e1, fun w F1 H1 f1 g go rr => ?_⟩
  dsimp only at e2
  cases r1 with
  | bor c => cases e2
  | own c =>
  dsimp only at e2
  split at e2
  · rename_i hp
    simp only [Bool.and_eq_true] at hp
    obtain ⟨rfl, rfl⟩ := hp
    simp only [Option.bind_eq_some_iff, Option.map_eq_some_iff] at e2
    obtain ⟨m, e3, k, e4, S', e5, e6⟩ := e2
    subst e6
    obtain ⟨S2, e3⟩ := int_of e3
    obtain ⟨S3, e4⟩ := int_of e4
    obtain ⟨a0, _, _, _, _, ⟨b0, us, at0, hb0, hat0⟩, ha0, _⟩ := up_go go e5
    refine ⟨_, at0, tE_pu go.sr e3 fun u F2 H2 f2 go2 ⟨g2, rr2⟩ => ?_⟩
    have hu : u = .int m := CR.int rr2
    subst hu
    have st2 : Same H1 H2 := fun q o h => go2.st.keep q o h (by simp [mus])
    obtain ⟨go3, cr3⟩ := go.then rr go2
    refine .inl ⟨b0, us, m, _, rfl, rfl, .inl (.inl (st2 _ _ hb0)), hat0, tE_pu go3.sr e4 fun u4 F4 H4 f4 go4 ⟨g4, rr4⟩ => ?_⟩
    have hu : u4 = .int k := CR.int rr4
    subst hu
    have st4 : Same H2 H4 := fun q o h => go4.st.keep q o h (by simp [mus])
    obtain ⟨go5, cr5⟩ := go3.then cr3 go4
    obtain ⟨a, vs, cs, cs', fo, ⟨b1, us1, at1, hb1, hat1⟩, ha, nfo, crs, hfl, ndg, nag, fin'⟩ := up_go go5 e5
    have hb : b1 = b0 := by rw [at0] at at1; cases at1; rfl
    subst hb
    have hus : us1 = us := by rw [st4 _ _ (st2 _ _ hb0)] at hb1; cases hb1; rfl
    subst hus
    have haa : a = a0 := by rw [hat0] at hat1; cases hat1; rfl
    subst haa
    simp only [Option.map_eq_some_iff] at hfl
    obtain ⟨n, hn, rfl⟩ := hfl
    refine ⟨a, vs, k, n, rfl, rfl, ha, by rw [crs.len]; exact hn, ?_⟩
    obtain ⟨fo', q1, q2, q3⟩ := crs_set (o := .lst (vs.set n w)) crs (ixN_lt hn) cr5 nfo nag ndg
    obtain ⟨f', go6⟩ := fin' _ _ q1 q2 q3
    exact kk _ _ _ _ go6
  · cases e2
theorem s_aug (sx : SX tx cf k N X) {i : Nat} {x : Str} {op : Operator} {px pos : Pos} {v : Expr} (hi : N[i]? = some x) (hx : lcB X.env.scope x = true) (hv : PE X v (tE X.K ta pa)) :
    PS X (.AugAssign (.Name x px) op v pos) (tS X.K fun S => match S.ρ[i]? with
    | some (.c (.im (.int x))) => (ta S).bind fun p => match p.1 with
      | .own (.im (.int y)) => (match op with | .Add => some (x + y) | .Sub => some (x - y) | _ => none).map fun z => .nx ⟨p.2.ρ.set i (.c (.im (.int z))), p.2.io⟩
      | _ => none
    | _ => none) := by
  have core : ∀ (op : Operator) (fi : Int → Int → Int) (D : Ends) (σ : L2.St) (H : Hp), (∀ a b, (match op with | .Add => some (a + b) | .Sub => some (a - b) | _ => none) = some (fi a b)) → tS X.K (fun S => match S.ρ[i]? with
    | some (.c (.im (.int x))) => (ta S).bind fun p => match p.1 with
      | .own (.im (.int y)) => (match op with | .Add => some (x + y) | .Sub => some (x - y) | _ => none).map fun z => .nx ⟨p.2.ρ.set i (.c (.im (.int z))), p.2.io⟩
      | _ => none
    | _ => none) D σ H → tAug i (tE X.K ta pa) (ipI fi) D σ H := by
    intro op fi D σ H hop ⟨F, S, p, l, f, sr, r, e, kk⟩
    dsimp only at e
    split at e
    · rename_i n hd
      obtain ⟨o, f1, g, f2, a, b, c, _⟩ := sr.er.at hd
      cases c with
      | c c =>
      have hv0 := CR.int c
      subst hv0
      simp only [Option.bind_eq_some_iff] at e
      obtain ⟨⟨r1, S1⟩, e1, e2⟩ := e
      refine ⟨_, a, F, S, p, l, f, sr, r1, S1, e1, fun w F1 H1 f1 g go rr => ?_⟩
      dsimp only at e2
      split at e2
      · rename_i _ m
        rw [hop] at e2
        cases e2
        have hw : w = .int m := CR.int rr
        subst hw
        obtain ⟨f', go'⟩ := go.nil.put (i := i) (c := .im (.int (fi n m))) (CR.im (.int _))
        exact ⟨n, m, rfl, rfl, kk _ _ _ _ go'⟩
      · cases e2
    · cases e
  have nd : X.N.Nodup := by rw [sx.fx.hN]; exact sx.fx.nd
  have hi' : X.N[i]? = some x := by rw [sx.fx.hN]; exact hi
  cases op with
  | Add => exact (ps_aug nd hi' (sx.loc hx).1 hv ip_add (sx.loc hx).2).imp fun D σ H h => core .Add _ D σ H (fun _ _ => rfl) h
  | Sub => exact (ps_aug nd hi' (sx.loc hx).1 hv ip_sub (sx.loc hx).2).imp fun D σ H h => core .Sub _ D σ H (fun _ _ => rfl) h
  | _ =>
    refine PS.void fun S => ?_
    dsimp only
    split
    · cases h : ta S with
      | none => rfl
      | some p =>
        obtain ⟨r, S1⟩ := p
        show (match r with | .own (.im (.int y)) => _ | _ => _) = _
        split <;> rfl
    · rfl
variable {tc : Sta → Option (Bool × Sta)} {ti : Sta → Option (Bool × List Mi.D × Sta)} {t1 t2 tb : Sta → Option Out}
theorem s_ife {c : Expr} {a b : List Stmt} {pos : Pos} (hc : PT X c (tT X.K tc pa)) (ha : PSs X a (tS X.K t1)) (hb : PSs X b (tS X.K t2)) :
    PS X (.If c a b pos) (tS X.K fun S => (tc S).bind fun p => if p.1 then t1 p.2 else t2 p.2) := by
  refine (ps_if hc ha hb).imp fun D σ H ⟨F, S, p, l, f, sr, o, e, kk⟩ => ?_
  simp only [Option.bind_eq_some_iff] at e
  obtain ⟨⟨b, S1⟩, e1, e2⟩ := e
  refine ⟨F, S, p, l, f, sr, b, S1, e1, fun F1 H1 f1 go => ?_⟩
  cases b with
  | true => exact iteT ⟨F1, S1, p, l, f1, go.sr, o, e2, kk.mid go⟩
  | false => exact iteF ⟨F1, S1, p, l, f1, go.sr, o, e2, kk.mid go⟩
theorem s_seq {st : Stmt} {rest : List Stmt} (ha : PS X st (tS X.K t1)) (hb : PSs X rest (tS X.K t2)) :
    PSs X (st :: rest) (tS X.K fun S => (t1 S).bind fun o => match o with
    | .nx S1 => t2 S1
    | o => some o) := by
  refine (pss_cons ha hb).imp fun D σ H ⟨F, S, p, l, f, sr, o, e, kk⟩ => ?_
  simp only [Option.bind_eq_some_iff] at e
  obtain ⟨o1, e1, e2⟩ := e
  refine ⟨F, S, p, l, f, sr, o1, e1, ?_⟩
  cases o1 with
  | nx S1 => exact fun F' H' σ' f' go => ⟨F', S1, p, l, f', go.sr, o, e2, kk.mid go⟩
  | bk S1 => cases e2; exact kk
  | ct S1 => cases e2; exact kk
  | rt c S1 => cases e2; exact kk
theorem s_kill {st : List Stmt} {is : List Nat} (ha : PSs X st (tS X.K t1)) : PSs X st (tS X.K fun S => t1 ⟨killS S.ρ is, S.io⟩) := by
  refine ha.imp fun D σ H ⟨F, S, p, l, f, sr, o, e, kk⟩ => ?_
  obtain ⟨f', sr', sl⟩ := kill_sr is sr
  have go : Go X.K σ p l F H S f false F H σ ⟨killS S.ρ is, S.io⟩ f' [] := ⟨.refl, sr', by simpa using sr'.nd, fun x hx => .inl (sl.subset (by simpa using hx)), fun h => by cases h⟩
  exact ⟨F, _, p, l, f', sr', o, e, kk.mid go⟩
theorem frz_one {i : Nat} {c : Cell} (s : SR K F H σ S p l f) (hd : S.ρ[i]? = some (.c c)) : ∃ F' f', Go K σ p l F H S f false F' H σ ⟨S.ρ.set i (.c (.im c.frz)), S.io⟩ f' [] := by
  obtain ⟨o, f1, g, f2, a, b, c', put⟩ := s.er.at hd
  cases c' with
  | @c v _ _ c' =>
    have own := c'.own
    have nd := s.nd
    rw [b] at nd
    have gn : ∀ x ∈ g, F x = none := fun x hx => (own x hx).1
    have dis : ∀ x ∈ f1 ++ f2, x ∉ g := fun x hx z => by
      simp only [List.nodup_append, List.mem_append] at nd hx
      grind
    have disl : ∀ x ∈ l, x ∉ g := fun x hx z => by
      simp only [List.nodup_append, List.mem_append] at nd hx
      grind
    have out : ∀ x, x ∉ g → frzF F H g x = F x := fun x h => by unfold frzF; rw [if_neg h]
    have rp := c'.rp gn fun _ z => z
    have er := put (frzF F H g) H (some v) (.c (.im c.frz)) [] (frzF_same gn) (fun _ _ _ h => h) (fun x hx => by
      rw [out x (dis x hx)]
      exact (s.er.own x (by rw [b]; rcases List.mem_append.mp hx with z | z <;> simp [z])).1) (.c (.im rp))
    rw [set_id a] at er
    have sr : SR K (frzF F H g) H σ ⟨S.ρ.set i (.c (.im c.frz)), S.io⟩ p l (f1 ++ ([] ++ f2)) :=
      ⟨frzF_le s.sub, er, s.ior.mono (frzF_same gn) (fun x hx o h => ⟨h, by rw [out x (disl x hx)]; intro z; exact z⟩), (nodup_take nd).sublist ((List.Sublist.refl l).append (List.sublist_append_left ..))⟩
    refine ⟨_, f1 ++ ([] ++ f2), ⟨⟨frzF_same gn, fun _ _ h _ => h, fun x o e h m => ?_⟩, sr, by simpa using sr.nd, fun x hx => .inl ?_, fun h => by cases h⟩⟩
    · rw [out x fun z => m ?_]
      · exact h
      · unfold mus; rw [if_neg (by simp), b]; simp [z]
    · rw [b]; simp at hx; rcases hx with z | z <;> simp [z]
theorem frz_sr : ∀ (is : List Nat) {S : Sta} {F : Hp} {f : List Addr}, SR K F H σ S p l f → ∃ F' f', Go K σ p l F H S f false F' H σ ⟨frzS S.ρ is, S.io⟩ f' []
  | [], S, F, f, sr => ⟨F, f, .refl sr⟩
  | i :: is, S, F, f, sr => by
    unfold frzS
    split
    · rename_i c hd
      obtain ⟨F1, f1, go⟩ := frz_one sr hd
      obtain ⟨F2, f2, go2⟩ := frz_sr is go.sr
      refine ⟨F2, f2, ?_⟩
      have := (go.trans go2 fun _ z => nomatch z).1
      simpa using this
    · exact frz_sr is sr
theorem s_frz {st : List Stmt} {is : List Nat} (ha : PSs X st (tS X.K t1)) : PSs X st (tS X.K fun S => t1 ⟨frzS S.ρ is, S.io⟩) := by
  refine ha.imp fun D σ H ⟨F, S, p, l, f, sr, o, e, kk⟩ => ?_
  obtain ⟨F', f', go⟩ := frz_sr is sr
  exact ⟨F', _, p, l, f', go.sr, o, e, kk.mid go⟩
theorem s_ret {e : Expr} {pos : Pos} (he : PE X e (tE X.K ta pa)) : PS X (.Return (some e) pos) (tS X.K fun S => (ta S).bind fun p => match p.1 with | .own c => some (.rt c p.2) | .bor _ => none) := by
  refine (ps_ret he).imp fun D σ H ⟨F, S, p, l, f, sr, o, e, kk⟩ => ?_
  simp only [Option.bind_eq_some_iff] at e
  obtain ⟨⟨r, S1⟩, e1, e2⟩ := e
  refine ⟨F, S, p, l, f, sr, r, S1, e1, fun v F1 H1 f1 g go rr => ?_⟩
  cases r with
  | bor c => cases e2
  | own c => cases e2; exact kk _ _ _ _ _ _ go.unpure rr
theorem s_retN {pos : Pos} : PS X (.Return none pos) (tS X.K fun S => some (.rt (.im .non) S)) :=
  ps_retN.imp fun D σ H ⟨F, S, p, l, f, sr, o, e, kk⟩ => by cases e; exact kk _ _ _ _ _ [] (.refl sr) (.im .non)
theorem s_ex {e : Expr} {pos : Pos} (hl : isLc e = false) (hp : plE e = true) (he : PE X e (tE X.K ta pa)) : PS X (.Expr e pos) (tS X.K fun S => (ta S).map fun p => .nx p.2) := by
  refine (ps_expr he (by cases e <;> first | rfl | (simp [isLc] at hl; done) | (simp [plE] at hp; done))).imp fun D σ H ⟨F, S, p, l, f, sr, o, e, kk⟩ => ?_
  simp only [Option.map_eq_some_iff] at e
  obtain ⟨⟨r, S1⟩, e1, e2⟩ := e
  cases e2
  exact ⟨F, S, p, l, f, sr, r, S1, e1, fun v F1 H1 f1 g go rr => kk _ _ _ _ go.nil.unpure⟩
theorem s_loop (sx : SX tx cf k N X) {t : MT} {tg iter : Expr} {body : List Stmt} {pos : Pos} (hi : PI X tg iter (tI X.K ti pa)) (pl : plE iter = true) (hg : PG X tg (tG X.K t)) (hb : PSs X body (tS X.K tb)) :
    PS X (.For tg iter body [] pos) (tS X.K fun S => (ti S).bind fun p => if p.1 then none else loopL t tb p.2.1 p.2.2) := by
  refine (ps_for sx.own sx.fx.calm hi hg hb fun x => folded_pl pl _ x).imp fun D σ H ⟨F, S, p, l, f, sr, o, e, kk⟩ => ?_
  simp only [Option.bind_eq_some_iff] at e
  obtain ⟨⟨b0, ds, S1⟩, e1, e2⟩ := e
  cases b0 with
  | true => cases e2
  | false =>
  have e2 : loopL t tb ds S1 = some o := e2
  refine ⟨F, S, p, l, f, sr, false, ds, S1, e1, fun J F1 H1 f1 go wd => ?_⟩
  have kk1 := kk.mid go
  let Pv : Nat → L2.St → Hp → Prop := fun i σc Hc => ∃ Fc Sc fc, loopL t tb (ds.drop i) Sc = some o ∧ Go X.K σ p l F1 H1 S1 f1 false Fc Hc σc Sc fc []
  refine ⟨fun i m σc Hc => m = ds.length - i ∧ i ≤ ds.length ∧ Pv i σc Hc, ⟨ds.length, by simp, Nat.zero_le _, F1, S1, f1, e2, .refl go.sr⟩, ?_⟩
  rintro i m σc Hc ⟨rfl, hle, Fc, Sc, fc, e3, goc⟩
  have lt : Lat F1 H1 (l ++ f1) false Fc Hc := ⟨goc.st.ff, goc.sr.sub, fun h => nomatch h⟩
  by_cases hlt : i < ds.length
  · refine .inr ⟨wd.goes Fc Hc i lt hlt, Pv (i + 1), fun σ' H' pv => ⟨ds.length - (i + 1), by omega, rfl, hlt, pv⟩, fun x H'' y => ?_⟩
    obtain ⟨F3, rp, st, sub⟩ := wd.yields Fc Hc i x H'' _ lt (List.getElem?_eq_getElem hlt) y
    rw [drop_at hlt] at e3
    simp only [loopL, Option.bind_eq_some_iff] at e3
    obtain ⟨ρ1, e5, o1, e6, e7⟩ := e3
    have sr3 := goc.sr.step st sub
    refine ⟨F3, Sc, p, l, fc, _, ρ1, sr3, rp, e5, fun σ2 f2 sr2 hf _ _ => ?_⟩
    have goX : Go X.K σ p l F1 H1 S1 f1 false F3 H'' σ2 ⟨ρ1, Sc.io⟩ f2 [] := ⟨goc.st.trans st (fun _ z => nomatch z), sr2, by simpa using sr2.nd, fun x hx => goc.nw x (List.mem_append_left _ (hf x (by simpa using hx))), fun h => by cases h⟩
    refine ⟨F3, _, p, l, f2, sr2, o1, e6, ?_⟩
    cases o1 with
    | nx S' => exact fun F' H' σ' f' b => ⟨F', S', f', e7, by have := (goX.trans b fun _ z => nomatch z).1; simpa using this⟩
    | ct S' => exact fun F' H' σ' f' b => ⟨F', S', f', e7, by have := (goX.trans b fun _ z => nomatch z).1; simpa using this⟩
    | bk S' =>
      cases e7
      exact fun F' H' σ' f' b => kk1 _ _ _ _ (by have := (goX.trans b fun _ z => nomatch z).1; simpa using this)
    | rt c S' =>
      cases e7
      exact fun v F' H' σ' f' g b cr => kk1 _ _ _ _ _ _ (by have := (goX.trans b fun _ z => nomatch z).1; simpa using this) cr
  · have : i = ds.length := by omega
    subst this
    rw [List.drop_length] at e3
    cases e3
    exact .inl ⟨wd.stops Fc Hc lt, kk1 _ _ _ _ goc⟩
/-- the live walk -/
theorem live_ok {t : MT} {tb : Sta → Option Out} {D : Ends} {n : Nat} {o : Out} (sr : SR K F1 H1 σ S1 p l f1) (e : loopIo t tb n 0 S1 = some o) (kk : fin K σ p l F1 H1 S1 f1 D o) :
    ∃ W : Nat → Nat → L2.St → Hp → Prop, (∃ m, W 0 m σ H1) ∧ ∀ i m σ H, W i m σ H → ((Itl K p).stop i H ∧ D.nx σ H) ∨ ((Itl K p).go i H ∧ ∃ N : L2.St → Hp → Prop, (∀ σ' H', N σ' H' → ∃ m', m' < m ∧ W (i + 1) m' σ' H') ∧
      ∀ x H', (Itl K p).yld i H x H' → tG K t x σ H' fun σ2 H2 => tS K tb { D with nx := N, ct := N, bk := D.nx } σ2 H2) := by
  refine ⟨fun i m σc Hc => ∃ Fc Sc fc, loopIo t tb m i Sc = some o ∧ Go K σ p l F1 H1 S1 f1 false Fc Hc σc Sc fc [], ⟨n, F1, S1, f1, e, .refl sr⟩, ?_⟩
  rintro i m σc Hc ⟨Fc, Sc, fc, e3, goc⟩
  cases m with
  | zero => cases e3
  | succ m =>
  unfold loopIo at e3
  split at e3
  · cases e3
  · rename_i ds hio
    have io := goc.sr.ior
    rw [hio] at io
    obtain ⟨_, hn, vs, hp, hr⟩ := io
    have sq : SqL K Hc p vs := .inl (.inl hp)
    split at e3
    · rename_i hd
      cases e3
      refine .inl ⟨⟨vs, sq, ?_⟩, kk _ _ _ _ goc⟩
      rw [hr.len]
      exact List.getElem?_eq_none_iff.mp hd
    · rename_i d hd
      obtain ⟨v, hv, rp⟩ := hr.get hd
      simp only [Option.bind_eq_some_iff] at e3
      obtain ⟨ρ1, e5, o1, e6, e7⟩ := e3
      refine .inr ⟨⟨vs, v, sq, hv⟩, fun σ' H' => ∃ Fc Sc fc, loopIo t tb m (i + 1) Sc = some o ∧ Go K σ p l F1 H1 S1 f1 false Fc H' σ' Sc fc [], fun σ' H' w => ⟨m, Nat.lt_succ_self m, w⟩, fun x H'' ⟨eH, y⟩ => ?_⟩
      subst eH
      have ex : some v = some x := hv.symm.trans (y vs sq)
      cases ex
      refine ⟨Fc, Sc, p, l, fc, _, ρ1, goc.sr, rp, e5, fun σ2 f2 sr2 hf _ _ => ?_⟩
      have goX : Go K σ p l F1 H1 S1 f1 false Fc _ σ2 ⟨ρ1, Sc.io⟩ f2 [] := ⟨goc.st, sr2, by simpa using sr2.nd, fun x hx => goc.nw x (List.mem_append_left _ (hf x (by simpa using hx))), fun h => by cases h⟩
      refine ⟨Fc, _, p, l, f2, sr2, o1, e6, ?_⟩
      cases o1 with
      | nx S' => exact fun F' H' σ' f' b => ⟨F', S', f', e7, by have := (goX.trans b fun _ z => nomatch z).1; simpa using this⟩
      | ct S' => exact fun F' H' σ' f' b => ⟨F', S', f', e7, by have := (goX.trans b fun _ z => nomatch z).1; simpa using this⟩
      | bk S' =>
        cases e7
        exact fun F' H' σ' f' b => kk _ _ _ _ (by have := (goX.trans b fun _ z => nomatch z).1; simpa using this)
      | rt c S' =>
        cases e7
        exact fun v F' H' σ' f' g b cr => kk _ _ _ _ _ _ (by have := (goX.trans b fun _ z => nomatch z).1; simpa using this) cr
theorem ER.reP {p p' : Addr} : ∀ {ρ : List Sl} {σ : L2.St} {f : List Addr}, ER K F H p σ ρ f → ρ.all Sl.noIo = true → ER K F H p' σ ρ f
  | [], _, _, h, _ => by cases h; exact .nil
  | s :: ρ, _, _, h, a => by
    simp only [List.all_cons, Bool.and_eq_true] at a
    cases h with
    | cons h1 h2 =>
      refine .cons ?_ (ER.reP h2 a.2)
      cases h1 with
      | no => exact .no
      | c h => exact .c h
      | io => simp [Sl.noIo] at a
theorem lend_sr {i : Nat} (sr : SR K F H σ S p l f) (e : lend i S = some S1) : l = [] ∧ ∃ a f1, σ[i]? = some (some (.ref a)) ∧ SR K F H σ S1 a [a] f1 ∧ ∀ x, x ∈ a :: f1 → x ∈ f := by
  unfold lend at e
  split at e
  · rename_i cs hd hio
    simp only [Option.bind_eq_some_iff] at e
    obtain ⟨ds, e1, e2⟩ := e
    split at e2
    · rename_i hall
      cases e2
      have ior := sr.ior
      rw [hio] at ior
      have hl : l = [] := ior
      subst hl
      obtain ⟨o, fa, g, fb, hσ, rfl, c, put⟩ := sr.er.at hd
      cases c with
      | c c =>
      cases c with
      | @ow a vs _ fo i1 i2 i3 =>
      obtain ⟨r, rfl⟩ := CRs.ims i3 e1
      have er1 := ER.reP (p' := a) sr.er hall
      obtain ⟨o', fa', g', fb', hσ', hf, c', put'⟩ := er1.at hd
      have nd := sr.nd
      have er2 := put' F H (some (.ref a)) .io [] (fun _ _ h => h) (fun _ _ _ h => h) (fun x hx => (er1.own x (by rw [hf]; rcases List.mem_append.mp hx with z | z <;> simp [z])).1) .io
      rw [set_id hσ] at er2
      have ga : g' = [a] := by
        rw [hσ] at hσ'
        cases hσ'
        cases c' with
        | c c' =>
          cases c' with
          | ow j1 j2 j3 => rw [(CRs.ims j3 e1).2]
      subst ga
      rw [hf] at nd
      refine ⟨rfl, a, fa' ++ ([] ++ fb'), hσ, ⟨sr.sub, er2, ⟨rfl, i1, vs, i2, r⟩, ?_⟩, fun x hx => ?_⟩
      · simp only [List.nil_append, List.nodup_append, List.mem_append, List.nodup_cons, List.cons_append, List.mem_cons] at nd ⊢
        grind
      · rw [hf]
        simp only [List.nil_append, List.mem_append, List.mem_cons, List.cons_append] at hx ⊢
        grind
    · cases e2
  · cases e
theorem unl_go {i : Nat} {a q : Addr} {f' : List Addr} {S2 : Sta} {H' : Hp} (go : Go K σ a [a] F H S1 f' false F' H' σ1 S' f1 g) (e : unl i S' = some S2) (hf : ∀ x, x ∈ a :: f' → x ∈ f) : ∃ f2, Go K σ q [] F H S f false F' H' σ1 S2 f2 g := by
  unfold unl at e
  split at e
  · rename_i ds hd hio
    split at e
    · rename_i hall
      cases e
      have ior := go.sr.ior
      rw [hio] at ior
      obtain ⟨_, hn, vs, hp, hr⟩ := ior
      obtain ⟨o, fa, g0, fb, hσ, hff, c, put⟩ := go.sr.er.at hd
      cases c
      have own := fun x hx => (go.sr.er.own x hx).1
      have er0 := put F' H' (some (.ref a)) .no [] (fun _ _ h => h) (fun _ _ _ h => h) (fun x hx => own x (by rw [hff]; rcases List.mem_append.mp hx with z | z <;> simp [z])) .no
      have er1 := ER.reP (p' := q) er0 hall
      have hi : i < S'.ρ.length := (List.getElem?_eq_some_iff.mp hd).1
      obtain ⟨o1, fa1, g1, fb1, hσ1, hf1, c1, put1⟩ := er1.at (i := i) (s := .no) (by rw [List.getElem?_set_self hi])
      cases c1
      have cr : CR K F' H' (.ref a) (.ow (ds.map .im)) [a] := .ow hn hp (CRs.ofIms hr)
      have er2 := put1 F' H' (some (.ref a)) (.c (.ow (ds.map .im))) [a] (fun _ _ h => h) (fun _ _ _ h => h) (fun x hx => own x (by rw [hff, hf1]; rcases List.mem_append.mp hx with z | z <;> simp [z])) (.c cr)
      rw [set_id hσ, List.set_set, set_id hσ] at er2
      have nd := go.nd
      rw [hff, hf1] at nd
      have ndf : (fa1 ++ ([a] ++ fb1)).Nodup := by
        simp only [List.nil_append, List.nodup_append, List.mem_append, List.nodup_cons, List.cons_append, List.mem_cons] at nd ⊢
        grind
      refine ⟨_, ⟨go.st.wide fun x hx => ?_, ⟨go.sr.sub, er2, rfl, by simpa using ndf⟩, ?_, fun x hx => ?_, fun h => by cases h⟩⟩
      · unfold mus at hx ⊢
        rw [if_neg (by simp)] at hx ⊢
        simpa using hf x (by simpa using hx)
      · simp only [List.nil_append, List.nodup_append, List.mem_append, List.nodup_cons, List.cons_append, List.mem_cons] at nd ⊢
        grind
      · have hnw := go.nw
        rw [hff, hf1] at hnw
        simp only [List.nil_append, List.mem_append, List.mem_cons, List.cons_append] at hx hnw
        by_cases ea : x = a
        · subst ea
          exact .inl (hf x (List.mem_cons_self ..))
        · rcases hnw x (by grind) with z | z
          · exact .inl (hf x (List.mem_cons_of_mem _ z))
          · exact .inr z
    · cases e
  · cases e
theorem s_loopV (sx : SX tx cf k N X) {t : MT} {i : Nat} {tg iter : Expr} {body : List Stmt} {pos : Pos} {tb : Sta → Option Out} (hi : nm1 N X.env.scope i iter = true) (hg : PG X tg (tG X.K t)) (hb : PSs X body (tS X.K tb)) :
    PS X (.For tg iter body [] pos) (tS X.K fun S => match S.ρ[i]? with
    | some .io => loopIo t tb 10000000 0 S
    | _ => (lend i S).bind fun S1 => (loopIo t tb 10000000 0 S1).bind (outU i)) := by
  obtain ⟨x, px, rfl, h1, h2, h3, h4⟩ := nm1_of hi
  refine (ps_for sx.own sx.fx.calm (pi_list (pe_var (i := i) (by rw [sx.fx.hN]; exact h1) h2 h3 h4)) hg hb fun _ => rfl).imp fun D σ H ⟨F, S, p, l, f, sr, o, e, kk⟩ => ?_
  dsimp only at e
  split at e
  · rename_i hd
    obtain ⟨o0, f1, g, f2, a, b, c, _⟩ := sr.er.at hd
    cases c
    have e' := e
    unfold loopIo at e'
    split at e'
    · cases e'
    · rename_i ds hio
      have io := sr.ior
      rw [hio] at io
      obtain ⟨_, hn, vs, hp, hr⟩ := io
      exact ⟨_, a, p, rfl, ⟨vs, .inl (.inl hp)⟩, live_ok sr e kk⟩
  · simp only [Option.bind_eq_some_iff] at e
    obtain ⟨S1, e1, o1, e2, e3⟩ := e
    obtain ⟨rfl, a, f1, hσ, sr1, hf⟩ := lend_sr sr e1
    have io : ∃ vs, H a = some (.lst vs) := by
      have io := sr1.ior
      unfold IoR at io
      split at io
      · cases io
      · obtain ⟨_, _, vs, h, _⟩ := io; exact ⟨vs, h⟩
    obtain ⟨vs, hp⟩ := io
    refine ⟨_, hσ, a, rfl, ⟨vs, .inl (.inl hp)⟩, live_ok sr1 e2 ?_⟩
    cases o1 with
    | nx S2 =>
      simp only [outU, Option.map_eq_some_iff] at e3
      obtain ⟨S3, e4, rfl⟩ := e3
      exact fun F' H' σ' f' b => by
        obtain ⟨f3, g3⟩ := unl_go (q := p) (S := S) b e4 hf
        exact kk _ _ _ _ g3
    | rt c S2 =>
      simp only [outU, Option.map_eq_some_iff] at e3
      obtain ⟨S3, e4, rfl⟩ := e3
      exact fun v F' H' σ' f' g b cr => by
        obtain ⟨f3, g3⟩ := unl_go (q := p) (S := S) b e4 hf
        exact kk _ _ _ _ _ _ g3 cr
    | bk S2 => cases e3
    | ct S2 => cases e3
theorem isLoc_lc {sc : Scope} {x : Str} (h : isLoc sc x = true) : lcB sc x = true := by
  unfold lcB; rw [loc_of h]
theorem sw_noLc {v : Expr} {x : Str} {px : Pos} {ln : Nat} {env : Env} (h : isLc v = false) (pl : plE v = true) : swapsWith v (some (.Name x px)) ln env = pure false := by
  cases v <;> first | rfl | (simp [isLc] at h; done) | (simp [plE] at pl; done)
/-- the target of a stored comprehension -/
theorem sw_lc {elt : Expr} {gs : List Comprehension} {scope : Scope} {cp : Pos} {x : Str} {px : Pos} {ln : Nat} (kd : X.env.scope.kind = .function) (hx : lcB X.env.scope x = true) (h : swB X.env.scope x px (.ListComp elt gs scope cp) = true) :
    (X.env.scope.names.lookup x = some .local ∧ swapsWith (.ListComp elt gs scope cp) (some (.Name x px)) ln X.env = pure true) ∨ swapsWith (.ListComp elt gs scope cp) (some (.Name x px)) ln X.env = pure false := by
  unfold swB at h
  rcases lc_name hx with h1 | h1
  · rw [h1] at h
    simp only [Bool.and_eq_true, Bool.not_eq_true'] at h
    exact .inl ⟨h1, sw_true kd h1 h.1 h.2⟩
  · refine .inr ?_
    unfold swapsWith
    dsimp only
    unfold Env.kindOf
    rw [h1]
    have e1 : (some NameKind.cell == some NameKind.local) = false := rfl
    rw [e1, Bool.and_false, Bool.false_and, Bool.false_and]
theorem noTup {tx : Txt} {N : List Str} {sc : Scope} {v : Expr} {xs : List Expr} {k1 : Nat} {p1 : Pos} {env : Env} (h : ∀ vs k p, v ≠ .Tuple vs k p) : swappedStores [.Tuple xs k1 p1] v env = pure none := by
  cases v <;> first | rfl | exact absurd rfl (h _ _ _)
theorem k_asgs (sx : SX tx cf k N X) {t : MT} {e : ME} {st : Stmt} (h : mtS tx N X.env.scope (.asg t e) st = true) : PS X st (tS X.K (run cf (.asg t e))) := by
  cases st with
  | Assign tgs v pos =>
    rcases tgs with _ | ⟨tg, _ | ⟨tg2, tgs⟩⟩
    · cases t <;> simp [mtS] at h
    · cases t with
      | nm i =>
        cases tg with
        | Name x px =>
          simp only [mtS, Bool.and_eq_true, decide_eq_true_eq] at h
          obtain ⟨⟨⟨⟨⟨hi, hx⟩, hn⟩, hv⟩, hs⟩, hz⟩ := h
          have me := mt_ok e sx.fx hv
          cases hl : isLc v with
          | false => exact s_asg sx hi hx (sw_noLc hl (plE_of hv)) me.pe
          | true =>
            cases v with
            | ListComp elt gs scope cp =>
              rcases sw_lc (ln := pos.line) sx.kd hx hs with ⟨h1, h2⟩ | h2
              · cases e with
                | comp own el t it c =>
                  obtain ⟨x', tg, iter, ifs, scope', p', e', hk, hi', ht, hc, he, hl'⟩ := mt_comp hv
                  cases e'
                  exact (ps_setLc sx.fx.calm (by rw [sx.fx.hN]; exact sx.fx.nd) (by rw [sx.fx.hN]; exact hi) h1 h2 (mtI_ok it sx.fx hi') (blkOk_by (by rw [sx.fx.hN]; exact hk)) (fun s H C cl fp => s_tgt (X := X.blk s H scope (compEnvC scope cl C X.env) fp) sx.fx.hN sx.fx.nd sx.fx.calm (loc_blk s H C cl fp) ht)
                    (fun s H C cl fp => (mts_ok c (sx.fx.blk s H scope _ fp) hc).pts hl') (fun s H C cl fp => (mt_ok el (sx.fx.blk s H scope _ fp) he).pe) fun x => folded_pl (plI_of hi') _ x).imp fun D σ H h => k_comp (tgt_sl ht) (k_asg h)
                | comp2 own el t it c vs1 t1 it1 c1 =>
                  obtain ⟨x', tg, iter, ifs, tg1, iter1, ifs1, scope', p', e', hk, hi', ht, hc, hi1, ht1, hc1, he, hl', hl1⟩ := mt_comp2 hv
                  cases e'
                  have hv' : ∀ i ∈ vs1, i ∈ own.map (·.2) ∨ True := fun _ _ => .inr trivial
                  by_cases hvs : ∀ i ∈ vs1, i ∈ own.map (·.2)
                  · exact (ps_setLc2 sx.fx.calm (by rw [sx.fx.hN]; exact sx.fx.nd) (by rw [sx.fx.hN]; exact hi) h1 h2 (mtI_ok it sx.fx hi') (blkOk_by (by rw [sx.fx.hN]; exact hk)) hvs (fun s H C cl fp => s_tgt (X := X.blk s H scope (compEnvC scope cl C X.env) fp) sx.fx.hN sx.fx.nd sx.fx.calm (loc_blk s H C cl fp) ht)
                      (fun s H C cl fp => (mts_ok c (sx.fx.blk s H scope _ fp) hc).pts hl') (fun s H C cl fp => mtI_ok it1 (sx.fx.blk s H scope _ fp) hi1) (fun s H C cl fp => s_tgt (X := X.blk s H scope (compEnvC scope cl C X.env) fp) sx.fx.hN sx.fx.nd sx.fx.calm (loc_blk s H C cl fp) ht1)
                      (fun s H C cl fp => (mts_ok c1 (sx.fx.blk s H scope _ fp) hc1).pts hl1) (fun s H C cl fp => (mt_ok el (sx.fx.blk s H scope _ fp) he).pe) (fun x => folded_pl (plI_of hi') _ x) fun env x => folded_pl (plI_of hi1) env x).imp fun D σ H h => k_comp2 hvs (tgt_sl ht) (tgt_sl ht1) (k_asg h)
                  · refine ps_never.imp fun D σ H ⟨F, S, p, l, f, sr, o, e, kk⟩ => hvs ?_
                    simp only [run, ev, evB, mkV, Option.bind_eq_some_iff] at e
                    obtain ⟨q, ⟨q1, e1, e2⟩, e3⟩ := e
                    split at e2
                    · cases e2
                    · rename_i hc
                      simp only [Bool.or_eq_true, Bool.not_eq_true', not_or, Bool.not_eq_false, List.all_eq_true, List.any_eq_true, beq_iff_eq] at hc
                      intro i hi
                      obtain ⟨z, hz, rfl⟩ := hc.2 i hi
                      exact List.mem_map.mpr ⟨z, hz, rfl⟩
                | never => exact PS.void fun S => rfl
                | fz m => simp [ME.noFz, isLc] at hz
                | var i => obtain ⟨x, p, e', _⟩ := nm1_of (N := N) (sc := X.env.scope) (i := i) (by unfold mt at hv; exact hv); cases e'
                | fvar i => obtain ⟨x, p, e', _⟩ := nm1_of (N := N) (sc := X.env.scope) (i := i) (by unfold mt at hv; exact hv); cases e'
                | mvar i => obtain ⟨x, p, e', _⟩ := nm1_of (N := N) (sc := X.env.scope) (i := i) (by unfold mt at hv; exact hv); cases e'
                | _ => simp [mt] at hv
              · exact s_asg sx hi hx h2 me.pe
            | _ => simp [isLc] at hl
        | _ => simp [mtS] at h
      | tp ts =>
        cases tg with
        | Tuple xs kk pp =>
          simp only [mtS, Bool.and_eq_true] at h
          obtain ⟨⟨ht, hv⟩, hs⟩ := h
          refine s_asgT sx ht ?_ (mt_ok e sx.fx hv).pe
          cases v with
          | Tuple vs k p => exact sw_none sx.kd hs
          | _ => rfl
        | _ => simp [mtS] at h
    · cases t <;> cases tg <;> exact nomatch (show false = true from h)
  | _ => cases t <;> exact nomatch (show false = true from h)
theorem k_pars (sx : SX tx cf k N X) {is : List Nat} {es : Es} {st : Stmt} (h : mtS tx N X.env.scope (.par is es) st = true) : PS X st (tS X.K (run cf (.par is es))) := by
  unfold mtS at h
  split at h <;> rename_i e1 <;> first | contradiction | skip
  all_goals
    cases e1
  · simp only [Bool.and_eq_true, decide_eq_true_eq, Bool.not_eq_true'] at h
    obtain ⟨⟨⟨⟨⟨⟨⟨⟨h1, h2⟩, h3⟩, h4⟩, h5⟩, h6⟩, h7⟩, h8⟩, h9⟩ := h
    exact s_par2 sx h1 h2 h3 h4 h5 h6 h7 h8 (mts_pl h9) (mts_ok es sx.fx h9).pa
  · simp only [Bool.and_eq_true, decide_eq_true_eq, Bool.not_eq_true'] at h
    obtain ⟨⟨⟨⟨⟨⟨⟨⟨⟨⟨⟨⟨⟨h1, h2⟩, h3⟩, h4⟩, h5⟩, h6⟩, h7⟩, h8⟩, h9⟩, h10⟩, h11⟩, h12⟩, h13⟩, h14⟩ := h
    exact s_par3 sx h1 h2 h3 h4 h5 h6 h7 h8 h9 h10 h11 h12 h13 (mts_pl h14) (mts_ok es sx.fx h14).pa
theorem k_set1 (sx : SX tx cf k N X) {i : Nat} {j e : ME} {st : Stmt} (h : mtS tx N X.env.scope (.set1 i j e) st = true) : PS X st (tS X.K (run cf (.set1 i j e))) := by
  unfold mtS at h
  split at h <;> rename_i e1 <;> first | contradiction | skip
  cases e1
  simp only [Bool.and_eq_true] at h
  exact s_set1 sx h.1.1 (plE_of h.1.2) (mt_ok j sx.fx h.1.2).pe (mt_ok e sx.fx h.2).pe
theorem k_set2 (sx : SX tx cf k N X) {i : Nat} {a j e : ME} {st : Stmt} (h : mtS tx N X.env.scope (.set2 i a j e) st = true) : PS X st (tS X.K (run cf (.set2 i a j e))) := by
  unfold mtS at h
  split at h <;> rename_i e1 <;> first | contradiction | skip
  cases e1
  simp only [Bool.and_eq_true] at h
  exact s_set2 sx h.1.1.1 (plE_of h.1.1.2) (plE_of h.1.2) (mt_ok a sx.fx h.1.1.2).pe (mt_ok j sx.fx h.1.2).pe (mt_ok e sx.fx h.2).pe
theorem k_app1 (sx : SX tx cf k N X) {i : Nat} {e : ME} {st : Stmt} (h : mtS tx N X.env.scope (.app1 i e) st = true) : PS X st (tS X.K (run cf (.app1 i e))) := by
  unfold mtS at h
  split at h <;> rename_i e1 <;> first | contradiction | skip
  cases e1
  simp only [Bool.and_eq_true, decide_eq_true_eq] at h
  obtain ⟨⟨⟨rfl, h1⟩, h2⟩, h3⟩ := h
  exact s_app1 sx h1 h3 (plE_of h2) (mt_ok e sx.fx h2).pe
theorem k_app2 (sx : SX tx cf k N X) {i : Nat} {a e : ME} {st : Stmt} (h : mtS tx N X.env.scope (.app2 i a e) st = true) : PS X st (tS X.K (run cf (.app2 i a e))) := by
  unfold mtS at h
  split at h <;> rename_i e1 <;> first | contradiction | skip
  cases e1
  simp only [Bool.and_eq_true, decide_eq_true_eq] at h
  obtain ⟨⟨⟨⟨rfl, h1⟩, h0⟩, h2⟩, h3⟩ := h
  exact s_app2 sx h1 h3 (plE_of h0) (plE_of h2) (mt_ok a sx.fx h0).pe (mt_ok e sx.fx h2).pe
theorem k_aug (sx : SX tx cf k N X) {i : Nat} {op : Operator} {e : ME} {st : Stmt} (h : mtS tx N X.env.scope (.aug i op e) st = true) : PS X st (tS X.K (run cf (.aug i op e))) := by
  unfold mtS at h
  split at h <;> rename_i e1 <;> first | contradiction | skip
  cases e1
  simp only [Bool.and_eq_true, decide_eq_true_eq] at h
  obtain ⟨⟨⟨⟨h1, h2⟩, h3⟩, rfl⟩, h4⟩ := h
  exact s_aug sx h1 h2 (mt_ok e sx.fx h4).pe
mutual
theorem mtS_ok (sx : SX tx cf k N X) : ∀ (m : MS) {st : Stmt}, mtS tx N X.env.scope m st = true → PS X st (tS X.K (run cf m))
  | .asg t e, st, h => k_asgs sx h
  | .par is es, st, h => k_pars sx h
  | .parT is es, st, h => by
    unfold mtS at h
    split at h <;> rename_i e1 <;> first | contradiction | skip
    cases e1
    simp only [Bool.and_eq_true] at h
    exact s_parT sx h.1.1 h.1.2 (mts_ok es sx.fx h.2).pa
  | .set1 i j e, st, h => k_set1 sx h
  | .set2 i a j e, st, h => k_set2 sx h
  | .app1 i e, st, h => k_app1 sx h
  | .app2 i a e, st, h => k_app2 sx h
  | .aug i op e, st, h => k_aug sx h
  | .ife c t e, st, h => by
    cases st with
    | If cc tt ee pos =>
      simp only [mtS, Bool.and_eq_true] at h
      exact s_ife (mt_ok c sx.fx h.1.1).pt (mtSs_ok sx t h.1.2) (mtSs_ok sx e h.2)
    | _ => simp [mtS] at h
  | .loop t it b, st, h => by
    cases st with
    | For tg iter body orelse pos =>
      cases orelse with
      | nil =>
        simp only [mtS, Bool.and_eq_true] at h
        exact s_loop sx (mtI_ok it sx.fx h.1.1) (plI_of h.1.1) (s_tgt sx.fx.hN sx.fx.nd sx.fx.calm (fun x h => sx.loc h) h.1.2) (mtSs_ok sx b h.2)
      | cons _ _ => simp [mtS] at h
    | _ => simp [mtS] at h
  | .loopV t i b, st, h => by
    cases st with
    | For tg iter body orelse pos =>
      cases orelse with
      | nil =>
        simp only [mtS, Bool.and_eq_true] at h
        exact s_loopV sx h.1.1 (s_tgt sx.fx.hN sx.fx.nd sx.fx.calm (fun x h => sx.loc h) h.1.2) (mtSs_ok sx b h.2)
      | cons _ _ => simp [mtS] at h
    | _ => simp [mtS] at h
  | .ret e, st, h => by
    cases st with
    | Return v pos =>
      cases v with
      | some v => exact s_ret (mt_ok e sx.fx (by simpa [mtS] using h)).pe
      | none => simp [mtS] at h
    | _ => simp [mtS] at h
  | .retN, st, h => by
    cases st with
    | Return v pos =>
      cases v with
      | some v => simp [mtS, isNone] at h
      | none => exact s_retN
    | _ => simp [mtS] at h
  | .brk, st, h => by
    cases st with
    | Break pos => exact ps_break.imp fun D σ H ⟨F, S, p, l, f, sr, o, e, kk⟩ => by cases e; exact kk _ _ _ _ (.refl sr)
    | _ => simp [mtS] at h
  | .cont, st, h => by
    cases st with
    | Continue pos => exact ps_continue.imp fun D σ H ⟨F, S, p, l, f, sr, o, e, kk⟩ => by cases e; exact kk _ _ _ _ (.refl sr)
    | _ => simp [mtS] at h
  | .pass, st, h => by
    cases st with
    | Pass pos => exact ps_pass.imp fun D σ H ⟨F, S, p, l, f, sr, o, e, kk⟩ => by cases e; exact kk _ _ _ _ (.refl sr)
    | Expr e pos =>
      cases e with
      | Constant c k' pp =>
        cases c with
        | str x => exact ps_doc.imp fun D σ H ⟨F, S, p, l, f, sr, o, e, kk⟩ => by cases e; exact kk _ _ _ _ (.refl sr)
        | _ => simp [mtS] at h
      | _ => simp [mtS] at h
    | _ => simp [mtS] at h
  | .ex e, st, h => by
    cases st with
    | Expr v pos =>
      simp only [mtS, Bool.and_eq_true, Bool.not_eq_true'] at h
      exact s_ex h.2 (plE_of h.1) (mt_ok e sx.fx h.1).pe
    | _ => simp [mtS] at h
  | .never, st, h => PS.void fun S => rfl
theorem mtSs_ok (sx : SX tx cf k N X) : ∀ (m : MSs) {st : List Stmt}, mtSs tx N X.env.scope m st = true → PSs X st (tS X.K (runs cf m))
  | .nil, st, h => by
    cases st with
    | nil => exact pss_nil.imp fun D σ H ⟨F, S, p, l, f, sr, o, e, kk⟩ => by cases e; exact kk _ _ _ _ (.refl sr)
    | cons _ _ => simp [mtSs] at h
  | .cons s ss, st, h => by
    cases st with
    | nil => simp [mtSs] at h
    | cons t ts =>
      simp only [mtSs, Bool.and_eq_true] at h
      exact s_seq (mtS_ok sx s h.1) (mtSs_ok sx ss h.2)
  | .kill is ss, st, h => by
    have h' : mtSs tx N X.env.scope ss st = true := by
      unfold mtSs at h; exact h
    exact s_kill (mtSs_ok sx ss h')
  | .frz is ss, st, h => by
    have h' : mtSs tx N X.env.scope ss st = true := by
      unfold mtSs at h; exact h
    exact s_frz (mtSs_ok sx ss h')
end
end
end Mi
/-! Defs: each table of defs that stands to a text keeps its promise. -/
namespace Mi
open PySem PySem.Spec L2
section
variable {P : Program} {w : World} {K : PySem.W.Frag} {mg : Str → Option Value} {base : Heap} {T : Tab} {tx : Txt}
/-- one def of the text -/
structure Df (K : PySem.W.Frag) (mg : Str → Option Value) (tx : Txt) (fn : Fn) (fa : Addr) (fd : FuncData) (st : Stmt) (qual : Str) : Prop where
  mg : mg fn.name = some (.ref fa)
  kp : PySem.W.keepIn K (.ref fa) = true
  bd : Binds K fd fn.ps []
  fu : Fun K fn.name qual st fa fd
  sc : FnScope fn.N fn.ps (defScope st)
  io : fn.io = true → fn.ps ≠ []
  tx : mtSs tx fn.N (defScope st) fn.body (defBody st) = true
/-- all defs of the text -/
structure Tx (K : PySem.W.Frag) (mg : Str → Option Value) (T : Tab) (tx : Txt) : Prop where
  fs : tx.fs = T.map fun fn => (fn.name, fn.io)
  df : ∀ (i : Nat) (fn : Fn), (T : List Fn)[i]? = some fn → ∃ fa fd st qual, Df K mg tx fn fa fd st qual
  cst : ∀ x i, (x, i) ∈ tx.cs → ∃ t, mg x = some (.int i t)
  blt : ∀ x ∈ (["len", "int", "max", "min", "sum", "any", "all", "abs", "list", "sorted", "range", "enumerate", "zip", "isinstance", "bool", "str", "tuple", "repr"] : List Str), mg x = none
def stOf (fn : Fn) (ds : List D) (u : Option (List D)) : Sta := { ρ := (if fn.io then [Sl.io] else []) ++ start0 (fn.N.length - (if fn.io then 1 else 0)) ds, io := u }
theorem callF_inv {k f : Nat} {fn : Fn} {ds : List D} {u : Option (List D)} {r : Cell × Option (List D)} (hf : T[f]? = some fn) (h : callF T (k + 1) f ds u = some r) : (u.isSome = fn.io ∧ r.2.isSome = fn.io ∧ ds.length + (if fn.io then 1 else 0) = fn.ps.length) ∧
    ∃ o, runs (callF T k) fn.body (stOf fn ds u) = some o ∧ ((∃ c S, o = .rt c S ∧ r = (c, S.io)) ∨ (∃ S, o = .nx S ∧ r = (.im .non, S.io))) := by
  unfold callF at h
  rw [hf] at h
  have h : (if (fn.io != u.isSome || ds.length + (if fn.io then 1 else 0) != fn.ps.length) = true then none else
      match runs (callF T k) fn.body (stOf fn ds u) with
      | some (.rt c S) => if (S.io.isSome != fn.io) = true then none else some (c, S.io)
      | some (.nx S) => if (S.io.isSome != fn.io) = true then none else some (.im .non, S.io)
      | _ => none) = some r := h
  by_cases hc : (fn.io != u.isSome || ds.length + (if fn.io then 1 else 0) != fn.ps.length) = true
  · rw [if_pos hc] at h; cases h
  rw [if_neg hc] at h
  simp only [Bool.or_eq_true, bne_iff_ne, ne_eq, not_or, Decidable.not_not] at hc
  cases ho : runs (callF T k) fn.body (stOf fn ds u) with
  | none => rw [ho] at h; cases h
  | some o =>
    rw [ho] at h
    cases o with
    | rt c S =>
      have h : (if (S.io.isSome != fn.io) = true then none else some (c, S.io)) = some r := h
      by_cases hz : (S.io.isSome != fn.io) = true
      · rw [if_pos hz] at h; cases h
      · rw [if_neg hz] at h
        cases h
        exact ⟨⟨hc.1.symm, by simpa using hz, hc.2⟩, _, rfl, .inl ⟨_, _, rfl, rfl⟩⟩
    | nx S =>
      have h : (if (S.io.isSome != fn.io) = true then none else some (Cell.im D.non, S.io)) = some r := h
      by_cases hz : (S.io.isSome != fn.io) = true
      · rw [if_pos hz] at h; cases h
      · rw [if_neg hz] at h
        cases h
        exact ⟨⟨hc.1.symm, by simpa using hz, hc.2⟩, _, rfl, .inr ⟨_, rfl, rfl⟩⟩
    | bk S => cases h
    | ct S => cases h
theorem callF_facts {k f : Nat} {fn : Fn} {ds : List D} {u : Option (List D)} {r : Cell × Option (List D)} (hf : T[f]? = some fn) (h : callF T k f ds u = some r) : u.isSome = fn.io ∧ r.2.isSome = fn.io ∧ ds.length + (if fn.io then 1 else 0) = fn.ps.length := by
  cases k with
  | zero => cases h
  | succ k => exact (callF_inv hf h).1
theorem er_no {F H : Hp} {p : Addr} : ∀ n : Nat, ER K F H p (List.replicate n none) (List.replicate n .no) []
  | 0 => .nil
  | n + 1 => by
    have := ER.cons (SlR.no (K := K) (F := F) (H := H) (p := p) (o := none)) (er_no n)
    simpa [List.replicate_succ] using this
theorem er_args {F H : Hp} {p : Addr} (n : Nat) : ∀ {ds : List D} {vs : List V}, RpA K F vs ds → ER K F H p (vs.map some ++ List.replicate n none) (ds.map (fun d => Sl.c (.im d)) ++ List.replicate n .no) []
  | [], _, h => by cases h; exact er_no n
  | d :: ds, _, h => by
    cases h with
    | cons a b => exact ER.cons (f := []) (.c (.im a)) (er_args n b)
theorem er_start {F H : Hp} {p : Addr} (n : Nat) {ds : List D} {vs : List V} (h : RpA K F vs ds) : ER K F H p (vs.map some ++ List.replicate (n - vs.length) none) (start0 n ds) [] := by
  unfold start0
  rw [h.len]
  exact er_args _ h
theorem fn_ok (X : Tx K mg T tx) : ∀ (k f : Nat) (fn : Fn), T[f]? = some fn → ∀ {fa : Addr} {fd : FuncData} {st : Stmt} {qual : Str}, Df K mg tx fn fa fd st qual → FnG P w K mg base (2 * k) fa fd fn.ps (spF (callF T k) f fn.ps.length K)
  | 0, f, fn, hf, fa, fd, st, qual, d => ⟨fun vs H Q E h => h.1, fun A outer s H args us vs Q E _ _ _ _ _ h => by
      obtain ⟨_, F, u, ws, q, ds, _, _, _, c, u', e, _⟩ := h
      cases e⟩
  | k + 1, f, fn, hf, fa, fd, st, qual, d => by
    refine okG d.fu d.sc (fun vs H Q E h => h.1) (fun cdv A outer s H vs Q E hr hgd h => ?_)
    let X0 := (cxOf CX0 P w K mg base fn.N qual (defScope st) fa cdv A outer s H E).nox
    have fx : Fx tx (callF T k) (2 * k) fn.N X0 := by
      refine ⟨rfl, d.sc.nd, rfl, hr, fun g x b hg => ?_, X.cst, X.blt, hgd⟩
      rw [X.fs, List.getElem?_map] at hg
      simp only [Option.map_eq_some_iff] at hg
      obtain ⟨fn2, hg, e⟩ := hg
      cases e
      obtain ⟨fa2, fd2, st2, q2, d2⟩ := X.df g fn2 hg
      exact ⟨fa2, fd2, fn2.ps, d2.mg, d2.kp, d2.bd, fn_ok X k g fn2 hg d2, fun ds u r hr => callF_facts hg hr⟩
    have sx : SX tx (callF T k) (2 * k) fn.N X0 := ⟨fx, rfl, d.sc.kind, PassesOwn.never⟩
    refine ⟨_, mtSs_ok sx fn.body d.tx, ?_⟩
    obtain ⟨hlen, F, u, ws, q, ds, sub, ia, ra, c, u', e, kk⟩ := h
    obtain ⟨facts, o, ho, hr1⟩ := callF_inv hf e
    have key : ∃ p l, SR K F H (L2.start fn.N vs) (stOf fn ds u) p l [] ∧ q.toList = l ∧ (∀ w, u = some w → q = some p) := by
      cases u with
      | none =>
        have hio : fn.io = false := facts.1.symm
        obtain ⟨rfl, rfl⟩ := ia
        unfold stOf
        rw [hio]
        refine ⟨0, [], ⟨sub, er_start _ ra, rfl, by simp⟩, rfl, fun w h => nomatch h⟩
      | some us0 =>
        have hio : fn.io = true := facts.1.symm
        obtain ⟨p, us, rfl, rfl, h1, h2, h3⟩ := ia
        unfold stOf
        rw [hio]
        refine ⟨p, [p], ⟨sub, ?_, ⟨rfl, h1, us, h2, h3⟩, by simp⟩, rfl, fun w h => rfl⟩
        show ER K F H p ((some (.ref p)) :: (ws.map some ++ List.replicate (fn.N.length - (ws.length + 1)) none)) (Sl.io :: start0 (fn.N.length - 1) ds) []
        have := er_start (K := K) (F := F) (H := H) (p := p) (fn.N.length - 1) ra
        rw [show fn.N.length - (ws.length + 1) = fn.N.length - 1 - ws.length by omega]
        exact ER.cons (f := []) .io this
    obtain ⟨p, l, sr, ql, qp⟩ := key
    have last : ∀ {v : V} {F' H' : Hp} {σ' : L2.St} {S' : Sta} {f' g : List Addr} {c' : Cell}, Go K (L2.start fn.N vs) p l F H (stOf fn ds u) [] false F' H' σ' S' f' g → CR K F' H' v c' g → c' = c → S'.io = u' → Q v H' := by
      intro v F' H' σ' S' f' g c' go cr ec eu
      subst ec eu
      have nd := go.nd
      refine kk v F' H' g (go.st.wide fun x hx => ?_) go.sr.sub cr ?_ (fun a ha => ?_) fun w hw hu => ?_
      · rw [ql]
        unfold mus at hx
        rw [if_neg (by simp)] at hx
        simpa using hx
      · rw [List.nodup_append] at nd
        have := nd.2.1
        rw [List.nodup_append] at this
        exact this.2.1
      · rcases go.nw a (List.mem_append_right _ ha) with z | z
        · cases z
        · exact z
      · have ior := go.sr.ior
        rw [hw] at ior
        obtain ⟨_, h1, us, h2, h3⟩ := ior
        obtain ⟨w0, hw0⟩ := Option.isSome_iff_exists.mp hu
        exact ⟨p, us, qp w0 hw0, h1, h2, h3⟩
    rcases hr1 with ⟨c1, S1, rfl, e2⟩ | ⟨S1, rfl, e2⟩
    · cases e2
      exact ⟨F, _, p, l, [], sr, _, ho, fun v F' H' σ' f' g go cr => last go cr rfl rfl⟩
    · cases e2
      exact ⟨F, _, p, l, [], sr, _, ho, fun F' H' σ' f' go => last go (.im .non) rfl rfl⟩
end
end Mi
/-! From the plain law to the promise of the law's def. -/
namespace Mi
open PySem PySem.Spec L2
theorem law_sp {T : Tab} {K : PySem.W.Frag} {k f : Nat} (h : ∀ ns : List Int, ns.length ≤ 63 → callF T k f [.scr ns] none = some (.im (.bl true), none)) {H : Hp} {a : Addr} {ns : List Int} (hl : ns.length ≤ 63) (hS : SqL K H a (ns.map V.int)) :
    spF (callF T k) f 1 K [V.ref a] H (fun v _ => v = V.bl true) fun _ _ _ => False := by
  refine ⟨rfl, H, none, [V.ref a], none, [.scr ns], fun _ _ h => h, ⟨rfl, rfl⟩, .cons (.scr hS) .nil, _, _, h ns hl, fun v F' H' g st sub cr nd hn _ => ?_⟩
  cases cr with
  | im r => cases r; rfl
end Mi
/-! Step rules of the small language, for simp. -/
namespace Mi
open L2
section
variable {cf : CF} {S S1 : Sta} {a b c e : ME} {es : Es} {i : Nat}
@[simp] theorem x_fst_own (c : Cell) : (R.own c).c = c := rfl
@[simp] theorem x_fst_bor (c : Cell) : (R.bor c).c = c := rfl
@[simp] theorem x_bor_own (c : Cell) : (R.own c).isBor = false := rfl
@[simp] theorem x_bor_bor (c : Cell) : (R.bor c).isBor = true := rfl
@[simp] theorem x_frz_im (d : D) : (Cell.im d).frz = d := rfl
@[simp] theorem x_frz_ow (cs : List Cell) : (Cell.ow cs).frz = .lst (Cell.frzs cs) := rfl
@[simp] theorem x_frzs_nil : Cell.frzs [] = [] := rfl
@[simp] theorem x_frzs_cons (c : Cell) (cs : List Cell) : Cell.frzs (c :: cs) = c.frz :: Cell.frzs cs := rfl
@[simp] theorem x_frzs_app : ∀ (cs es : List Cell), Cell.frzs (cs ++ es) = Cell.frzs cs ++ Cell.frzs es
  | [], _ => rfl
  | c :: cs, es => by rw [List.cons_append, x_frzs_cons, x_frzs_app cs es]; rfl
@[simp] theorem x_frzs_map (ds : List D) : Cell.frzs (ds.map .im) = ds := frzs_map ds
@[simp] theorem x_frzs_map2 {α : Type} (f : α → D) (xs : List α) : Cell.frzs (xs.map fun x => .im (f x)) = xs.map f := by
  induction xs with
  | nil => rfl
  | cons x xs ih => simp [ih]
@[simp] theorem x_frzs_map3 {α : Type} (f : α → D) (xs : List α) : Cell.frzs (xs.map (Cell.im ∘ f)) = xs.map f := x_frzs_map2 f xs
@[simp] theorem x_ims_nil : Cell.ims [] = some [] := rfl
@[simp] theorem x_ims_cons (d : D) (cs : List Cell) : Cell.ims (.im d :: cs) = (Cell.ims cs).map (d :: ·) := rfl
@[simp] theorem x_ims_map (ds : List D) : Cell.ims (ds.map .im) = some ds := ims_map ds
@[simp] theorem x_ims_map2 {α : Type} (f : α → D) (xs : List α) : Cell.ims (xs.map fun x => .im (f x)) = some (xs.map f) := by
  induction xs with
  | nil => rfl
  | cons x xs ih => simp [ih]
@[simp] theorem x_ims_map3 {α : Type} (f : α → D) (xs : List α) : Cell.ims (xs.map (Cell.im ∘ f)) = some (xs.map f) := x_ims_map2 f xs
theorem ims_app : ∀ {cs : List Cell} {ds : List D} (es : List Cell), Cell.ims cs = some ds → Cell.ims (cs ++ es) = (Cell.ims es).map (ds ++ ·)
  | [], ds, es, h => by cases h; rw [List.nil_append]; cases Cell.ims es <;> rfl
  | .im d :: cs, ds, es, h => by
    simp only [x_ims_cons, Option.map_eq_some_iff] at h
    obtain ⟨ds', h, rfl⟩ := h
    simp only [List.cons_append, x_ims_cons, ims_app es h]
    cases Cell.ims es <;> rfl
  | .ow _ :: _, _, _, h => by cases h
@[simp] theorem x_ims_mapapp (ds : List D) (es : List Cell) : Cell.ims (ds.map .im ++ es) = (Cell.ims es).map (ds ++ ·) := ims_app es (ims_map ds)
@[simp] theorem x_els_lst (ds : List D) : (Cell.im (.lst ds)).els = some ds := rfl
@[simp] theorem x_els_ow (cs : List Cell) : (Cell.ow cs).els = Cell.ims cs := rfl
@[simp] theorem x_its_lst (ds : List D) : (Cell.im (.lst ds)).its = some ds := rfl
@[simp] theorem x_its_tup (ds : List D) : (Cell.im (.tup ds)).its = some ds := rfl
@[simp] theorem x_its_scr (ns : List Int) : (Cell.im (.scr ns)).its = some (ns.map D.int) := rfl
@[simp] theorem x_its_ow (cs : List Cell) : (Cell.ow cs).its = Cell.ims cs := rfl
@[simp] theorem x_rits_ow (cs : List Cell) : (R.own (.ow cs)).its = some (Cell.frzs cs) := rfl
@[simp] theorem x_rits_im (d : D) : (R.own (.im d)).its = (Cell.im d).its := rfl
@[simp] theorem x_rits_bor (c : Cell) : (R.bor c).its = c.its := rfl
@[simp] theorem x_tru_bl (b : Bool) : (D.bl b).tru = some b := rfl
@[simp] theorem x_tru_int (i : Int) : (D.int i).tru = some (i != 0) := rfl
@[simp] theorem x_tru_lst (ds : List D) : (D.lst ds).tru = some !ds.isEmpty := rfl
@[simp] theorem x_tru_tup (ds : List D) : (D.tup ds).tru = some !ds.isEmpty := rfl
@[simp] theorem x_tru_non : D.non.tru = some false := rfl
theorem atI_nat {α : Type} (xs : List α) (n : Nat) : atI xs (n : Int) = xs[n]? := by
  unfold atI ixN
  rw [if_pos (by omega)]
  split
  · simp
  · rw [List.getElem?_eq_none (by omega)]; rfl
@[simp] theorem x_at0 {α : Type} (xs : List α) : atI xs 0 = xs[0]? := atI_nat xs 0
@[simp] theorem x_at1 {α : Type} (xs : List α) : atI xs 1 = xs[1]? := atI_nat xs 1
@[simp] theorem x_at2 {α : Type} (xs : List α) : atI xs 2 = xs[2]? := atI_nat xs 2
theorem ixN_nat {n i : Nat} (h : i < n) : ixN n (i : Int) = some i := by
  unfold ixN
  rw [if_pos (by omega), if_pos (by omega)]; simp
theorem ixN_0 (n : Nat) : ixN (n + 1) 0 = some 0 := by simp [ixN]
/-! terms -/
@[simp] theorem x_rdV (i : Nat) (S : Sta) : rdV i S = match S.ρ[i]? with
  | some (.c (.im d)) => some (.own (.im d))
  | some (.c (.ow cs)) => some (.bor (.ow cs))
  | some .io => S.io.map fun ds => .bor (.ow (ds.map .im))
  | _ => none := rfl
@[simp] theorem x_mkV_v (f : Sta → Option (R × Sta)) (S : Sta) : (mkV f).v S = f S := rfl
@[simp] theorem x_mkV_t (f : Sta → Option (R × Sta)) (S : Sta) : (mkV f).t S = (f S).bind fun p => p.1.c.frz.tru.map fun b => (b, p.2) := rfl
@[simp] theorem x_var : evB cf (.var i) = mkV fun S => (rdV i S).map fun r => (r, S) := rfl
@[simp] theorem x_fvar : evB cf (.fvar i) = mkV fun S => match S.ρ[i]? with
    | some (.c c) => some (.own (.im c.frz), ⟨S.ρ.set i (.c (.im c.frz)), S.io⟩)
    | _ => none := rfl
@[simp] theorem x_mvar : evB cf (.mvar i) = mkV fun S => match S.ρ[i]? with
    | some (.c c) => some (.own c, ⟨S.ρ.set i .no, S.io⟩)
    | _ => none := rfl
@[simp] theorem x_non : evB cf .non = mkV fun S => some (.own (.im .non), S) := rfl
@[simp] theorem x_bl (b : Bool) : evB cf (.bl b) = mkV fun S => some (.own (.im (.bl b)), S) := rfl
@[simp] theorem x_int (k : Int) : evB cf (.int k) = mkV fun S => some (.own (.im (.int k)), S) := rfl
@[simp] theorem x_str (s : PySem.Str) : evB cf (.str s) = mkV fun S => some (.own (.im (.str s)), S) := rfl
@[simp] theorem x_glob (x : PySem.Str) (k : Int) : evB cf (.glob x k) = mkV fun S => some (.own (.im (.int k)), S) := rfl
@[simp] theorem x_bin (op : PySem.Operator) : evB cf (.bin op a b) = mkV fun S => ((evB cf a).v S).bind fun p => ((evB cf b).v p.2).bind fun q =>
    if p.1.isBor && !b.pure then none else (binC op p.1.c q.1.c).map fun c => (.own c, q.2) := rfl
@[simp] theorem x_neg : evB cf (.neg a) = mkV fun S => ((evB cf a).v S).bind fun p => match p.1 with | .own (.im (.int i)) => some (.own (.im (.int (-i))), p.2) | _ => none := rfl
@[simp] theorem x_cmp (op : PySem.CmpOp) : evB cf (.cmp op a b) = mkV fun S => ((evB cf a).v S).bind fun p => ((evB cf b).v p.2).bind fun q =>
    if p.1.isBor && !b.pure then none else (scmp op p.1.c.frz q.1.c.frz).map fun k => (.own (.im (.bl k)), q.2) := rfl
@[simp] theorem x_chain (o1 o2 : PySem.CmpOp) : evB cf (.chain o1 o2 a b c) = mkV fun S => ((evB cf a).v S).bind fun p => ((evB cf b).v p.2).bind fun q => match p.1, q.1 with
    | .own (.im x), .own (.im y) => (scmp o1 x y).bind fun k =>
      if k then ((evB cf c).v q.2).bind fun r => (scmp o2 y r.1.c.frz).map fun k2 => (.own (.im (.bl k2)), r.2)
      else some (.own (.im (.bl false)), q.2)
    | _, _ => none := rfl
@[simp] theorem x_and_v : (evB cf (.and a b)).v S = ((evB cf a).v S).bind fun p => match p.1 with
    | .own (.im (.bl true)) => (evB cf b).v p.2
    | .own (.im (.bl false)) => some (.own (.im (.bl false)), p.2)
    | _ => none := rfl
@[simp] theorem x_and_t : (evB cf (.and a b)).t S = ((evB cf a).t S).bind fun p => if p.1 then (evB cf b).t p.2 else some (false, p.2) := rfl
@[simp] theorem x_or_v : (evB cf (.or a b)).v S = ((evB cf a).v S).bind fun p => match p.1 with
    | .own (.im (.bl true)) => some (.own (.im (.bl true)), p.2)
    | .own (.im (.bl false)) => (evB cf b).v p.2
    | _ => none := rfl
@[simp] theorem x_or_t : (evB cf (.or a b)).t S = ((evB cf a).t S).bind fun p => if p.1 then some (true, p.2) else (evB cf b).t p.2 := rfl
@[simp] theorem x_one : evB cf (.one a) = evB cf a := rfl
@[simp] theorem x_not_v : (evB cf (.not a)).v S = ((evB cf a).v S).bind fun p => p.1.c.frz.tru.map fun b => (.own (.im (.bl !b)), p.2) := rfl
@[simp] theorem x_not_t : (evB cf (.not a)).t S = ((evB cf a).t S).map fun p => (!p.1, p.2) := rfl
@[simp] theorem x_ite_v : (evB cf (.ite a b c)).v S = ((evB cf a).t S).bind fun p => if p.1 then (evB cf b).v p.2 else (evB cf c).v p.2 := rfl
@[simp] theorem x_tup : evB cf (.tup es) = mkV fun S => ((evsB cf es).v S).bind fun p => (ownC p.1).bind fun cs => if cs.length ≤ 16777216 then some (.own (.im (.tup (Cell.frzs cs))), p.2) else none := rfl
@[simp] theorem x_lst : evB cf (.lst es) = mkV fun S => ((evsB cf es).v S).bind fun p => (ownC p.1).bind fun cs => if cs.length ≤ 16777216 then some (.own (.ow cs), p.2) else none := rfl
@[simp] theorem x_idx : evB cf (.idx a b) = mkV fun S => ((evB cf a).v S).bind fun p => ((evB cf b).v p.2).bind fun q =>
    if p.1.isBor && !b.pure then none else match q.1 with
      | .own (.im (.int k)) => (idxR p.1 k).map fun r => (r, q.2)
      | _ => none := rfl
@[simp] theorem x_rev : evB cf (.rev a) = mkV fun S => ((evB cf a).v S).bind fun p => p.1.c.els.map fun ds => (.own (.ow (ds.reverse.map .im)), p.2) := rfl
@[simp] theorem x_slc : evB cf (.slc a b c) = mkV fun S => ((evB cf a).v S).bind fun p =>
      if b.pure && c.pure then
        (if b.isNo then some none else (intOf ((evB cf b).v p.2)).map some).bind fun l => (if c.isNo then some none else (intOf ((evB cf c).v p.2)).map some).bind fun h =>
          p.1.c.els.map fun ds => (.own (.ow ((cutL ds l h).map .im)), p.2)
      else none := rfl
@[simp] theorem x_comp (own : List (PySem.Str × Nat)) (t : MT) (it : MI) : evB cf (.comp own e t it es) = mkV fun S => (evIB cf it S).bind fun p =>
    if (p.1 && !(e.pure && es.pure)) || !(own.all fun q => (p.2.2.ρ.getD q.2 .no).isIm) then none else
    (compL (own.map (·.2)) t (evsB cf es).t (evB cf e).v p.2.1 p.2.2 []).map fun q =>
      (.own (.ow q.1), ⟨backS p.2.2.ρ q.2.ρ (own.map (·.2)), q.2.io⟩) := rfl
@[simp] theorem x_comp2 (own : List (PySem.Str × Nat)) (t t1 : MT) (it it1 : MI) (c1 : Es) (vs1 : List Nat) : evB cf (.comp2 own e t it es vs1 t1 it1 c1) = mkV fun S => (evIB cf it S).bind fun p =>
    if (p.1 && !(e.pure && es.pure && it1.pure && c1.pure)) || !(own.all fun q => (p.2.2.ρ.getD q.2 .no).isIm) || !(vs1.all fun i => own.any fun q => q.2 == i) then none else
    (compL2 (own.map (·.2)) t (evsB cf es).t (fun S acc => (evIB cf it1 S).bind fun p1 =>
        if p1.1 && !(e.pure && c1.pure) then none else compL vs1 t1 (evsB cf c1).t (evB cf e).v p1.2.1 p1.2.2 acc) p.2.1 p.2.2 []).map fun q =>
      (.own (.ow q.1), ⟨backS p.2.2.ρ q.2.ρ (own.map (·.2)), q.2.io⟩) := rfl
@[simp] theorem x_call (f : Nat) : evB cf (.call f es) = mkV fun S => ((evsB cf es).v S).bind fun p => match ownC p.1 with
      | some cs => (cf f (Cell.frzs cs) none).map fun q => (.own q.1, p.2)
      | none => (cf f (p.1.map fun r => r.c.frz) none).bind fun q => if q.1.scal then some (.own q.1, p.2) else none := rfl
@[simp] theorem x_callIo (f i : Nat) : evB cf (.callIo f i es) = mkV fun S => if !ownB S i then none else ((evsB cf es).v S).bind fun p => (ownC p.1).bind fun cs => match p.2.ρ[i]? with
      | some .io => p.2.io.bind fun u => (cf f (Cell.frzs cs) (some u)).bind fun q => q.2.map fun w => (.own q.1, ⟨p.2.ρ, some w⟩)
      | some (.c (.ow xs)) => (Cell.ims xs).bind fun u => (cf f (Cell.frzs cs) (some u)).bind fun q => q.2.map fun w => (.own q.1, ⟨p.2.ρ.set i (.c (.ow (w.map .im))), p.2.io⟩)
      | _ => none := rfl
@[simp] theorem x_blt (x : PySem.Str) : evB cf (.blt x es) = mkV fun S => ((evsB cf es).v S).bind fun p => (bltC x (p.1.map R.c)).map fun c => (.own c, p.2) := rfl
theorem x_lrng1 : evB cf (.lrng1 a) = mkV fun S => ((evB cf a).v S).bind fun p => match p.1 with
      | .own (.im (.int n)) => if 0 ≤ n ∧ n ≤ 16777216 then some (.own (.ow ((rngD 0 n).map .im)), p.2) else none
      | _ => none := rfl
@[simp] theorem x_isi (tup : Bool) (ts : List PySem.Str) : evB cf (.isi a tup ts) = mkV fun S => ((evB cf a).v S).bind fun p => (if tup then isiAny p.1.c.frz ts else match ts with | [t] => isiOne p.1.c.frz t | _ => none).map fun b => (.own (.im (.bl b)), p.2) := rfl
@[simp] theorem x_pop0 (i : Nat) : evB cf (.pop0 i) = mkV fun S => match S.ρ[i]? with
      | some (.c (.ow cs)) => cs.getLast?.map fun c => (.own c, ⟨S.ρ.set i (.c (.ow cs.dropLast)), S.io⟩)
      | _ => none := rfl
theorem x_pop (i : Nat) : evB cf (.pop i e) = mkV fun S => if !ownB S i then none else ((evB cf e).v S).bind fun p => match p.1, p.2.ρ[i]? with
      | .own (.im (.int k)), some (.c (.ow cs)) => if -(2 ^ 63) ≤ k ∧ k < 2 ^ 63 then (PySem.seqIndex? k cs.length).bind fun j => cs[j]?.map fun c => (.own c, ⟨p.2.ρ.set i (.c (.ow (cs.eraseIdx j))), p.2.io⟩) else none
      | _, _ => none := rfl
@[simp] theorem x_nil_v : (evsB cf .nil).v S = some ([], S) := rfl
@[simp] theorem x_nil_t : (evsB cf .nil).t S = some (true, S) := rfl
@[simp] theorem x_cons_v : (evsB cf (.cons e es)).v S = ((evB cf e).v S).bind fun p => ((evsB cf es).v p.2).bind fun q =>
    if p.1.isBor && !es.pure then none else some (p.1 :: q.1, q.2) := rfl
@[simp] theorem x_cons_t : (evsB cf (.cons e .nil)).t S = (evB cf e).t S := rfl
@[simp] theorem x_iex : evIB cf (.ex e) S = ((evB cf e).v S).bind fun p => p.1.its.map fun ds => (p.1.isBor, ds, p.2) := rfl
@[simp] theorem x_irng1 : evIB cf (.rng1 a) S = ((evB cf a).v S).bind fun p => match p.1 with
    | .own (.im (.int n)) => if rngOk 0 n then some (false, rngD 0 n, p.2) else none
    | _ => none := rfl
@[simp] theorem x_irng2 : evIB cf (.rng2 a b) S = ((evB cf a).v S).bind fun p => ((evB cf b).v p.2).bind fun q => match p.1, q.1 with
    | .own (.im (.int n)), .own (.im (.int m)) => if rngOk n m then some (false, rngD n m, q.2) else none
    | _, _ => none := rfl
@[simp] theorem x_ienum : evIB cf (.enum e) S = ((evB cf e).v S).bind fun p => p.1.c.els.map fun ds => (p.1.isBor, enumD 0 ds, p.2) := rfl
@[simp] theorem x_izip : evIB cf (.zip a b) S = ((evB cf a).v S).bind fun p => ((evB cf b).v p.2).bind fun q =>
    if p.1.isBor && !b.pure then none else p.1.c.els.bind fun xs => q.1.c.els.map fun ys => (p.1.isBor || q.1.isBor, zipD xs ys, q.2) := rfl
@[simp] theorem x_ownC_nil : ownC [] = some [] := rfl
@[simp] theorem x_ownC_own (c : Cell) (rs : List R) : ownC (.own c :: rs) = (ownC rs).map (c :: ·) := rfl
@[simp] theorem x_ownC_bor (c : Cell) (rs : List R) : ownC (.bor c :: rs) = none := rfl
@[simp] theorem x_intOf (k : Int) (S : Sta) : intOf (some (.own (.im (.int k)), S)) = some k := rfl
/-! purity -/
@[simp] theorem u_var : (ME.var i).pure = true := rfl
@[simp] theorem u_non : ME.non.pure = true := rfl
@[simp] theorem u_no : ME.no.pure = true := rfl
@[simp] theorem u_bl (b : Bool) : (ME.bl b).pure = true := rfl
@[simp] theorem u_int (k : Int) : (ME.int k).pure = true := rfl
@[simp] theorem u_str (k : PySem.Str) : (ME.str k).pure = true := rfl
@[simp] theorem u_glob (x : PySem.Str) (k : Int) : (ME.glob x k).pure = true := rfl
@[simp] theorem u_bin (op : PySem.Operator) : (ME.bin op a b).pure = (a.pure && b.pure) := rfl
@[simp] theorem u_cmp (op : PySem.CmpOp) : (ME.cmp op a b).pure = (a.pure && b.pure) := rfl
@[simp] theorem u_chain (o p : PySem.CmpOp) : (ME.chain o p a b c).pure = (a.pure && b.pure && c.pure) := rfl
@[simp] theorem u_and : (ME.and a b).pure = (a.pure && b.pure) := rfl
@[simp] theorem u_or : (ME.or a b).pure = (a.pure && b.pure) := rfl
@[simp] theorem u_one : (ME.one a).pure = a.pure := rfl
@[simp] theorem u_not : (ME.not a).pure = a.pure := rfl
@[simp] theorem u_neg : (ME.neg a).pure = a.pure := rfl
@[simp] theorem u_ite : (ME.ite a b c).pure = (a.pure && b.pure && c.pure) := rfl
@[simp] theorem u_tup : (ME.tup es).pure = es.pure := rfl
@[simp] theorem u_lst : (ME.lst es).pure = es.pure := rfl
@[simp] theorem u_idx : (ME.idx a b).pure = (a.pure && b.pure) := rfl
@[simp] theorem u_call (f : Nat) : (ME.call f es).pure = es.pure := rfl
@[simp] theorem u_callIo (f j : Nat) : (ME.callIo f j es).pure = false := rfl
@[simp] theorem u_blt (x : PySem.Str) : (ME.blt x es).pure = es.pure := rfl
@[simp] theorem u_isi (t : Bool) (ts : List PySem.Str) : (ME.isi a t ts).pure = a.pure := rfl
@[simp] theorem u_comp (own : List (PySem.Str × Nat)) (t : MT) (it : MI) : (ME.comp own e t it es).pure = (e.pure && it.pure && es.pure) := rfl
@[simp] theorem u_nil : Es.nil.pure = true := rfl
@[simp] theorem u_cons : (Es.cons e es).pure = (e.pure && es.pure) := rfl
@[simp] theorem u_ex : (MI.ex e).pure = e.pure := rfl
@[simp] theorem u_rng1 : (MI.rng1 e).pure = e.pure := rfl
@[simp] theorem u_rng2 : (MI.rng2 a b).pure = (a.pure && b.pure) := rfl
@[simp] theorem u_enum : (MI.enum e).pure = e.pure := rfl
@[simp] theorem u_zip : (MI.zip a b).pure = (a.pure && b.pure) := rfl
/-! operations -/
@[simp] theorem o_add (i j : Int) : binC .Add (.im (.int i)) (.im (.int j)) = some (.im (.int (i + j))) := rfl
@[simp] theorem o_sub (i j : Int) : binC .Sub (.im (.int i)) (.im (.int j)) = some (.im (.int (i - j))) := rfl
theorem o_mod {i j : Int} (h : 0 < j) : binC .Mod (.im (.int i)) (.im (.int j)) = some (.im (.int (i % j))) := by
  show (ibin .Mod i j).map _ = _
  unfold ibin; rw [if_pos h]; rfl
theorem o_fdiv {i j : Int} (h : 0 < j ∧ j < 1073741824) : binC .FloorDiv (.im (.int i)) (.im (.int j)) = some (.im (.int (i / j))) := by
  show (ibin .FloorDiv i j).map _ = _
  unfold ibin; rw [if_pos h]; rfl
theorem o_mul {i j : Int} (h : -(2 ^ 64) < j ∧ j < 2 ^ 64) : binC .Mult (.im (.int i)) (.im (.int j)) = some (.im (.int (i * j))) := by
  show (ibin .Mult i j).map _ = _
  unfold ibin; rw [if_pos (.inr h)]; rfl
theorem o_pow {i j : Int} (h : 0 ≤ j ∧ j ≤ 1000000 ∧ i.natAbs < 2 ^ 64) : binC .Pow (.im (.int i)) (.im (.int j)) = some (.im (.int (i ^ j.toNat))) := by
  show (ibin .Pow i j).map _ = _
  unfold ibin; rw [if_pos h]; rfl
theorem o_cat {a b : Cell} {xs ys : List D} (ha : a.els = some xs) (hb : b.els = some ys) (hl : xs.length + ys.length ≤ 16777216) : binC .Add a b = some (.ow ((xs ++ ys).map .im)) := by
  unfold binC
  rw [els_frz ha, els_frz hb]
  show (match a.els, b.els with
    | some xs, some ys => if xs.length + ys.length ≤ 16777216 then some (Cell.ow ((xs ++ ys).map .im)) else none
    | _, _ => none) = _
  rw [ha, hb]
  show (if xs.length + ys.length ≤ 16777216 then some (Cell.ow ((xs ++ ys).map .im)) else none) = _
  rw [if_pos hl]
theorem o_rep {a : Cell} {k : Int} {xs : List D} (ha : a.els = some xs) (hk : -(2 ^ 63) ≤ k ∧ k < 2 ^ 63 ∧ xs.length * k.toNat ≤ 16777216) : binC .Mult a (.im (.int k)) = some (.ow ((List.replicate k.toNat xs).flatten.map .im)) := by
  unfold binC
  rw [els_frz ha]
  show (match a.els with
    | some xs => if -(2 ^ 63) ≤ k ∧ k < 2 ^ 63 ∧ xs.length * k.toNat ≤ 16777216 then some (Cell.ow ((List.replicate k.toNat xs).flatten.map .im)) else none
    | none => none) = _
  rw [ha]
  show (if -(2 ^ 63) ≤ k ∧ k < 2 ^ 63 ∧ xs.length * k.toNat ≤ 16777216 then some (Cell.ow ((List.replicate k.toNat xs).flatten.map .im)) else none) = _
  rw [if_pos hk]
@[simp] theorem o_eq (i j : Int) : scmp .Eq (.int i) (.int j) = some (i == j) := rfl
@[simp] theorem o_ne (i j : Int) : scmp .NotEq (.int i) (.int j) = some (!(i == j)) := rfl
@[simp] theorem o_lt (i j : Int) : scmp .Lt (.int i) (.int j) = some (decide (i < j)) := rfl
@[simp] theorem o_le (i j : Int) : scmp .LtE (.int i) (.int j) = some (decide (i ≤ j)) := rfl
@[simp] theorem o_gt (i j : Int) : scmp .Gt (.int i) (.int j) = some (decide (j < i)) := rfl
@[simp] theorem o_ge (i j : Int) : scmp .GtE (.int i) (.int j) = some (decide (j ≤ i)) := rfl
@[simp] theorem o_eqb (i j : Bool) : scmp .Eq (.bl i) (.bl j) = some (i == j) := rfl
@[simp] theorem o_neb (i j : Bool) : scmp .NotEq (.bl i) (.bl j) = some (!(i == j)) := rfl
@[simp] theorem b_len (c : Cell) : bltC "len" [c] = (c.frz.itsD.map fun ds => D.int (ds.length : Nat)).map .im := rfl
@[simp] theorem b_int (i : Int) : bltC "int" [.im (.int i)] = some (.im (.int i)) := rfl
@[simp] theorem b_intb (i : Bool) : bltC "int" [.im (.bl i)] = some (.im (.int (if i then 1 else 0))) := rfl
@[simp] theorem b_max (i j : Int) : bltC "max" [.im (.int i), .im (.int j)] = some (.im (.int (if j > i then j else i))) := rfl
@[simp] theorem b_min (i j : Int) : bltC "min" [.im (.int i), .im (.int j)] = some (.im (.int (if j < i then j else i))) := rfl
theorem b_any {c : Cell} {ds : List D} {bs : List Bool} (h : c.frz = .lst ds) (hb : D.bls ds = some bs) : bltC "any" [c] = some (.im (.bl (bs.any id))) := by
  show (bltD "any" [c.frz]).map Cell.im = _
  rw [h]
  show ((D.bls ds).map fun bs => D.bl (bs.any id)).map Cell.im = _
  rw [hb]; rfl
theorem b_all {c : Cell} {ds : List D} {bs : List Bool} (h : c.frz = .lst ds) (hb : D.bls ds = some bs) : bltC "all" [c] = some (.im (.bl (bs.all id))) := by
  show (bltD "all" [c.frz]).map Cell.im = _
  rw [h]
  show ((D.bls ds).map fun bs => D.bl (bs.all id)).map Cell.im = _
  rw [hb]; rfl
@[simp] theorem d_lst (ds : List D) : (D.lst ds).itsD = some ds := rfl
@[simp] theorem d_tup (ds : List D) : (D.tup ds).itsD = some ds := rfl
@[simp] theorem i_ot (ds : List D) (k : Int) : idxR (.own (.im (.tup ds))) k = (atI ds k).map fun d => .own (.im d) := rfl
@[simp] theorem i_ol (ds : List D) (k : Int) : idxR (.own (.im (.lst ds))) k = (atI ds k).map fun d => .own (.im d) := rfl
@[simp] theorem i_oo (cs : List Cell) (k : Int) : idxR (.own (.ow cs)) k = (atI cs k).map fun c => .own c := rfl
@[simp] theorem i_bo (cs : List Cell) (k : Int) : idxR (.bor (.ow cs)) k = (atI cs k).map fun c => match c with | .im d => .own (.im d) | .ow xs => .bor (.ow xs) := rfl
/-! statements -/
variable {ss : MSs}
@[simp] theorem r_nil : runs cf .nil S = some (.nx S) := rfl
@[simp] theorem r_kill (is : List Nat) : runs cf (.kill is ss) S = runs cf ss ⟨killS S.ρ is, S.io⟩ := rfl
@[simp] theorem r_frz (is : List Nat) : runs cf (.frz is ss) S = runs cf ss ⟨frzS S.ρ is, S.io⟩ := rfl
@[simp] theorem r_cons (s : MS) : runs cf (.cons s ss) S = (run cf s S).bind fun o => match o with
    | .nx S1 => runs cf ss S1
    | o => some o := rfl
@[simp] theorem k_frz0 (ρ : List Sl) : frzS ρ [] = ρ := rfl
@[simp] theorem k_frz1 (ρ : List Sl) (i : Nat) (is : List Nat) : frzS ρ (i :: is) = frzS (match ρ[i]? with | some (.c c) => ρ.set i (.c (.im c.frz)) | _ => ρ) is := rfl
@[simp] theorem r_asg (i : Nat) : run cf (.asg (.nm i) e) S = ((evB cf e).v S).bind fun p => match p.1 with
    | .own c => some (.nx ⟨p.2.ρ.set i (.c c), p.2.io⟩)
    | .bor _ => none := rfl
@[simp] theorem r_asgT (ts : MTs) : run cf (.asg (.tp ts) e) S = ((evB cf e).v S).bind fun p => match p.1 with
    | .own c => (bindT (.tp ts) c.frz p.2.ρ).map fun ρ => .nx ⟨ρ, p.2.io⟩
    | .bor _ => none := rfl
@[simp] theorem t_nm (i : Nat) (d : D) (ρ : List Sl) : bindT (.nm i) d ρ = some (ρ.set i (.c (.im d))) := rfl
@[simp] theorem t_tp (ts : MTs) (ds : List D) (ρ : List Sl) : bindT (.tp ts) (.tup ds) ρ = bindTs ts ds ρ := rfl
@[simp] theorem t_nil (ρ : List Sl) : bindTs .nil [] ρ = some ρ := rfl
@[simp] theorem t_cons (t : MT) (ts : MTs) (d : D) (ds : List D) (ρ : List Sl) : bindTs (.cons t ts) (d :: ds) ρ = (bindT t d ρ).bind fun ρ1 => bindTs ts ds ρ1 := rfl
@[simp] theorem r_par (is : List Nat) : run cf (.par is es) S = ((evsB cf es).v S).bind fun p => (ownC p.1).bind fun cs => (setAll is cs p.2.ρ).map fun ρ => .nx ⟨ρ, p.2.io⟩ := rfl
@[simp] theorem r_parT (is : List Nat) : run cf (.parT is es) S = ((evsB cf es).v S).bind fun p => (ownC p.1).bind fun cs => if cs.length ≤ 16777216 then (setAll is cs p.2.ρ).map fun ρ => .nx ⟨ρ, p.2.io⟩ else none := rfl
@[simp] theorem s_nil (ρ : List Sl) : setAll [] [] ρ = some ρ := rfl
@[simp] theorem s_cons (i : Nat) (is : List Nat) (c : Cell) (cs : List Cell) (ρ : List Sl) : setAll (i :: is) (c :: cs) ρ = setAll is cs (ρ.set i (.c c)) := rfl
@[simp] theorem r_set1 (i : Nat) : run cf (.set1 i a e) S = ((evB cf e).v S).bind fun p => match p.1 with
    | .own c => if a.pure then (intOf ((evB cf a).v p.2)).bind fun k => (upP (.sl i) p.2 fun xs => (ixN xs.length k).map fun n => xs.set n c).map .nx else none
    | .bor _ => none := rfl
@[simp] theorem r_set2 (i : Nat) : run cf (.set2 i a b e) S = ((evB cf e).v S).bind fun p => match p.1 with
    | .own c => if a.pure && b.pure then (intOf ((evB cf a).v p.2)).bind fun m => (intOf ((evB cf b).v p.2)).bind fun k => (upP (.at i m) p.2 fun xs => (ixN xs.length k).map fun n => xs.set n c).map .nx else none
    | .bor _ => none := rfl
@[simp] theorem r_app1 (i : Nat) : run cf (.app1 i e) S = if !ownB S i then none else ((evB cf e).v S).bind fun p => match p.1 with
    | .own c => (upP (.sl i) p.2 fun xs => if xs.length < 16777216 then some (xs ++ [c]) else none).map .nx
    | .bor _ => none := rfl
@[simp] theorem r_app2 (i : Nat) : run cf (.app2 i a e) S = if a.pure && e.pure then (intOf ((evB cf a).v S)).bind fun m => ((evB cf e).v S).bind fun p => match p.1 with
      | .own c => (upP (.at i m) S fun xs => if xs.length < 16777216 then some (xs ++ [c]) else none).map .nx
      | .bor _ => none
    else none := rfl
@[simp] theorem r_ife (s t : MSs) : run cf (.ife a s t) S = ((evB cf a).t S).bind fun p => if p.1 then runs cf s p.2 else runs cf t p.2 := rfl
@[simp] theorem r_loop (t : MT) (it : MI) (s : MSs) : run cf (.loop t it s) S = (evIB cf it S).bind fun p => if p.1 then none else loopL t (runs cf s) p.2.1 p.2.2 := rfl
@[simp] theorem r_ret : run cf (.ret e) S = ((evB cf e).v S).bind fun p => match p.1 with | .own c => some (.rt c p.2) | .bor _ => none := rfl
@[simp] theorem r_retN : run cf .retN S = some (.rt (.im .non) S) := rfl
@[simp] theorem r_brk : run cf .brk S = some (.bk S) := rfl
@[simp] theorem r_cont : run cf .cont S = some (.ct S) := rfl
@[simp] theorem r_pass : run cf .pass S = some (.nx S) := rfl
@[simp] theorem r_ex : run cf (.ex e) S = ((evB cf e).v S).map fun p => .nx p.2 := rfl
@[simp] theorem p_sl (i : Nat) (f : List Cell → Option (List Cell)) : upP (.sl i) S f = match S.ρ[i]? with
    | some (.c (.ow cs)) => (f cs).map fun cs' => ⟨S.ρ.set i (.c (.ow cs')), S.io⟩
    | some .io => S.io.bind fun u => (f (u.map .im)).bind fun cs' => (Cell.ims cs').map fun u' => ⟨S.ρ, some u'⟩
    | _ => none := rfl
@[simp] theorem p_at (i : Nat) (k : Int) (f : List Cell → Option (List Cell)) : upP (.at i k) S f = match S.ρ[i]? with
    | some (.c (.ow cs)) => (ixN cs.length k).bind fun n => match cs[n]? with
      | some (.ow xs) => (f xs).map fun xs' => ⟨S.ρ.set i (.c (.ow (cs.set n (.ow xs')))), S.io⟩
      | _ => none
    | _ => none := rfl
@[simp] theorem w_own (i : Nat) : ownB S i = match S.ρ[i]? with | some (.c (.ow _)) => true | some .io => S.io.isSome | _ => false := rfl
theorem seqIx {v n : Nat} (h : v < n) : PySem.seqIndex? (v : Int) n = some v := by
  unfold PySem.seqIndex?
  simp
  omega
theorem erase_map {α β : Type} (f : α → β) : ∀ (xs : List α) (v : Nat), (xs.map f).eraseIdx v = (xs.eraseIdx v).map f
  | [], _ => rfl
  | x :: xs, 0 => rfl
  | x :: xs, v + 1 => by simp [erase_map f xs v]
theorem e_callIo {cf : CF} {f i : Nat} {es : Es} {S S2 : Sta} {rs : List R} {cs : List Cell} {u w : List D} {c : Cell} (h1 : S.ρ[i]? = some .io) (h0 : S.io.isSome = true) (h2 : (evsB cf es).v S = some (rs, S2)) (h3 : ownC rs = some cs) (h4 : S2.ρ[i]? = some .io) (h5 : S2.io = some u) (h6 : cf f (Cell.frzs cs) (some u) = some (c, some w)) :
    (evB cf (.callIo f i es)).v S = some (.own c, ⟨S2.ρ, some w⟩) := by
  rw [x_callIo, x_mkV_v]
  simp only [w_own, h1, h0, h2, Option.bind_some, h3, h4, h5, h6, Option.map_some]
  rfl
theorem rngOk_nat {n : Nat} (h : n ≤ 10000000) : rngOk 0 (n : Int) = true := by
  unfold rngOk
  exact decide_eq_true ⟨by omega, by omega, by omega, by omega⟩
theorem r_seq {cf : CF} {s : MS} {ss : MSs} {S S1 : Sta} {o : Out} (h1 : run cf s S = some (.nx S1)) (h2 : runs cf ss S1 = some o) : runs cf (.cons s ss) S = some o := by
  rw [r_cons, h1]; exact h2
theorem r_for {cf : CF} {t : MT} {it : MI} {b : MSs} {S S1 : Sta} {ds : List D} {o : Out} (h1 : evIB cf it S = some (false, ds, S1)) (h2 : loopL t (runs cf b) ds S1 = some o) : run cf (.loop t it b) S = some o := by
  rw [r_loop, h1]; exact h2
theorem i_rg1 {cf : CF} {a : ME} {S S1 : Sta} {n : Nat} (h : (evB cf a).v S = some (.own (.im (.int (n : Int))), S1)) (hn : n ≤ 10000000) : evIB cf (.rng1 a) S = some (false, rngD 0 (n : Int), S1) := by
  rw [x_irng1, h, Option.bind_some]
  simp only [rngOk_nat hn, if_true]
theorem e_lrng1 {cf : CF} {a : ME} {S S2 : Sta} {n : Int} (h : (evB cf a).v S = some (.own (.im (.int n)), S2)) (h0 : 0 ≤ n) (h1 : n ≤ 16777216) : (evB cf (.lrng1 a)).v S = some (.own (.ow ((rngD 0 n).map .im)), S2) := by
  rw [x_lrng1, x_mkV_v, h]
  exact if_pos ⟨h0, h1⟩
theorem e_bin {cf : CF} {op : PySem.Operator} {a b : ME} {S S1 S2 : Sta} {ra rb : R} {c : Cell} (h1 : (evB cf a).v S = some (ra, S1)) (h2 : (evB cf b).v S1 = some (rb, S2)) (hb : ra.isBor = false) (hc : binC op ra.c rb.c = some c) : (evB cf (.bin op a b)).v S = some (.own c, S2) := by
  rw [x_bin, x_mkV_v, h1, Option.bind_some, h2, Option.bind_some]
  show (if (ra.isBor && !b.pure) = true then none else (binC op ra.c rb.c).map fun c => (R.own c, S2)) = _
  rw [hb, hc]; rfl
theorem e_binP {cf : CF} {op : PySem.Operator} {a b : ME} {S S1 S2 : Sta} {ra rb : R} {c : Cell} (h1 : (evB cf a).v S = some (ra, S1)) (h2 : (evB cf b).v S1 = some (rb, S2)) (hb : b.pure = true) (hc : binC op ra.c rb.c = some c) : (evB cf (.bin op a b)).v S = some (.own c, S2) := by
  rw [x_bin, x_mkV_v, h1, Option.bind_some, h2, Option.bind_some]
  show (if (ra.isBor && !b.pure) = true then none else (binC op ra.c rb.c).map fun c => (R.own c, S2)) = _
  rw [hb, hc]; simp
theorem e_call {cf : CF} {f : Nat} {es : Es} {S S2 : Sta} {rs : List R} {cs : List Cell} {c : Cell} {u : Option (List D)} (h2 : (evsB cf es).v S = some (rs, S2)) (h3 : ownC rs = some cs) (h6 : cf f (Cell.frzs cs) none = some (c, u)) :
    (evB cf (.call f es)).v S = some (.own c, S2) := by
  rw [x_call, x_mkV_v, h2, Option.bind_some]
  simp only [h3, h6, Option.map_some]
theorem e_pop {cf : CF} {i v : Nat} {e : ME} {S S2 : Sta} {xs cs : List Cell} {c : Cell} (h1 : S.ρ[i]? = some (.c (.ow xs))) (h2 : (evB cf e).v S = some (.own (.im (.int (v : Int))), S2)) (h3 : S2.ρ[i]? = some (.c (.ow cs))) (hv : v < 16777216) (h4 : cs[v]? = some c) :
    (evB cf (.pop i e)).v S = some (.own c, ⟨S2.ρ.set i (.c (.ow (cs.eraseIdx v))), S2.io⟩) := by
  have hl : v < cs.length := (List.getElem?_eq_some_iff.mp h4).1
  rw [x_pop, x_mkV_v]
  simp only [w_own, h1, h2, Option.bind_some, h3, Bool.not_true]
  rw [if_neg (by simp), if_pos (by omega), seqIx hl]
  simp only [Option.bind_some, h4, Option.map_some]
/-! calls -/
theorem call_rt {T : Tab} {k f : Nat} {fn : Fn} {ds : List D} {u u' : Option (List D)} {c : Cell} {ρ : List Sl} (hf : T[f]? = some fn) (h1 : fn.io = u.isSome) (h2 : ds.length + (if fn.io then 1 else 0) = fn.ps.length) (h3 : u'.isSome = fn.io)
    (h : runs (callF T k) fn.body { ρ := (if fn.io then [Sl.io] else []) ++ start0 (fn.N.length - (if fn.io then 1 else 0)) ds, io := u } = some (.rt c ⟨ρ, u'⟩)) : callF T (k + 1) f ds u = some (c, u') := by
  unfold callF
  rw [hf]
  show (if (fn.io != u.isSome || ds.length + (if fn.io then 1 else 0) != fn.ps.length) = true then none else
      match runs (callF T k) fn.body { ρ := (if fn.io then [Sl.io] else []) ++ start0 (fn.N.length - (if fn.io then 1 else 0)) ds, io := u } with
      | some (.rt c S) => if (S.io.isSome != fn.io) = true then none else some (c, S.io)
      | some (.nx S) => if (S.io.isSome != fn.io) = true then none else some (.im .non, S.io)
      | _ => none) = _
  rw [if_neg (by simp only [Bool.or_eq_true, bne_iff_ne, ne_eq, not_or, Decidable.not_not]; exact ⟨h1, h2⟩), h]
  show (if (u'.isSome != fn.io) = true then none else some (c, u')) = _
  rw [if_neg (by simp [h3])]
theorem call_nx {T : Tab} {k f : Nat} {fn : Fn} {ds : List D} {u u' : Option (List D)} {ρ : List Sl} (hf : T[f]? = some fn) (h1 : fn.io = u.isSome) (h2 : ds.length + (if fn.io then 1 else 0) = fn.ps.length) (h3 : u'.isSome = fn.io)
    (h : runs (callF T k) fn.body { ρ := (if fn.io then [Sl.io] else []) ++ start0 (fn.N.length - (if fn.io then 1 else 0)) ds, io := u } = some (.nx ⟨ρ, u'⟩)) : callF T (k + 1) f ds u = some (.im .non, u') := by
  unfold callF
  rw [hf]
  show (if (fn.io != u.isSome || ds.length + (if fn.io then 1 else 0) != fn.ps.length) = true then none else
      match runs (callF T k) fn.body { ρ := (if fn.io then [Sl.io] else []) ++ start0 (fn.N.length - (if fn.io then 1 else 0)) ds, io := u } with
      | some (.rt c S) => if (S.io.isSome != fn.io) = true then none else some (c, S.io)
      | some (.nx S) => if (S.io.isSome != fn.io) = true then none else some (.im .non, S.io)
      | _ => none) = _
  rw [if_neg (by simp only [Bool.or_eq_true, bne_iff_ne, ne_eq, not_or, Decidable.not_not]; exact ⟨h1, h2⟩), h]
  show (if (u'.isSome != fn.io) = true then none else some (Cell.im D.non, u')) = _
  rw [if_neg (by simp [h3])]
/-- a loop that goes through, by an invariant -/
theorem loop_nx {t : MT} {b : Sta → Option Out} (Inv : Nat → Sta → Prop) : ∀ (ds : List D) (S : Sta) (i : Nat), Inv i S →
    (∀ j d S, ds[j]? = some d → Inv (i + j) S → ∃ ρ1, bindT t d S.ρ = some ρ1 ∧ ∃ S', (b ⟨ρ1, S.io⟩ = some (.nx S') ∨ b ⟨ρ1, S.io⟩ = some (.ct S')) ∧ Inv (i + j + 1) S') →
    ∃ S', loopL t b ds S = some (.nx S') ∧ Inv (i + ds.length) S'
  | [], S, i, h, _ => ⟨S, rfl, h⟩
  | d :: ds, S, i, h, st => by
    obtain ⟨ρ1, e1, S1, e2, h1⟩ := st 0 d S rfl h
    obtain ⟨S2, e3, h2⟩ := loop_nx Inv ds S1 (i + 1) h1 fun j d S hd hi => by
      have := st (j + 1) d S (by simpa using hd) (by rw [show i + (j + 1) = i + 1 + j by omega]; exact hi)
      rw [show i + (j + 1) = i + 1 + j by omega] at this
      exact this
    refine ⟨S2, ?_, by rw [List.length_cons, show i + (ds.length + 1) = i + 1 + ds.length by omega]; exact h2⟩
    simp only [loopL, e1, Option.bind_some]
    rcases e2 with e2 | e2 <;> simp [e2, e3]
/-- .. that may break off -/
theorem loop_bk {t : MT} {b : Sta → Option Out} (Inv : Nat → Sta → Prop) (Post : Sta → Prop) : ∀ (ds : List D) (S : Sta) (i : Nat), Inv i S → (∀ S, Inv (i + ds.length) S → Post S) →
    (∀ j d S, ds[j]? = some d → Inv (i + j) S → ∃ ρ1, bindT t d S.ρ = some ρ1 ∧ ∃ S', ((b ⟨ρ1, S.io⟩ = some (.nx S') ∨ b ⟨ρ1, S.io⟩ = some (.ct S')) ∧ Inv (i + j + 1) S') ∨ (b ⟨ρ1, S.io⟩ = some (.bk S') ∧ Post S')) →
    ∃ S', loopL t b ds S = some (.nx S') ∧ Post S'
  | [], S, i, h, hp, _ => ⟨S, rfl, hp S h⟩
  | d :: ds, S, i, h, hp, st => by
    obtain ⟨ρ1, e1, S1, h1⟩ := st 0 d S rfl h
    rcases h1 with ⟨e2, h1⟩ | ⟨e2, h1⟩
    · obtain ⟨S2, e3, h2⟩ := loop_bk Inv Post ds S1 (i + 1) h1 (fun S hS => hp S (by rw [List.length_cons, show i + (ds.length + 1) = i + 1 + ds.length by omega]; exact hS)) fun j d S hd hi => by
        have := st (j + 1) d S (by simpa using hd) (by rw [show i + (j + 1) = i + 1 + j by omega]; exact hi)
        rw [show i + (j + 1) = i + 1 + j by omega] at this
        exact this
      refine ⟨S2, ?_, h2⟩
      simp only [loopL, e1, Option.bind_some]
      rcases e2 with e2 | e2 <;> simp [e2, e3]
    · exact ⟨S1, by simp [loopL, e1, e2], h1⟩
/-- a comprehension, by an invariant over what is made -/
theorem comp_nx {vs : List Nat} {t : MT} {cond : Sta → Option (Bool × Sta)} {el : Sta → Option (R × Sta)} (Inv : Nat → Sta → List Cell → Prop) (m : Nat) : ∀ (ds : List D) (S : Sta) (acc : List Cell) (i : Nat), Inv i S acc → acc.length + ds.length ≤ 16777216 →
    (∀ j d S acc, ds[j]? = some d → Inv (i + j) S acc → ∃ ρ1, bindT t d (wipeS S.ρ vs) = some ρ1 ∧ ∃ b S1, cond ⟨ρ1, S.io⟩ = some (b, S1) ∧ if b = true then ∃ c S2, el S1 = some (.own c, S2) ∧ Inv (i + j + 1) S2 (acc ++ [c]) else Inv (i + j + 1) S1 acc) →
    ∃ acc' S', compL vs t cond el ds S acc = some (acc', S') ∧ Inv (i + ds.length) S' acc'
  | [], S, acc, i, h, _, _ => ⟨acc, S, rfl, h⟩
  | d :: ds, S, acc, i, h, hl, st => by
    obtain ⟨ρ1, e1, b, S1, e2, h1⟩ := st 0 d S acc rfl h
    have st' : ∀ j d' S acc, ds[j]? = some d' → Inv (i + 1 + j) S acc → ∃ ρ1, bindT t d' (wipeS S.ρ vs) = some ρ1 ∧ ∃ b S1, cond ⟨ρ1, S.io⟩ = some (b, S1) ∧ if b = true then ∃ c S2, el S1 = some (.own c, S2) ∧ Inv (i + 1 + j + 1) S2 (acc ++ [c]) else Inv (i + 1 + j + 1) S1 acc := fun j d S acc hd hi => by
      have := st (j + 1) d S acc (by simpa using hd) (by rw [show i + (j + 1) = i + 1 + j by omega]; exact hi)
      rw [show i + (j + 1) = i + 1 + j by omega] at this
      exact this
    rw [List.length_cons] at hl ⊢
    rw [show i + (ds.length + 1) = i + 1 + ds.length by omega]
    cases b with
    | true =>
      rw [if_pos rfl] at h1
      obtain ⟨c, S2, e3, h2⟩ := h1
      obtain ⟨acc', S', e4, h3⟩ := comp_nx Inv m ds S2 (acc ++ [c]) (i + 1) h2 (by simp; omega) st'
      refine ⟨acc', S', ?_, h3⟩
      simp only [compL, e1, e2, e3, Option.bind_some]
      rw [if_pos trivial, if_pos (by omega)]
      exact e4
    | false =>
      rw [if_neg (by simp)] at h1
      obtain ⟨acc', S', e4, h3⟩ := comp_nx Inv m ds S1 acc (i + 1) h1 (by omega) st'
      refine ⟨acc', S', ?_, h3⟩
      simp only [compL, e1, e2, Option.bind_some]
      rw [if_neg (by simp)]
      exact e4
end
end Mi
/-! More step rules. -/
namespace Mi
open L2
theorem e_cmpT {cf : CF} {op : PySem.CmpOp} {a b : ME} {S S1 S2 : Sta} {ra rb : R} {c : Bool} (h1 : (evB cf a).v S = some (ra, S1)) (h2 : (evB cf b).v S1 = some (rb, S2)) (hb : ra.isBor = false) (hc : scmp op ra.c.frz rb.c.frz = some c) : (evB cf (.cmp op a b)).t S = some (c, S2) := by
  rw [x_cmp, x_mkV_t, h1, Option.bind_some, h2, Option.bind_some]
  show ((if (ra.isBor && !b.pure) = true then none else (scmp op ra.c.frz rb.c.frz).map fun c => (R.own (.im (.bl c)), S2)).bind _) = _
  rw [hb, hc]; rfl
theorem e_idx {cf : CF} {a b : ME} {S S1 S2 : Sta} {ra r : R} {k : Int} (h1 : (evB cf a).v S = some (ra, S1)) (h2 : (evB cf b).v S1 = some (.own (.im (.int k)), S2)) (hb : b.pure = true) (hc : idxR ra k = some r) : (evB cf (.idx a b)).v S = some (r, S2) := by
  rw [x_idx, x_mkV_v, h1, Option.bind_some, h2, Option.bind_some]
  show (if (ra.isBor && !b.pure) = true then none else (idxR ra k).map fun r => (r, S2)) = _
  rw [hb, hc]; simp
theorem i_rg2 {cf : CF} {a b : ME} {S S1 S2 : Sta} {n m : Nat} (h1 : (evB cf a).v S = some (.own (.im (.int (n : Int))), S1)) (h2 : (evB cf b).v S1 = some (.own (.im (.int (m : Int))), S2)) (hn : n ≤ 10000000) (hm : m ≤ 10000000) : evIB cf (.rng2 a b) S = some (false, rngD (n : Int) (m : Int), S2) := by
  have ho : rngOk (n : Int) (m : Int) = true := by
    unfold rngOk
    exact decide_eq_true ⟨by omega, by omega, by omega, by omega⟩
  rw [x_irng2, h1, Option.bind_some, h2, Option.bind_some]
  simp only [ho, if_true]
theorem rng_get2 {n m j : Nat} {d : D} (h : (rngD (n : Int) (m : Int))[j]? = some d) : d = .int ((n + j : Nat) : Int) ∧ n + j < m := by
  unfold rngD at h
  rw [List.getElem?_map] at h
  simp only [Option.map_eq_some_iff] at h
  obtain ⟨i, h1, h2⟩ := h
  obtain ⟨a, b⟩ := List.getElem?_eq_some_iff.mp h1
  simp at a b
  subst b
  exact ⟨by rw [← h2]; simp, by omega⟩
theorem rng_len2 (n m : Nat) : (rngD (n : Int) (m : Int)).length = m - n := by
  unfold rngD
  rw [List.length_map, List.length_range]
  omega
/-- a call with the pool in an owned slot -/
theorem e_callPl {cf : CF} {f i : Nat} {es : Es} {S S2 : Sta} {rl : List R} {cs : List Cell} {u u0 w : List D} {c : Cell} (h1 : S.ρ[i]? = some (.c (.ow (u0.map .im)))) (h2 : (evsB cf es).v S = some (rl, S2)) (h3 : ownC rl = some cs) (h4 : S2.ρ[i]? = some (.c (.ow (u.map .im)))) (h6 : cf f (Cell.frzs cs) (some u) = some (c, some w)) :
    (evB cf (.callIo f i es)).v S = some (.own c, ⟨S2.ρ.set i (.c (.ow (w.map .im))), S2.io⟩) := by
  rw [x_callIo, x_mkV_v]
  simp only [w_own, h1, h2, Option.bind_some, h3, h4, x_ims_map, h6, Option.map_some]
  rfl
theorem e_callB {cf : CF} {f : Nat} {es : Es} {S S2 : Sta} {rs : List R} {c : Cell} {u : Option (List D)} (h2 : (evsB cf es).v S = some (rs, S2)) (h3 : ownC rs = none) (h6 : cf f (rs.map fun r => r.c.frz) none = some (c, u)) (hs : c.scal = true) :
    (evB cf (.call f es)).v S = some (.own c, S2) := by
  rw [x_call, x_mkV_v, h2, Option.bind_some]
  simp only [h3, h6, Option.bind_some, hs, if_true]
theorem t_of_v {cf : CF} {f : Nat} {es : Es} {S S2 : Sta} {b : Bool} (h : (evB cf (.call f es)).v S = some (.own (.im (.bl b)), S2)) : (evB cf (.call f es)).t S = some (b, S2) := by
  rw [x_call] at h ⊢
  rw [x_mkV_v] at h
  rw [x_mkV_t, h]
  rfl
theorem nodup_le : ∀ (n : Nat) (T : List Nat), T.Nodup → (∀ b ∈ T, b < n) → T.length ≤ n
  | 0, [], _, _ => Nat.le_refl _
  | 0, x :: _, _, h => absurd (h x (List.mem_cons_self ..)) (Nat.not_lt_zero _)
  | n + 1, T, hd, h => by
    have := nodup_le n (T.erase n) (hd.erase n) fun b hb => by
      have h1 := h b (List.mem_of_mem_erase hb)
      have h2 : b ≠ n := fun e => by
        subst e
        exact (hd.mem_erase_iff.mp hb).1 rfl
      omega
    rw [List.length_erase] at this
    split at this <;> omega
/-! the walk over the list that is being changed -/
theorem r_loopV {cf : CF} {t : MT} {i : Nat} {b : MSs} {S S1 S2 S3 : Sta} (h0 : S.ρ[i]? ≠ some .io) (h1 : lend i S = some S1) (h2 : loopIo t (runs cf b) 10000000 0 S1 = some (.nx S2)) (h3 : unl i S2 = some S3) : run cf (.loopV t i b) S = some (.nx S3) := by
  show (match S.ρ[i]? with
    | some .io => loopIo t (runs cf b) 10000000 0 S
    | _ => (lend i S).bind fun S1 => (loopIo t (runs cf b) 10000000 0 S1).bind (outU i)) = _
  split
  · rename_i h; exact absurd h h0
  · rw [h1, Option.bind_some, h2, Option.bind_some]
    show (unl i S2).map Out.nx = _
    rw [h3]; rfl
theorem io_nx {t : MT} {b : Sta → Option Out} (Inv : Nat → Sta → Prop) (m : Nat) (hm : ∀ j S, Inv j S → ∃ ds, S.io = some ds ∧ ds.length ≤ m) (hs : ∀ j S ds d, Inv j S → S.io = some ds → ds[j]? = some d → ∃ ρ1, bindT t d S.ρ = some ρ1 ∧ ∃ S', (b ⟨ρ1, S.io⟩ = some (.nx S') ∨ b ⟨ρ1, S.io⟩ = some (.ct S')) ∧ Inv (j + 1) S') :
    ∀ (n j : Nat) (S : Sta), m < n + j → j ≤ m → Inv j S → ∃ S' j', loopIo t b n j S = some (.nx S') ∧ Inv j' S' ∧ ∃ ds, S'.io = some ds ∧ ds.length ≤ j'
  | 0, j, S, hn, hj, hi => absurd hn (by omega)
  | n + 1, j, S, hn, hj, hi => by
    obtain ⟨ds, h1, h2⟩ := hm j S hi
    unfold loopIo
    rw [h1]
    cases hd : ds[j]? with
    | none => exact ⟨S, j, by simp [hd], hi, ds, h1, List.getElem?_eq_none_iff.mp hd⟩
    | some d =>
      have hlt := (List.getElem?_eq_some_iff.mp hd).1
      obtain ⟨ρ1, e1, S', e2, h3⟩ := hs j S ds d hi h1 hd
      obtain ⟨S2, j2, e3, h4⟩ := io_nx Inv m hm hs n (j + 1) S' (by omega) (by omega) h3
      refine ⟨S2, j2, ?_, h4⟩
      rw [h1] at e2
      simp only [hd, e1, Option.bind_some]
      rcases e2 with e2 | e2 <;> simp [e2, e3]
/-! truth, step by step -/
section
variable {cf : CF} {a b : ME} {S S1 : Sta}
theorem t_orF (h : (evB cf a).t S = some (false, S1)) : (evB cf (.or a b)).t S = (evB cf b).t S1 := by
  rw [x_or_t, h]; rfl
theorem t_orT (h : (evB cf a).t S = some (true, S1)) : (evB cf (.or a b)).t S = some (true, S1) := by
  rw [x_or_t, h]; rfl
theorem t_andT (h : (evB cf a).t S = some (true, S1)) : (evB cf (.and a b)).t S = (evB cf b).t S1 := by
  rw [x_and_t, h]; rfl
theorem t_andF (h : (evB cf a).t S = some (false, S1)) : (evB cf (.and a b)).t S = some (false, S1) := by
  rw [x_and_t, h]; rfl
theorem t_not {k : Bool} (h : (evB cf a).t S = some (k, S1)) : (evB cf (.not a)).t S = some (!k, S1) := by
  rw [x_not_t, h]; rfl
theorem r_ifeF {s t : MSs} (h : (evB cf a).t S = some (false, S1)) : run cf (.ife a s t) S = runs cf t S1 := by
  rw [r_ife, h]; rfl
theorem r_ifeT {s t : MSs} (h : (evB cf a).t S = some (true, S1)) : run cf (.ife a s t) S = runs cf s S1 := by
  rw [r_ife, h]; rfl
/-- an if that is passed by -/
theorem r_skip (h : (evB cf a).t S = some (false, S1)) {s : MSs} : run cf (.ife a s .nil) S = some (.nx S1) := by
  rw [r_ife, h]; rfl
end
theorem e_len {cf : CF} {a : ME} {S S1 : Sta} {r : R} {ds : List D} (h : (evB cf a).v S = some (r, S1)) (hd : r.c.frz.itsD = some ds) : (evB cf (.blt "len" (.cons a .nil))).v S = some (.own (.im (.int (ds.length : Nat))), S1) := by
  rw [x_blt, x_mkV_v, x_cons_v, h]
  show ((if (r.isBor && !Es.nil.pure) = true then none else some ([r], S1)).bind fun p => (bltC "len" (p.1.map R.c)).map fun c => (R.own c, p.2)) = _
  rw [if_neg (by simp)]
  show (bltC "len" [r.c]).map _ = _
  rw [b_len, hd]
  rfl
theorem v_andT {cf : CF} {a b : ME} {S S1 : Sta} (h : (evB cf a).v S = some (.own (.im (.bl true)), S1)) : (evB cf (.and a b)).v S = (evB cf b).v S1 := by
  rw [x_and_v, h]; rfl
theorem v_andF {cf : CF} {a b : ME} {S S1 : Sta} (h : (evB cf a).v S = some (.own (.im (.bl false)), S1)) : (evB cf (.and a b)).v S = some (.own (.im (.bl false)), S1) := by
  rw [x_and_v, h]; rfl
theorem v_orT {cf : CF} {a b : ME} {S S1 : Sta} (h : (evB cf a).v S = some (.own (.im (.bl true)), S1)) : (evB cf (.or a b)).v S = some (.own (.im (.bl true)), S1) := by
  rw [x_or_v, h]; rfl
theorem v_orF {cf : CF} {a b : ME} {S S1 : Sta} (h : (evB cf a).v S = some (.own (.im (.bl false)), S1)) : (evB cf (.or a b)).v S = (evB cf b).v S1 := by
  rw [x_or_v, h]; rfl
theorem e_one {cf : CF} {a : ME} {S S1 : Sta} {ra : R} (h1 : (evB cf a).v S = some (ra, S1)) : (evsB cf (.cons a .nil)).v S = some ([ra], S1) := by
  rw [x_cons_v, h1, Option.bind_some, x_nil_v, Option.bind_some]
  show (if (ra.isBor && !Es.nil.pure) = true then none else some ([ra], S1)) = _
  rw [if_neg (by simp)]
theorem e_two {cf : CF} {a b : ME} {S S1 S2 : Sta} {ca : Cell} {rb : R} (h1 : (evB cf a).v S = some (.own ca, S1)) (h2 : (evB cf b).v S1 = some (rb, S2)) : (evsB cf (.cons a (.cons b .nil))).v S = some ([.own ca, rb], S2) := by
  rw [x_cons_v, h1, Option.bind_some, e_one h2]
  rfl
theorem e_three {cf : CF} {a b c : ME} {S S1 S2 S3 : Sta} {ca cb : Cell} {rc : R} (h1 : (evB cf a).v S = some (.own ca, S1)) (h2 : (evB cf b).v S1 = some (.own cb, S2)) (h3 : (evB cf c).v S2 = some (rc, S3)) : (evsB cf (.cons a (.cons b (.cons c .nil)))).v S = some ([.own ca, .own cb, rc], S3) := by
  rw [x_cons_v, h1, Option.bind_some, e_two h2 h3]
  rfl
theorem e_blt {cf : CF} {x : PySem.Str} {es : Es} {S S1 : Sta} {rs : List R} {c : Cell} (h : (evsB cf es).v S = some (rs, S1)) (hb : bltC x (rs.map R.c) = some c) : (evB cf (.blt x es)).v S = some (.own c, S1) := by
  rw [x_blt, x_mkV_v, h, Option.bind_some]
  simp only [hb, Option.map_some]
theorem e_idxO {cf : CF} {a b : ME} {S S1 S2 : Sta} {ca : Cell} {r : R} {k : Int} (h1 : (evB cf a).v S = some (.own ca, S1)) (h2 : (evB cf b).v S1 = some (.own (.im (.int k)), S2)) (hc : idxR (.own ca) k = some r) : (evB cf (.idx a b)).v S = some (r, S2) := by
  rw [x_idx, x_mkV_v, h1, Option.bind_some, h2, Option.bind_some]
  show (if (false && !b.pure) = true then none else (idxR (.own ca) k).map fun r => (r, S2)) = _
  rw [hc]; simp
theorem cut_to (xs : List D) (m : Nat) : cutL xs none (some (m : Int)) = xs.take m := by
  unfold cutL
  have h1 : HT.sIx xs.length xs.length (some (m : Int)) = min m xs.length := HT.sIx_nat xs.length xs.length m
  have h2 : HT.sIx xs.length 0 none = 0 := HT.sIx_none _ _
  rw [h1, h2, List.drop_zero, Nat.sub_zero]
  rcases Nat.le_total m xs.length with h | h
  · rw [Nat.min_eq_left h]
  · rw [Nat.min_eq_right h, List.take_of_length_le h, List.take_of_length_le (Nat.le_refl _)]
theorem cut_from (xs : List D) (m : Nat) : cutL xs (some (m : Int)) none = xs.drop m := by
  unfold cutL
  have h1 : HT.sIx xs.length 0 (some (m : Int)) = min m xs.length := HT.sIx_nat xs.length 0 m
  have h2 : HT.sIx xs.length xs.length none = xs.length := HT.sIx_none _ _
  rw [h1, h2]
  rcases Nat.le_total m xs.length with h | h
  · rw [Nat.min_eq_left h, List.take_of_length_le (by rw [List.length_drop]; exact Nat.le_refl _)]
  · rw [Nat.min_eq_right h, Nat.sub_self, List.take_zero, List.drop_eq_nil_of_le h]
theorem e_to {cf : CF} {a hi : ME} {S S1 : Sta} {r : R} {xs : List D} {m : Nat} (h1 : (evB cf a).v S = some (r, S1)) (hr : r.c.els = some xs) (h2 : (evB cf hi).v S1 = some (.own (.im (.int (m : Int))), S1)) (hp : hi.pure = true) (hn : hi.isNo = false) : (evB cf (.slc a .no hi)).v S = some (.own (.ow ((xs.take m).map .im)), S1) := by
  rw [x_slc, x_mkV_v, h1, Option.bind_some]
  show (if (true && hi.pure) = true then _ else none) = _
  rw [hp]
  show ((if hi.isNo = true then some none else (intOf ((evB cf hi).v S1)).map some).bind fun h => r.c.els.map fun ds => (R.own (.ow ((cutL ds none h).map .im)), S1)) = _
  rw [hn, h2, hr]
  show some (R.own (.ow ((cutL xs none (some (m : Int))).map .im)), S1) = _
  rw [cut_to]
theorem e_from {cf : CF} {a lo : ME} {S S1 : Sta} {r : R} {xs : List D} {m : Nat} (h1 : (evB cf a).v S = some (r, S1)) (hr : r.c.els = some xs) (h2 : (evB cf lo).v S1 = some (.own (.im (.int (m : Int))), S1)) (hp : lo.pure = true) (hn : lo.isNo = false) : (evB cf (.slc a lo .no)).v S = some (.own (.ow ((xs.drop m).map .im)), S1) := by
  rw [x_slc, x_mkV_v, h1, Option.bind_some]
  show (if (lo.pure && true) = true then _ else none) = _
  rw [hp]
  show ((if lo.isNo = true then some none else (intOf ((evB cf lo).v S1)).map some).bind fun l => r.c.els.map fun ds => (R.own (.ow ((cutL ds l none).map .im)), S1)) = _
  rw [hn, h2, hr]
  show some (R.own (.ow ((cutL xs (some (m : Int)) none).map .im)), S1) = _
  rw [cut_from]
/-- two lists together -/
theorem e_cat {cf : CF} {a b : ME} {S S1 S2 : Sta} {ca cb : Cell} {xs ys : List D} (h1 : (evB cf a).v S = some (.own ca, S1)) (h2 : (evB cf b).v S1 = some (.own cb, S2)) (hx : ca.els = some xs) (hy : cb.els = some ys) (hl : xs.length + ys.length ≤ 16777216) : (evB cf (.bin .Add a b)).v S = some (.own (.ow ((xs ++ ys).map .im)), S2) :=
  e_bin h1 h2 rfl (o_cat hx hy hl)
theorem e_var {cf : CF} {i : Nat} {S : Sta} {d : D} (h : S.ρ[i]? = some (.c (.im d))) : (evB cf (.var i)).v S = some (.own (.im d), S) := by
  rw [x_var, x_mkV_v, x_rdV, h]; rfl
theorem e_fz {cf : CF} {a : ME} {S S1 : Sta} {c : Cell} (h : (evB cf a).v S = some (.own c, S1)) : (evB cf (.fz a)).v S = some (.own (.im c.frz), S1) := by
  show ((evB cf a).v S).bind _ = _
  rw [h]; rfl
end Mi
/-! The terms of the text. -/
namespace K04
open PySem PySem.Spec L2 Mi
def f0 : Fn := { name := "is_number", io := false, N := ["value"], ps := ["value"], body :=
    (.cons (.ret (.and (.isi (.var 0) false ["int"]) (.one (.not (.isi (.var 0) false ["bool"])))))
    .nil) }
def f1 : Fn := { name := "is_place", io := false, N := ["n", "value"], ps := ["n", "value"], body :=
    (.cons (.ret (.and (.call 0 (.cons (.var 1) .nil)) (.one (.chain .LtE .Lt (.int 0) (.var 1) (.var 0)))))
    .nil) }
def f2 : Fn := { name := "is_pair", io := false, N := ["n", "value"], ps := ["n", "value"], body :=
    (.cons (.ife (.or (.not (.isi (.var 1) false ["tuple"])) (.one (.cmp .NotEq (.blt "len" (.cons (.var 1) .nil)) (.int 2)))) (.cons (.ret (.bl false))
    .nil) .nil)
    (.cons (.ret (.and (.call 1 (.cons (.var 0) (.cons (.idx (.var 1) (.int 0)) .nil))) (.and (.call 1 (.cons (.var 0) (.cons (.idx (.var 1) (.int 1)) .nil))) (.one (.cmp .NotEq (.idx (.var 1) (.int 0)) (.idx (.var 1) (.int 1)))))))
    .nil)) }
def e3_1 : ME := (.call 2 (.cons (.var 0) (.cons (.var 2) .nil)))
def f3 : Fn := { name := "are_pairs", io := false, N := ["n", "value", "pair"], ps := ["n", "value"], body :=
    (.cons (.ret (.and (.isi (.var 1) false ["list"]) (.and (.cmp .LtE (.blt "len" (.cons (.var 1) .nil)) (.glob "MOST_PAIRS" 1600)) (.one (.blt "all" (.cons (.comp [("pair", 2)] e3_1 (.nm 2) (.ex (.var 1)) .nil) .nil))))))
    .nil) }
def f4 : Fn := { name := "check_size", io := false, N := ["n"], ps := ["n"], body :=
    (.cons (.ife (.or (.not (.call 0 (.cons (.var 0) .nil))) (.one (.not (.chain .LtE .LtE (.int 1) (.var 0) (.glob "MOST_PLACES" 40))))) (.cons .never
    .nil) .nil)
    .nil) }
def f5 : Fn := { name := "check_pairs", io := false, N := ["n", "pairs"], ps := ["n", "pairs"], body :=
    (.cons (.ex (.call 4 (.cons (.var 0) .nil)))
    (.cons (.ife (.not (.call 3 (.cons (.var 0) (.cons (.var 1) .nil)))) (.cons .never
    .nil) .nil)
    .nil)) }
def e6_1 : ME := (.bin .Mult (.lst (.cons (.bl false) .nil)) (.var 0))
def l6_1 : MSs := (.cons (.set2 2 (.var 3) (.var 4) (.bl true))
    .nil)
def e6_2 : ME := (.or (.var 6) (.one (.var 7)))
def l6_3 : MSs := (.cons (.ife (.idx (.idx (.var 2) (.var 3)) (.var 5)) (.cons (.set1 2 (.var 3) (.comp [("one", 6), ("other", 7)] e6_2 (.tp (.cons (.nm 6) (.cons (.nm 7) .nil))) (.zip (.idx (.var 2) (.var 3)) (.idx (.var 2) (.var 5))) .nil))
    .nil) .nil)
    .nil)
def l6_2 : MSs := (.cons (.loop (.nm 3) (.rng1 (.var 0)) l6_3)
    .nil)
def f6 : Fn := { name := "ahead_rows", io := false, N := ["n", "pairs", "rows", "a", "b", "c", "one", "other"], ps := ["n", "pairs"], body :=
    (.cons (.asg (.nm 2) (.comp [("a", 3)] e6_1 (.nm 3) (.rng1 (.var 0)) .nil))
    (.cons (.loop (.tp (.cons (.nm 3) (.cons (.nm 4) .nil))) (.ex (.var 1)) l6_1)
    (.cons (.loop (.nm 5) (.rng1 (.var 0)) l6_2)
    (.cons (.ret (.mvar 2))
    .nil)))) }
def e7_1 : ME := (.idx (.idx (.var 2) (.var 3)) (.var 3))
def f7 : Fn := { name := "checked_rows", io := false, N := ["n", "pairs", "rows", "a"], ps := ["n", "pairs"], body :=
    (.cons (.ex (.call 5 (.cons (.var 0) (.cons (.var 1) .nil))))
    (.cons (.asg (.nm 2) (.call 6 (.cons (.var 0) (.cons (.var 1) .nil))))
    (.frz [2] (.cons (.ife (.blt "any" (.cons (.comp [("a", 3)] e7_1 (.nm 3) (.rng1 (.var 0)) .nil) .nil)) (.cons .never
    .nil) .nil)
    (.cons (.ret (.var 2))
    .nil))))) }
def e8_1 : ME := (.tup (.cons (.var 1) (.cons (.var 3) .nil)))
def f8 : Fn := { name := "pairs_by", io := false, N := ["rows", "a", "row", "b", "is_ahead"], ps := ["rows"], body :=
    (.cons (.ret (.comp2 [("a", 1), ("row", 2), ("b", 3), ("is_ahead", 4)] e8_1 (.tp (.cons (.nm 1) (.cons (.nm 2) .nil))) (.enum (.var 0)) .nil [3, 4] (.tp (.cons (.nm 3) (.cons (.nm 4) .nil))) (.enum (.var 2)) (.cons (.var 4) .nil)))
    .nil) }
def e9_1 : ME := (.bin .Mult (.lst (.cons (.bl false) .nil)) (.var 0))
def l9_1 : MSs := (.cons (.set2 2 (.var 3) (.var 4) (.bl true))
    (.cons (.set2 2 (.var 4) (.var 3) (.bl true))
    .nil))
def f9 : Fn := { name := "line_rows", io := false, N := ["n", "lines", "rows", "a", "b"], ps := ["n", "lines"], body :=
    (.cons (.asg (.nm 2) (.comp [("a", 3)] e9_1 (.nm 3) (.rng1 (.var 0)) .nil))
    (.cons (.loop (.tp (.cons (.nm 3) (.cons (.nm 4) .nil))) (.ex (.var 1)) l9_1)
    (.cons (.ret (.mvar 2))
    .nil))) }
def f10 : Fn := { name := "checked_lines", io := false, N := ["n", "lines"], ps := ["n", "lines"], body :=
    (.cons (.ex (.call 5 (.cons (.var 0) (.cons (.var 1) .nil))))
    (.cons (.ret (.call 9 (.cons (.var 0) (.cons (.var 1) .nil))))
    .nil)) }
def e11_2 : ME := (.or (.idx (.idx (.var 0) (.var 2)) (.var 3)) (.one (.idx (.idx (.var 0) (.var 3)) (.var 2))))
def e11_1 : ME := (.comp [("b", 3)] e11_2 (.nm 3) (.rng1 (.var 1)) .nil)
def f11 : Fn := { name := "graph_rows", io := false, N := ["rows", "n", "a", "b"], ps := ["rows"], body :=
    (.cons (.asg (.nm 1) (.blt "len" (.cons (.var 0) .nil)))
    (.cons (.ret (.comp [("a", 2)] e11_1 (.nm 2) (.rng1 (.var 1)) .nil))
    .nil)) }
def e12_1 : ME := (.tup (.cons (.var 1) (.cons (.var 2) .nil)))
def c12_1 : Es := (.cons (.cmp .Lt (.var 1) (.var 2)) .nil)
def f12 : Fn := { name := "lines_by", io := false, N := ["rows", "a", "b"], ps := ["rows"], body :=
    (.cons (.ret (.comp [("a", 1), ("b", 2)] e12_1 (.tp (.cons (.nm 1) (.cons (.nm 2) .nil))) (.ex (.call 8 (.cons (.var 0) .nil))) c12_1))
    .nil) }
def f13 : Fn := { name := "graph_of", io := false, N := ["n", "pairs"], ps := ["n", "pairs"], body :=
    (.cons (.ret (.call 12 (.cons (.call 11 (.cons (.call 7 (.cons (.var 0) (.cons (.var 1) .nil))) .nil)) .nil)))
    .nil) }
def e14_1 : ME := (.idx (.idx (.var 4) (.var 5)) (.var 5))
def f14 : Fn := { name := "is_order_on", io := false, N := ["n", "lines", "value", "graph", "rows", "a"], ps := ["n", "lines", "value"], body :=
    (.cons (.asg (.nm 3) (.call 10 (.cons (.var 0) (.cons (.var 1) .nil))))
    (.frz [3] (.cons (.ife (.not (.call 3 (.cons (.var 0) (.cons (.var 2) .nil)))) (.cons (.ret (.bl false))
    .nil) .nil)
    (.cons (.asg (.nm 4) (.call 6 (.cons (.var 0) (.cons (.var 2) .nil))))
    (.frz [4] (.cons (.ret (.and (.not (.blt "any" (.cons (.comp [("a", 5)] e14_1 (.nm 5) (.rng1 (.var 0)) .nil) .nil))) (.one (.cmp .Eq (.call 11 (.cons (.var 4) .nil)) (.var 3)))))
    .nil)))))) }
def l15_2 : MSs := (.cons (.app1 1 (.bin .Mod (.blt "int" (.cons (.var 3) .nil)) (.int 60)))
    (.cons (.asg (.nm 3) (.blt "int" (.cons (.bin .FloorDiv (.var 3) (.int 60)) .nil)))
    (.cons (.ife (.cmp .Eq (.var 3) (.int 0)) (.cons .brk
    .nil) .nil)
    .nil)))
def l15_1 : MSs := (.cons (.asg (.nm 3) (.blt "int" (.cons (.var 2) .nil)))
    (.cons (.ife (.cmp .GtE (.var 3) (.bin .Pow (.int 10) (.int 18))) (.cons (.loop (.nm 4) (.rng1 (.int 60)) l15_2)
    .nil) (.cons (.asg (.nm 1) (.bin .Add (.var 1) (.lst (.cons (.bin .Mod (.blt "int" (.cons (.var 3) .nil)) (.int 60)) (.cons (.bin .Mod (.blt "int" (.cons (.bin .FloorDiv (.var 3) (.int 60)) .nil)) (.int 60)) .nil)))))
    .nil))
    .nil))
def l15_3 : MSs := (.cons (.asg (.nm 5) (.bin .Mod (.bin .Add (.bin .Mult (.var 5) (.int 31)) (.blt "int" (.cons (.var 2) .nil))) (.int 2147483647)))
    .nil)
def l15_4 : MSs := (.cons (.asg (.nm 5) (.bin .Mod (.bin .Add (.bin .Mult (.var 5) (.int 48271)) (.int 11)) (.int 2147483647)))
    (.cons (.app1 1 (.bin .Mod (.blt "int" (.cons (.bin .FloorDiv (.var 5) (.int 97)) .nil)) (.int 60)))
    .nil))
def f15 : Fn := { name := "_law_pool", io := false, N := ["script", "pool", "cell", "rest", "k", "state"], ps := ["script"], body :=
    (.cons (.asg (.nm 1) (.lst .nil))
    (.cons (.loop (.nm 2) (.ex (.var 0)) l15_1)
    (.cons (.asg (.nm 5) (.int 17))
    (.cons (.loop (.nm 2) (.ex (.var 0)) l15_3)
    (.cons (.loop (.nm 4) (.rng1 (.int 300)) l15_4)
    (.cons (.ret (.mvar 1))
    .nil)))))) }
def f16 : Fn := { name := "_law_stream", io := false, N := ["script"], ps := ["script"], body :=
    (.cons (.ret (.bin .Add (.lst (.cons (.int 1) .nil)) (.call 15 (.cons (.var 0) .nil))))
    .nil) }
def f17 : Fn := { name := "_law_pick", io := true, N := ["pool", "many", "place"], ps := ["pool", "many"], body :=
    (.cons (.asg (.nm 2) (.idx (.var 0) (.int 0)))
    (.frz [2] (.cons (.set1 0 (.int 0) (.bin .Add (.var 2) (.int 1)))
    (.cons (.ife (.cmp .Eq (.idx (.var 0) (.int 0)) (.blt "len" (.cons (.var 0) .nil))) (.cons (.set1 0 (.int 0) (.int 1))
    .nil) .nil)
    (.cons (.ret (.bin .Mod (.blt "int" (.cons (.idx (.var 0) (.var 2)) .nil)) (.var 1)))
    .nil))))) }
def l18_1 : MSs := (.cons (.app1 3 (.pop 2 (.callIo 17 0 (.cons (.blt "len" (.cons (.var 2) .nil)) .nil))))
    .nil)
def f18 : Fn := { name := "_law_turn", io := true, N := ["pool", "n", "left", "found", "turn"], ps := ["pool", "n"], body :=
    (.cons (.par [2, 3] (.cons (.lrng1 (.var 1)) (.cons (.lst .nil) .nil)))
    (.cons (.loop (.nm 4) (.rng1 (.var 1)) l18_1)
    (.cons (.ret (.mvar 3))
    .nil))) }
def e19_1 : ME := (.bin .Mult (.lst (.cons (.int 0) .nil)) (.var 0))
def l19_1 : MSs := (.cons (.set2 2 (.var 3) (.var 4) (.int 1))
    .nil)
def e19_2 : ME := (.blt "max" (.cons (.var 6) (.cons (.var 7) .nil)))
def l19_3 : MSs := (.cons (.ife (.cmp .Eq (.idx (.idx (.var 2) (.var 3)) (.var 5)) (.int 1)) (.cons (.set1 2 (.var 3) (.comp [("x", 6), ("y", 7)] e19_2 (.tp (.cons (.nm 6) (.cons (.nm 7) .nil))) (.zip (.idx (.var 2) (.var 3)) (.idx (.var 2) (.var 5))) .nil))
    .nil) .nil)
    .nil)
def l19_2 : MSs := (.cons (.loop (.nm 3) (.rng1 (.var 0)) l19_3)
    .nil)
def f19 : Fn := { name := "_law_rows", io := false, N := ["n", "pairs", "rows", "a", "b", "c", "x", "y"], ps := ["n", "pairs"], body :=
    (.cons (.asg (.nm 2) (.comp [("a", 3)] e19_1 (.nm 3) (.rng1 (.var 0)) .nil))
    (.cons (.loop (.tp (.cons (.nm 3) (.cons (.nm 4) .nil))) (.ex (.var 1)) l19_1)
    (.cons (.loop (.nm 5) (.rng1 (.var 0)) l19_2)
    (.cons (.ret (.mvar 2))
    .nil)))) }
def e20_1 : ME := (.tup (.cons (.var 2) (.cons (.var 3) .nil)))
def c20_1 : Es := (.cons (.cmp .Eq (.idx (.idx (.var 0) (.var 2)) (.var 3)) (.int 1)) .nil)
def l20_1 : MSs := (.cons (.asg (.nm 1) (.bin .Add (.var 1) (.comp [("b", 3)] e20_1 (.nm 3) (.rng1 (.blt "len" (.cons (.var 0) .nil))) c20_1)))
    (.frz [1] .nil))
def f20 : Fn := { name := "_law_pairs", io := false, N := ["rows", "found", "a", "b"], ps := ["rows"], body :=
    (.cons (.asg (.nm 1) (.lst .nil))
    (.frz [1] (.cons (.loop (.nm 2) (.rng1 (.blt "len" (.cons (.var 0) .nil))) l20_1)
    (.cons (.ret (.var 1))
    .nil)))) }
def e21_1 : ME := (.tup (.cons (.idx (.var 3) (.var 4)) (.cons (.idx (.var 3) (.var 5)) .nil)))
def f21 : Fn := { name := "_law_renamed", io := true, N := ["pool", "n", "pairs", "names", "a", "b"], ps := ["pool", "n", "pairs"], body :=
    (.cons (.asg (.nm 3) (.callIo 18 0 (.cons (.var 1) .nil)))
    (.frz [3] (.cons (.ret (.comp [("a", 4), ("b", 5)] e21_1 (.tp (.cons (.nm 4) (.cons (.nm 5) .nil))) (.ex (.var 2)) .nil))
    .nil))) }
def f22 : Fn := { name := "_law_knot", io := true, N := ["pool", "kind"], ps := ["pool"], body :=
    (.cons (.asg (.nm 1) (.callIo 17 0 (.cons (.int 5) .nil)))
    (.cons (.ife (.cmp .Eq (.var 1) (.int 0)) (.cons (.ret (.tup (.cons (.int 4) (.cons (.lst (.cons (.tup (.cons (.int 0) (.cons (.int 2) .nil))) (.cons (.tup (.cons (.int 1) (.cons (.int 2) .nil))) (.cons (.tup (.cons (.int 1) (.cons (.int 3) .nil))) .nil)))) .nil))))
    .nil) .nil)
    (.cons (.ife (.cmp .Eq (.var 1) (.int 1)) (.cons (.ret (.tup (.cons (.int 5) (.cons (.lst (.cons (.tup (.cons (.int 0) (.cons (.int 2) .nil))) (.cons (.tup (.cons (.int 1) (.cons (.int 2) .nil))) (.cons (.tup (.cons (.int 1) (.cons (.int 3) .nil))) (.cons (.tup (.cons (.int 4) (.cons (.int 3) .nil))) .nil))))) .nil))))
    .nil) .nil)
    (.cons (.ife (.cmp .Eq (.var 1) (.int 2)) (.cons (.ret (.tup (.cons (.int 6) (.cons (.lst (.cons (.tup (.cons (.int 0) (.cons (.int 3) .nil))) (.cons (.tup (.cons (.int 0) (.cons (.int 4) .nil))) (.cons (.tup (.cons (.int 1) (.cons (.int 3) .nil))) (.cons (.tup (.cons (.int 1) (.cons (.int 5) .nil))) (.cons (.tup (.cons (.int 2) (.cons (.int 4) .nil))) (.cons (.tup (.cons (.int 2) (.cons (.int 5) .nil))) .nil))))))) .nil))))
    .nil) .nil)
    (.cons (.ife (.cmp .Eq (.var 1) (.int 3)) (.cons (.ret (.tup (.cons (.int 6) (.cons (.lst (.cons (.tup (.cons (.int 0) (.cons (.int 2) .nil))) (.cons (.tup (.cons (.int 1) (.cons (.int 2) .nil))) (.cons (.tup (.cons (.int 1) (.cons (.int 3) .nil))) (.cons (.tup (.cons (.int 4) (.cons (.int 3) .nil))) (.cons (.tup (.cons (.int 4) (.cons (.int 5) .nil))) .nil)))))) .nil))))
    .nil) .nil)
    (.cons (.ret (.tup (.cons (.int 5) (.cons (.lst (.cons (.tup (.cons (.int 0) (.cons (.int 1) .nil))) (.cons (.tup (.cons (.int 1) (.cons (.int 2) .nil))) (.cons (.tup (.cons (.int 3) (.cons (.int 2) .nil))) (.cons (.tup (.cons (.int 0) (.cons (.int 4) .nil))) .nil))))) .nil))))
    .nil)))))) }
def e23_1 : ME := (.tup (.cons (.var 5) (.cons (.bin .Add (.var 5) (.int 1)) .nil)))
def l23_1 : MSs := (.cons (.par [9, 10] (.cons (.int 1) (.cons (.lst .nil) .nil)))
    (.frz [10] (.cons (.ife (.cmp .Eq (.callIo 17 0 (.cons (.int 3) .nil)) (.int 0)) (.cons (.asg (.tp (.cons (.nm 9) (.cons (.nm 10) .nil))) (.callIo 23 0 (.cons (.bin .Sub (.var 1) (.int 1)) .nil)))
    .nil) .nil)
    (.cons (.app1 6 (.tup (.cons (.var 9) (.cons (.var 10) .nil))))
    (.cons (.app1 8 (.bin .Add (.idx (.var 8) (.var 5)) (.var 9)))
    .nil)))))
def e23_2 : ME := (.tup (.cons (.bin .Add (.idx (.var 8) (.var 12)) (.var 13)) (.cons (.bin .Add (.idx (.var 8) (.var 12)) (.var 14)) .nil)))
def e23_3 : ME := (.tup (.cons (.var 13) (.cons (.var 14) .nil)))
def l23_4 : MSs := (.cons (.asg (.nm 7) (.bin .Add (.var 7) (.comp [("y", 14)] e23_3 (.nm 14) (.rng2 (.idx (.var 8) (.var 15)) (.idx (.var 8) (.bin .Add (.var 15) (.int 1)))) .nil)))
    (.frz [7] .nil))
def l23_3 : MSs := (.cons (.ife (.cmp .Eq (.idx (.idx (.var 11) (.var 12)) (.var 15)) (.int 1)) (.cons (.loop (.nm 13) (.rng2 (.idx (.var 8) (.var 12)) (.idx (.var 8) (.bin .Add (.var 12) (.int 1)))) l23_4)
    .nil) .nil)
    .nil)
def l23_2 : MSs := (.cons (.asg (.nm 7) (.bin .Add (.var 7) (.comp [("x", 13), ("y", 14)] e23_2 (.tp (.cons (.nm 13) (.cons (.nm 14) .nil))) (.ex (.idx (.idx (.var 6) (.var 12)) (.int 1))) .nil)))
    (.frz [7] (.cons (.loop (.nm 15) (.rng1 (.var 3)) l23_3)
    .nil)))
def f23 : Fn := { name := "_law_made", io := true, N := ["pool", "deep", "kind", "n", "pairs", "k", "inner", "found", "first", "m", "others", "rows", "a", "x", "y", "b"], ps := ["pool", "deep"], body :=
    (.cons (.asg (.nm 2) (.callIo 17 0 (.cons (.int 6) .nil)))
    (.cons (.ife (.or (.cmp .Eq (.var 1) (.int 0)) (.one (.cmp .Eq (.var 2) (.int 0)))) (.cons (.ret (.tup (.cons (.int 1) (.cons (.lst .nil) .nil))))
    .nil) .nil)
    (.cons (.ife (.cmp .Eq (.var 2) (.int 1)) (.cons (.asg (.tp (.cons (.nm 3) (.cons (.nm 4) .nil))) (.callIo 22 0 .nil))
    .nil) (.cons (.asg (.nm 3) (.bin .Add (.int 2) (.callIo 17 0 (.cons (.int 2) .nil))))
    (.cons (.asg (.nm 4) (.comp [("k", 5)] e23_1 (.nm 5) (.rng1 (.bin .Mult (.bin .Sub (.var 3) (.int 1)) (.blt "int" (.cons (.cmp .Gt (.var 2) (.int 3)) .nil)))) .nil))
    (.frz [4] .nil))))
    (.cons (.parT [6, 7, 8] (.cons (.lst .nil) (.cons (.lst .nil) (.cons (.lst (.cons (.int 0) .nil)) .nil))))
    (.frz [7] (.cons (.loop (.nm 5) (.rng1 (.var 3)) l23_1)
    (.cons (.asg (.nm 11) (.call 19 (.cons (.var 3) (.cons (.var 4) .nil))))
    (.frz [11] (.cons (.loop (.nm 12) (.rng1 (.var 3)) l23_2)
    (.cons (.ret (.tup (.cons (.idx (.var 8) (.var 3)) (.cons (.var 7) .nil))))
    .nil)))))))))) }
def e24_1 : ME := (.tup (.cons (.idx (.var 2) (.var 6)) (.cons (.idx (.var 2) (.var 5)) .nil)))
def c24_1 : Es := (.cons (.cmp .Eq (.callIo 17 0 (.cons (.var 3) .nil)) (.int 0)) .nil)
def l24_1 : MSs := (.cons (.asg (.nm 4) (.bin .Add (.var 4) (.comp [("i", 6)] e24_1 (.nm 6) (.rng1 (.var 5)) c24_1)))
    (.frz [4] .nil))
def f24 : Fn := { name := "_law_drawn", io := true, N := ["pool", "n", "names", "often", "found", "j", "i"], ps := ["pool", "n"], body :=
    (.cons (.parT [2, 3] (.cons (.callIo 18 0 (.cons (.var 1) .nil)) (.cons (.bin .Add (.int 1) (.callIo 17 0 (.cons (.int 6) .nil))) .nil)))
    (.frz [2] (.cons (.asg (.nm 4) (.lst .nil))
    (.frz [4] (.cons (.loop (.nm 5) (.rng1 (.var 1)) l24_1)
    (.cons (.ret (.var 4))
    .nil)))))) }
def e25_1 : ME := (.tup (.cons (.var 1) (.cons (.var 2) .nil)))
def c25_1 : Es := (.cons (.cmp .Lt (.var 1) (.var 2)) .nil)
def e25_3 : ME := (.blt "max" (.cons (.idx (.idx (.var 0) (.var 1)) (.var 2)) (.cons (.idx (.idx (.var 0) (.var 2)) (.var 1)) .nil)))
def e25_2 : ME := (.comp [("b", 2)] e25_3 (.nm 2) (.rng1 (.blt "len" (.cons (.var 0) .nil))) .nil)
def f25 : Fn := { name := "_law_lines", io := false, N := ["rows", "a", "b"], ps := ["rows"], body :=
    (.cons (.ret (.comp [("a", 1), ("b", 2)] e25_1 (.tp (.cons (.nm 1) (.cons (.nm 2) .nil))) (.ex (.call 20 (.cons (.comp [("a", 1)] e25_2 (.nm 1) (.rng1 (.blt "len" (.cons (.var 0) .nil))) .nil) .nil))) c25_1))
    .nil) }
def e26_1 : ME := (.call 26 (.cons (.idx (.var 0) (.var 2)) (.cons (.idx (.var 1) (.var 2)) .nil)))
def f26 : Fn := { name := "_law_same", io := false, N := ["one", "other", "k"], ps := ["one", "other"], body :=
    (.cons (.ife (.cmp .Is (.var 1) .non) (.cons (.ret (.cmp .Is (.var 0) .non))
    .nil) .nil)
    (.cons (.ife (.isi (.var 1) false ["bool"]) (.cons (.ret (.and (.isi (.var 0) false ["bool"]) (.one (.cmp .Eq (.var 0) (.var 1)))))
    .nil) .nil)
    (.cons (.ife (.isi (.var 1) false ["int"]) (.cons (.ret (.and (.isi (.var 0) false ["int"]) (.and (.not (.isi (.var 0) false ["bool"])) (.one (.cmp .Eq (.var 0) (.var 1))))))
    .nil) .nil)
    (.cons (.ife (.isi (.var 1) false ["str"]) (.cons (.ret (.and (.isi (.var 0) false ["str"]) (.one (.cmp .Eq (.var 0) (.var 1)))))
    .nil) .nil)
    (.cons (.ife (.or (.cmp .NotEq (.isi (.var 0) false ["list"]) (.isi (.var 1) false ["list"])) (.or (.not (.isi (.var 0) true ["list", "tuple"])) (.one (.cmp .NotEq (.blt "len" (.cons (.var 0) .nil)) (.blt "len" (.cons (.var 1) .nil)))))) (.cons (.ret (.bl false))
    .nil) .nil)
    (.cons (.ret (.blt "all" (.cons (.comp [("k", 2)] e26_1 (.nm 2) (.rng1 (.blt "len" (.cons (.var 1) .nil))) .nil) .nil)))
    .nil)))))) }
def e27_1 : ME := (.var 4)
def l27_1 : MSs := (.cons (.app1 3 (.pop 2 (.callIo 17 0 (.cons (.blt "len" (.cons (.var 2) .nil)) .nil))))
    .nil)
def f27 : Fn := { name := "_law_mixed", io := true, N := ["pool", "rows", "left", "found", "row", "turn"], ps := ["pool", "rows"], body :=
    (.cons (.par [2, 3] (.cons (.comp [("row", 4)] e27_1 (.nm 4) (.ex (.var 1)) .nil) (.cons (.lst .nil) .nil)))
    (.cons (.loop (.nm 5) (.rng1 (.blt "len" (.cons (.var 1) .nil))) l27_1)
    (.cons (.ret (.mvar 3))
    .nil))) }
def e28_1 : ME := (.var 2)
def c28_1 : Es := (.cons (.cmp .Eq (.callIo 17 0 (.cons (.int 3) .nil)) (.int 0)) .nil)
def f28 : Fn := { name := "_law_listed", io := true, N := ["pool", "pairs", "pair"], ps := ["pool", "pairs"], body :=
    (.cons (.ret (.callIo 27 0 (.cons (.bin .Add (.var 1) (.comp [("pair", 2)] e28_1 (.nm 2) (.ex (.var 1)) c28_1)) .nil)))
    .nil) }
def e29_1 : ME := (.tup (.cons (.var 4) (.cons (.bin .Add (.var 4) (.int 1)) .nil)))
def f29 : Fn := { name := "_law_any", io := true, N := ["pool", "kind", "n", "pairs", "k"], ps := ["pool"], body :=
    (.cons (.par [1, 2, 3] (.cons (.callIo 17 0 (.cons (.int 6) .nil)) (.cons (.bin .Add (.int 1) (.callIo 17 0 (.cons (.int 12) .nil))) (.cons (.lst .nil) .nil))))
    (.frz [3] (.cons (.ife (.cmp .Lt (.var 1) (.int 3)) (.cons (.asg (.tp (.cons (.nm 2) (.cons (.nm 3) .nil))) (.callIo 23 0 (.cons (.int 2) .nil)))
    .nil) .nil)
    (.cons (.ife (.cmp .Eq (.var 1) (.int 3)) (.cons (.asg (.nm 3) (.callIo 24 0 (.cons (.var 2) .nil)))
    (.frz [3] .nil)) .nil)
    (.cons (.ife (.cmp .Eq (.var 1) (.int 4)) (.cons (.asg (.nm 3) (.comp [("k", 4)] e29_1 (.nm 4) (.rng1 (.bin .Sub (.var 2) (.int 1))) .nil))
    (.frz [3] .nil)) .nil)
    (.cons (.ret (.tup (.cons (.var 2) (.cons (.callIo 21 0 (.cons (.var 2) (.cons (.var 3) .nil))) .nil))))
    .nil)))))) }
def e30_1 : ME := (.tup (.cons (.var 3) (.cons (.bin .Add (.var 3) (.int 1)) .nil)))
def e30_2 : ME := (.tup (.cons (.var 4) (.cons (.var 5) .nil)))
def c30_2 : Es := (.cons (.cmp .Eq (.bin .FloorDiv (.var 5) (.int 8)) (.bin .Add (.bin .FloorDiv (.var 4) (.int 8)) (.int 1))) .nil)
def l30_1 : MSs := (.cons (.asg (.nm 2) (.bin .Add (.var 2) (.comp [("b", 5)] e30_2 (.nm 5) (.rng1 (.int 40)) c30_2)))
    (.frz [2] .nil))
def f30 : Fn := { name := "_law_great", io := true, N := ["pool", "kind", "pairs", "k", "a", "b", "rows"], ps := ["pool"], body :=
    (.cons (.par [1, 2] (.cons (.callIo 17 0 (.cons (.int 3) .nil)) (.cons (.comp [("k", 3)] e30_1 (.nm 3) (.rng1 (.int 39)) .nil) .nil)))
    (.frz [2] (.cons (.ife (.cmp .Eq (.var 1) (.int 0)) (.cons (.asg (.nm 2) (.callIo 24 0 (.cons (.int 40) .nil)))
    (.frz [2] .nil)) .nil)
    (.cons (.ife (.cmp .Eq (.var 1) (.int 1)) (.cons (.asg (.nm 2) (.lst .nil))
    (.frz [2] (.cons (.loop (.nm 4) (.rng1 (.int 32)) l30_1)
    .nil))) .nil)
    (.cons (.asg (.nm 6) (.callIo 21 0 (.cons (.int 40) (.cons (.var 2) .nil))))
    (.frz [6] (.cons (.ret (.tup (.cons (.int 40) (.cons (.slc (.bin .Mult (.var 6) (.bin .Add (.int 1) (.bin .FloorDiv (.int 1600) (.blt "max" (.cons (.int 1) (.cons (.blt "len" (.cons (.var 6) .nil)) .nil)))))) .no (.int 1600)) .nil))))
    .nil))))))) }
def e31_1 : ME := (.cmp .Eq (.idx (.idx (.var 3) (.var 4)) (.var 4)) (.int 1))
def f31 : Fn := { name := "_law_makes", io := false, N := ["n", "lines", "pairs", "rows", "a"], ps := ["n", "lines", "pairs"], body :=
    (.cons (.asg (.nm 3) (.call 19 (.cons (.var 0) (.cons (.var 2) .nil))))
    (.frz [3] (.cons (.ret (.and (.cmp .LtE (.blt "len" (.cons (.var 2) .nil)) (.int 1600)) (.and (.not (.blt "any" (.cons (.comp [("a", 4)] e31_1 (.nm 4) (.rng1 (.var 0)) .nil) .nil))) (.one (.cmp .Eq (.call 25 (.cons (.var 3) .nil)) (.var 1))))))
    .nil))) }
def l32_1 : MSs := (.cons (.app1 3 (.idx (.lst (.cons (.tup (.cons (.var 4) (.cons (.var 5) .nil))) (.cons (.tup (.cons (.var 5) (.cons (.var 4) .nil))) .nil))) (.callIo 17 0 (.cons (.int 2) .nil))))
    .nil)
def f32 : Fn := { name := "_law_drawn_ways", io := true, N := ["pool", "lines", "rows", "found", "a", "b"], ps := ["pool", "lines"], body :=
    (.cons (.par [2, 3] (.cons (.callIo 28 0 (.cons (.var 1) .nil)) (.cons (.lst .nil) .nil)))
    (.frz [2] (.cons (.loop (.tp (.cons (.nm 4) (.cons (.nm 5) .nil))) (.ex (.var 2)) l32_1)
    (.cons (.ret (.mvar 3))
    .nil)))) }
def e33_1 : ME := (.tup (.cons (.var 6) (.cons (.var 5) .nil)))
def e33_2 : ME := (.tup (.cons (.var 6) (.cons (.var 5) .nil)))
def f33 : Fn := { name := "_law_near", io := true, N := ["pool", "n", "pairs", "due", "found", "a", "b", "k", "step", "at"], ps := ["pool", "n", "pairs", "due"], body :=
    (.cons (.asg (.nm 4) (.lst (.cons (.comp [("a", 5), ("b", 6)] e33_2 (.tp (.cons (.nm 5) (.cons (.nm 6) .nil))) (.ex (.var 2)) .nil) (.cons (.comp [("a", 5), ("b", 6)] e33_1 (.tp (.cons (.nm 5) (.cons (.nm 6) .nil))) (.ex (.var 3)) .nil) (.cons (.lst .nil) .nil)))))
    (.cons (.ife (.cmp .NotEq (.var 3) (.lst .nil)) (.cons (.asg (.nm 7) (.callIo 17 0 (.cons (.blt "len" (.cons (.var 3) .nil)) .nil)))
    (.cons (.app1 4 (.bin .Add (.slc (.var 3) .no (.var 7)) (.slc (.var 3) (.bin .Add (.var 7) (.int 1)) .no)))
    (.cons (.app1 4 (.bin .Add (.bin .Add (.slc (.var 3) .no (.var 7)) (.lst (.cons (.tup (.cons (.idx (.idx (.var 3) (.var 7)) (.int 1)) (.cons (.idx (.idx (.var 3) (.var 7)) (.int 0)) .nil))) .nil))) (.slc (.var 3) (.bin .Add (.var 7) (.int 1)) .no)))
    (.cons (.asg (.nm 7) (.callIo 17 0 (.cons (.blt "len" (.cons (.var 2) .nil)) .nil)))
    (.cons (.app1 4 (.bin .Add (.slc (.var 2) .no (.var 7)) (.slc (.var 2) (.bin .Add (.var 7) (.int 1)) .no)))
    (.cons (.app1 4 (.bin .Add (.bin .Add (.slc (.var 2) .no (.var 7)) (.lst (.cons (.tup (.cons (.idx (.idx (.var 2) (.var 7)) (.int 1)) (.cons (.idx (.idx (.var 2) (.var 7)) (.int 0)) .nil))) .nil))) (.slc (.var 2) (.bin .Add (.var 7) (.int 1)) .no)))
    .nil)))))) .nil)
    (.cons (.ife (.cmp .Gt (.var 1) (.int 1)) (.cons (.par [5, 8] (.cons (.callIo 17 0 (.cons (.var 1) .nil)) (.cons (.bin .Add (.int 1) (.callIo 17 0 (.cons (.bin .Sub (.var 1) (.int 1)) .nil))) .nil)))
    (.cons (.asg (.nm 9) (.callIo 17 0 (.cons (.bin .Add (.blt "len" (.cons (.var 2) .nil)) (.int 1)) .nil)))
    (.cons (.app1 4 (.bin .Add (.bin .Add (.slc (.var 2) .no (.var 9)) (.lst (.cons (.tup (.cons (.var 5) (.cons (.bin .Mod (.blt "int" (.cons (.bin .Add (.var 5) (.var 8)) .nil)) (.var 1)) .nil))) .nil))) (.slc (.var 2) (.var 9) .no)))
    .nil))) .nil)
    (.frz [4] (.cons (.ret (.mvar 4))
    .nil))))) }
def l34_1 : MSs := (.cons (.app1 6 (.bin .Add (.bin .Add (.slc (.var 2) .no (.var 5)) (.lst (.cons (.var 8) .nil))) (.slc (.var 2) (.var 5) .no)))
    .nil)
def f34 : Fn := { name := "_law_wrong", io := true, N := ["pool", "n", "pairs", "a", "far", "at", "found", "wrong", "one"], ps := ["pool", "n", "pairs"], body :=
    (.cons (.par [3, 4, 5] (.cons (.callIo 17 0 (.cons (.var 1) .nil)) (.cons (.bin .Mult (.callIo 17 0 (.cons (.int 60) .nil)) (.bin .Pow (.int 10) (.int 9))) (.cons (.callIo 17 0 (.cons (.bin .Add (.blt "len" (.cons (.var 2) .nil)) (.int 1)) .nil)) .nil))))
    (.frz [4] (.cons (.asg (.nm 6) (.lst (.cons .non (.cons (.bl true) (.cons (.int 0) (.cons (.str "") (.cons (.str "01") (.cons (.tup .nil) (.cons (.blt "tuple" (.cons (.var 2) .nil)) (.cons (.tup (.cons (.var 2) (.cons (.var 2) .nil))) (.cons (.lst (.cons (.var 2) .nil)) .nil)))))))))))
    (.cons (.asg (.nm 7) (.lst (.cons (.tup (.cons (.var 3) (.cons (.var 3) .nil))) (.cons (.tup (.cons (.var 3) (.cons (.bin .Add (.var 1) (.var 4)) .nil))) (.cons (.tup (.cons (.bin .Sub (.neg (.int 1)) (.var 4)) (.cons (.var 3) .nil))) (.cons (.lst (.cons (.int 0) (.cons (.int 1) .nil))) (.cons (.tup (.cons (.var 3) (.cons (.int 0) (.cons (.int 1) .nil)))) (.cons (.tup (.cons (.var 3) .nil)) (.cons (.tup .nil) (.cons .non (.cons (.var 3) (.cons (.str "01") (.cons (.tup (.cons (.var 3) (.cons .non .nil))) (.cons (.tup (.cons (.bl true) (.cons (.int 0) .nil))) (.cons (.tup (.cons (.int 0) (.cons (.bl true) .nil))) .nil)))))))))))))))
    (.frz [7] (.cons (.loop (.nm 8) (.ex (.lst (.cons (.idx (.var 7) (.callIo 17 0 (.cons (.int 13) .nil))) (.cons (.idx (.var 7) (.callIo 17 0 (.cons (.int 13) .nil))) .nil)))) l34_1)
    (.cons (.ife (.and (.cmp .NotEq (.var 2) (.lst .nil)) (.one (.cmp .Eq (.callIo 17 0 (.cons (.int 6) .nil)) (.int 0)))) (.cons (.app1 6 (.slc (.bin .Mult (.var 2) (.bin .Add (.int 1) (.bin .FloorDiv (.int 1601) (.blt "len" (.cons (.var 2) .nil))))) .no (.int 1601)))
    .nil) .nil)
    (.cons (.ret (.mvar 6))
    .nil)))))))) }
def e35_1 : ME := (.tup (.cons (.var 4) (.cons (.var 3) .nil)))
def c35_1 : Es := (.cons (.cmp .Gt (.callIo 17 0 (.cons (.int 4) .nil)) (.int 0)) .nil)
def l35_1 : MSs := (.cons (.asg (.nm 2) (.bin .Add (.var 2) (.comp [("a", 4)] e35_1 (.nm 4) (.rng1 (.var 3)) c35_1)))
    (.frz [2] .nil))
def e35_2 : ME := (.bin .Add (.var 7) (.lst (.cons (.tup (.cons (.var 4) (.cons (.var 3) .nil))) .nil)))
def e35_3 : ME := (.bin .Add (.var 7) (.lst (.cons (.tup (.cons (.var 3) (.cons (.var 4) .nil))) .nil)))
def l35_2 : MSs := (.cons (.asg (.nm 6) (.bin .Add (.fz (.comp [("way", 7)] e35_2 (.nm 7) (.ex (.var 5)) .nil)) (.fz (.comp [("way", 7)] e35_3 (.nm 7) (.ex (.var 5)) .nil))))
    (.frz [6] (.cons (.asg (.nm 5) (.idx (.lst (.cons (.var 6) (.cons (.bin .Add (.var 6) (.var 5)) .nil))) (.blt "int" (.cons (.cmp .Lt (.blt "len" (.cons (.var 2) .nil)) (.int 4)) .nil))))
    (.frz [5] .nil))))
def e35_4 : ME := (.var 10)
def e35_5 : ME := (.var 9)
def l35_3 : MSs := (.cons (.ife (.not (.call 26 (.cons (.call 14 (.cons (.var 1) (.cons (.comp [("line", 9)] e35_5 (.nm 9) (.ex (.var 8)) .nil) (.cons (.comp [("pair", 10)] e35_4 (.nm 10) (.ex (.var 7)) .nil) .nil)))) (.cons (.call 31 (.cons (.var 1) (.cons (.var 2) (.cons (.var 7) .nil)))) .nil)))) (.cons (.ret (.bl false))
    .nil) .nil)
    .nil)
def f35 : Fn := { name := "_law_small", io := true, N := ["pool", "n", "lines", "b", "a", "ways", "more", "way", "asked", "line", "pair"], ps := ["pool"], body :=
    (.cons (.par [1, 2] (.cons (.bin .Add (.int 1) (.callIo 17 0 (.cons (.int 4) .nil))) (.cons (.lst .nil) .nil)))
    (.frz [2] (.cons (.loop (.nm 3) (.rng1 (.var 1)) l35_1)
    (.cons (.par [2, 5] (.cons (.blt "sorted" (.cons (.var 2) .nil)) (.cons (.lst (.cons (.lst .nil) .nil)) .nil)))
    (.frz [2, 5] (.cons (.loop (.tp (.cons (.nm 4) (.cons (.nm 3) .nil))) (.ex (.var 2)) l35_2)
    (.cons (.asg (.nm 8) (.callIo 32 0 (.cons (.var 2) .nil)))
    (.frz [8] (.cons (.loop (.nm 7) (.ex (.var 5)) l35_3)
    (.cons (.ret (.bl true))
    .nil)))))))))) }
def e36_1 : ME := (.var 6)
def l36_1 : MSs := (.cons (.asg (.nm 10) (.call 13 (.cons (.var 2) (.cons (.var 5) .nil))))
    (.cons (.ife (.or (.not (.call 26 (.cons (.var 10) (.cons (.var 8) .nil)))) (.one (.not (.call 26 (.cons (.var 5) (.cons (.var 3) .nil)))))) (.cons (.ret (.bl false))
    .nil) .nil)
    (.cons (.app1 10 (.tup (.cons (.int 0) (.cons (.var 9) .nil))))
    .nil)))
def e36_2 : ME := (.var 6)
def l36_2 : MSs := (.cons (.asg (.nm 5) (.comp [("pair", 6)] e36_2 (.nm 6) (.ex (.var 13)) .nil))
    (.frz [5] (.cons (.ife (.or (.not (.call 26 (.cons (.call 14 (.cons (.var 2) (.cons (.var 11) (.cons (.var 5) .nil)))) (.cons (.call 31 (.cons (.var 2) (.cons (.var 8) (.cons (.var 13) .nil)))) .nil)))) (.one (.not (.call 26 (.cons (.var 5) (.cons (.var 13) .nil)))))) (.cons (.ret (.bl false))
    .nil) .nil)
    .nil)))
def l36_3 : MSs := (.cons (.ife (.not (.call 26 (.cons (.call 14 (.cons (.var 2) (.cons (.var 11) (.cons (.var 13) .nil)))) (.cons (.bl false) .nil)))) (.cons (.ret (.bl false))
    .nil) .nil)
    .nil)
def e36_3 : ME := (.var 15)
def c36_3 : Es := (.cons (.cmp .NotEq (.var 15) (.tup (.cons (.int 0) (.cons (.bin .Sub (.var 2) (.int 1)) .nil)))) .nil)
def f36 : Fn := { name := "law", io := false, N := ["script", "pool", "n", "pairs", "rows", "handed", "pair", "due", "lines", "turn", "told", "asked", "kept", "value", "others", "line"], ps := ["script"], body :=
    (.cons (.asg (.nm 1) (.call 16 (.cons (.var 0) .nil)))
    (.cons (.asg (.tp (.cons (.nm 2) (.cons (.nm 3) .nil))) (.callIo 29 1 .nil))
    (.cons (.asg (.nm 3) (.callIo 28 1 (.cons (.var 3) .nil)))
    (.frz [3] (.cons (.ife (.cmp .Eq (.callIo 17 1 (.cons (.int 60) .nil)) (.int 0)) (.cons (.asg (.tp (.cons (.nm 2) (.cons (.nm 3) .nil))) (.callIo 30 1 .nil))
    .nil) .nil)
    (.cons (.par [4, 5] (.cons (.call 19 (.cons (.var 2) (.cons (.var 3) .nil))) (.cons (.comp [("pair", 6)] e36_1 (.nm 6) (.ex (.var 3)) .nil) .nil)))
    (.frz [4, 5] (.cons (.par [7, 8] (.cons (.call 20 (.cons (.var 4) .nil)) (.cons (.call 25 (.cons (.var 4) .nil)) .nil)))
    (.frz [7, 8] (.cons (.loop (.nm 9) (.rng1 (.int 2)) l36_1)
    (.cons (.asg (.nm 11) (.callIo 32 1 (.cons (.var 8) .nil)))
    (.frz [11] (.cons (.asg (.nm 12) (.blt "repr" (.cons (.var 11) .nil)))
    (.frz [12] (.cons (.loop (.nm 13) (.ex (.bin .Add (.lst (.cons (.var 3) (.cons (.var 7) .nil))) (.callIo 33 1 (.cons (.var 2) (.cons (.var 3) (.cons (.var 7) .nil)))))) l36_2)
    (.cons (.loop (.nm 13) (.ex (.callIo 34 1 (.cons (.var 2) (.cons (.var 3) .nil)))) l36_3)
    (.cons (.asg (.nm 14) (.comp [("line", 15)] e36_3 (.nm 15) (.ex (.var 8)) c36_3))
    (.cons (.ife (.cmp .NotIn (.tup (.cons (.int 0) (.cons (.bin .Sub (.var 2) (.int 1)) .nil))) (.var 8)) (.cons (.app1 14 (.tup (.cons (.int 0) (.cons (.bin .Sub (.var 2) (.int 1)) .nil))))
    .nil) .nil)
    (.cons (.ife (.and (.cmp .Gt (.var 2) (.int 1)) (.one (.not (.call 26 (.cons (.lst (.cons (.call 14 (.cons (.var 2) (.cons (.var 14) (.cons (.var 7) .nil)))) (.cons (.call 14 (.cons (.var 2) (.cons (.var 8) (.cons (.var 7) .nil)))) .nil))) (.cons (.lst (.cons (.bl false) (.cons (.bl true) .nil))) .nil)))))) (.cons (.ret (.bl false))
    .nil) .nil)
    (.cons (.ret (.and (.cmp .Eq (.blt "repr" (.cons (.var 11) .nil)) (.var 12)) (.one (.callIo 35 1 .nil))))
    .nil)))))))))))))))))))) }
def tab : Tab := [f0, f1, f2, f3, f4, f5, f6, f7, f8, f9, f10, f11, f12, f13, f14, f15, f16, f17, f18, f19, f20, f21, f22, f23, f24, f25, f26, f27, f28, f29, f30, f31, f32, f33, f34, f35, f36]
def tx : Txt := { fs := tab.map fun fn => (fn.name, fn.io), cs := [("MOST_PAIRS", 1600), ("MOST_PLACES", 40)] }
def topS (i : Nat) : Stmt := PySem.Challenge.pw_spanorder_k04_whole_orders_on_a_graph.main.body.getD i (.Pass ⟨0, 0, 0, 0⟩)
abbrev s0 : Stmt := topS 8
abbrev s1 : Stmt := topS 9
abbrev s2 : Stmt := topS 10
abbrev s3 : Stmt := topS 11
abbrev s4 : Stmt := topS 12
abbrev s5 : Stmt := topS 13
abbrev s6 : Stmt := topS 14
abbrev s7 : Stmt := topS 15
abbrev s8 : Stmt := topS 16
abbrev s9 : Stmt := topS 17
abbrev s10 : Stmt := topS 18
abbrev s11 : Stmt := topS 19
abbrev s12 : Stmt := topS 20
abbrev s13 : Stmt := topS 21
abbrev s14 : Stmt := topS 22
abbrev s15 : Stmt := topS 24
abbrev s16 : Stmt := topS 25
abbrev s17 : Stmt := topS 26
abbrev s18 : Stmt := topS 27
abbrev s19 : Stmt := topS 28
abbrev s20 : Stmt := topS 29
abbrev s21 : Stmt := topS 30
abbrev s22 : Stmt := topS 31
abbrev s23 : Stmt := topS 32
abbrev s24 : Stmt := topS 33
abbrev s25 : Stmt := topS 34
abbrev s26 : Stmt := topS 35
abbrev s27 : Stmt := topS 36
abbrev s28 : Stmt := topS 37
abbrev s29 : Stmt := topS 38
abbrev s30 : Stmt := topS 39
abbrev s31 : Stmt := topS 40
abbrev s32 : Stmt := topS 41
abbrev s33 : Stmt := topS 42
abbrev s34 : Stmt := topS 43
abbrev s35 : Stmt := topS 44
abbrev s36 : Stmt := topS 45
theorem sc0 : FnScope f0.N f0.ps (defScope s0) := ⟨rfl, rfl, rfl, by decide +kernel, rfl, by decide +kernel, by decide +kernel⟩
theorem m0 : mtSs tx f0.N (defScope s0) f0.body (defBody s0) = true := by decide +kernel
theorem sc1 : FnScope f1.N f1.ps (defScope s1) := ⟨rfl, rfl, rfl, by decide +kernel, rfl, by decide +kernel, by decide +kernel⟩
theorem m1 : mtSs tx f1.N (defScope s1) f1.body (defBody s1) = true := by decide +kernel
theorem sc2 : FnScope f2.N f2.ps (defScope s2) := ⟨rfl, rfl, rfl, by decide +kernel, rfl, by decide +kernel, by decide +kernel⟩
theorem m2 : mtSs tx f2.N (defScope s2) f2.body (defBody s2) = true := by decide +kernel
theorem sc3 : FnScope f3.N f3.ps (defScope s3) := ⟨rfl, rfl, rfl, by decide +kernel, rfl, by decide +kernel, by decide +kernel⟩
theorem m3 : mtSs tx f3.N (defScope s3) f3.body (defBody s3) = true := by decide +kernel
theorem sc4 : FnScope f4.N f4.ps (defScope s4) := ⟨rfl, rfl, rfl, by decide +kernel, rfl, by decide +kernel, by decide +kernel⟩
theorem m4 : mtSs tx f4.N (defScope s4) f4.body (defBody s4) = true := by decide +kernel
theorem sc5 : FnScope f5.N f5.ps (defScope s5) := ⟨rfl, rfl, rfl, by decide +kernel, rfl, by decide +kernel, by decide +kernel⟩
theorem m5 : mtSs tx f5.N (defScope s5) f5.body (defBody s5) = true := by decide +kernel
theorem sc6 : FnScope f6.N f6.ps (defScope s6) := ⟨rfl, rfl, rfl, by decide +kernel, rfl, by decide +kernel, by decide +kernel⟩
theorem m6 : mtSs tx f6.N (defScope s6) f6.body (defBody s6) = true := by decide +kernel
theorem sc7 : FnScope f7.N f7.ps (defScope s7) := ⟨rfl, rfl, rfl, by decide +kernel, rfl, by decide +kernel, by decide +kernel⟩
theorem m7 : mtSs tx f7.N (defScope s7) f7.body (defBody s7) = true := by decide +kernel
theorem sc8 : FnScope f8.N f8.ps (defScope s8) := ⟨rfl, rfl, rfl, by decide +kernel, rfl, by decide +kernel, by decide +kernel⟩
theorem m8 : mtSs tx f8.N (defScope s8) f8.body (defBody s8) = true := by decide +kernel
theorem sc9 : FnScope f9.N f9.ps (defScope s9) := ⟨rfl, rfl, rfl, by decide +kernel, rfl, by decide +kernel, by decide +kernel⟩
theorem m9 : mtSs tx f9.N (defScope s9) f9.body (defBody s9) = true := by decide +kernel
theorem sc10 : FnScope f10.N f10.ps (defScope s10) := ⟨rfl, rfl, rfl, by decide +kernel, rfl, by decide +kernel, by decide +kernel⟩
theorem m10 : mtSs tx f10.N (defScope s10) f10.body (defBody s10) = true := by decide +kernel
theorem sc11 : FnScope f11.N f11.ps (defScope s11) := ⟨rfl, rfl, rfl, by decide +kernel, rfl, by decide +kernel, by decide +kernel⟩
theorem m11 : mtSs tx f11.N (defScope s11) f11.body (defBody s11) = true := by decide +kernel
theorem sc12 : FnScope f12.N f12.ps (defScope s12) := ⟨rfl, rfl, rfl, by decide +kernel, rfl, by decide +kernel, by decide +kernel⟩
theorem m12 : mtSs tx f12.N (defScope s12) f12.body (defBody s12) = true := by decide +kernel
theorem sc13 : FnScope f13.N f13.ps (defScope s13) := ⟨rfl, rfl, rfl, by decide +kernel, rfl, by decide +kernel, by decide +kernel⟩
theorem m13 : mtSs tx f13.N (defScope s13) f13.body (defBody s13) = true := by decide +kernel
theorem sc14 : FnScope f14.N f14.ps (defScope s14) := ⟨rfl, rfl, rfl, by decide +kernel, rfl, by decide +kernel, by decide +kernel⟩
theorem m14 : mtSs tx f14.N (defScope s14) f14.body (defBody s14) = true := by decide +kernel
theorem sc15 : FnScope f15.N f15.ps (defScope s15) := ⟨rfl, rfl, rfl, by decide +kernel, rfl, by decide +kernel, by decide +kernel⟩
theorem m15 : mtSs tx f15.N (defScope s15) f15.body (defBody s15) = true := by decide +kernel
theorem sc16 : FnScope f16.N f16.ps (defScope s16) := ⟨rfl, rfl, rfl, by decide +kernel, rfl, by decide +kernel, by decide +kernel⟩
theorem m16 : mtSs tx f16.N (defScope s16) f16.body (defBody s16) = true := by decide +kernel
theorem sc17 : FnScope f17.N f17.ps (defScope s17) := ⟨rfl, rfl, rfl, by decide +kernel, rfl, by decide +kernel, by decide +kernel⟩
theorem m17 : mtSs tx f17.N (defScope s17) f17.body (defBody s17) = true := by decide +kernel
theorem sc18 : FnScope f18.N f18.ps (defScope s18) := ⟨rfl, rfl, rfl, by decide +kernel, rfl, by decide +kernel, by decide +kernel⟩
theorem m18 : mtSs tx f18.N (defScope s18) f18.body (defBody s18) = true := by decide +kernel
theorem sc19 : FnScope f19.N f19.ps (defScope s19) := ⟨rfl, rfl, rfl, by decide +kernel, rfl, by decide +kernel, by decide +kernel⟩
theorem m19 : mtSs tx f19.N (defScope s19) f19.body (defBody s19) = true := by decide +kernel
theorem sc20 : FnScope f20.N f20.ps (defScope s20) := ⟨rfl, rfl, rfl, by decide +kernel, rfl, by decide +kernel, by decide +kernel⟩
theorem m20 : mtSs tx f20.N (defScope s20) f20.body (defBody s20) = true := by decide +kernel
theorem sc21 : FnScope f21.N f21.ps (defScope s21) := ⟨rfl, rfl, rfl, by decide +kernel, rfl, by decide +kernel, by decide +kernel⟩
theorem m21 : mtSs tx f21.N (defScope s21) f21.body (defBody s21) = true := by decide +kernel
theorem sc22 : FnScope f22.N f22.ps (defScope s22) := ⟨rfl, rfl, rfl, by decide +kernel, rfl, by decide +kernel, by decide +kernel⟩
theorem m22 : mtSs tx f22.N (defScope s22) f22.body (defBody s22) = true := by decide +kernel
theorem sc23 : FnScope f23.N f23.ps (defScope s23) := ⟨rfl, rfl, rfl, by decide +kernel, rfl, by decide +kernel, by decide +kernel⟩
theorem m23 : mtSs tx f23.N (defScope s23) f23.body (defBody s23) = true := by decide +kernel
theorem sc24 : FnScope f24.N f24.ps (defScope s24) := ⟨rfl, rfl, rfl, by decide +kernel, rfl, by decide +kernel, by decide +kernel⟩
theorem m24 : mtSs tx f24.N (defScope s24) f24.body (defBody s24) = true := by decide +kernel
theorem sc25 : FnScope f25.N f25.ps (defScope s25) := ⟨rfl, rfl, rfl, by decide +kernel, rfl, by decide +kernel, by decide +kernel⟩
theorem m25 : mtSs tx f25.N (defScope s25) f25.body (defBody s25) = true := by decide +kernel
theorem sc26 : FnScope f26.N f26.ps (defScope s26) := ⟨rfl, rfl, rfl, by decide +kernel, rfl, by decide +kernel, by decide +kernel⟩
theorem m26 : mtSs tx f26.N (defScope s26) f26.body (defBody s26) = true := by decide +kernel
theorem sc27 : FnScope f27.N f27.ps (defScope s27) := ⟨rfl, rfl, rfl, by decide +kernel, rfl, by decide +kernel, by decide +kernel⟩
theorem m27 : mtSs tx f27.N (defScope s27) f27.body (defBody s27) = true := by decide +kernel
theorem sc28 : FnScope f28.N f28.ps (defScope s28) := ⟨rfl, rfl, rfl, by decide +kernel, rfl, by decide +kernel, by decide +kernel⟩
theorem m28 : mtSs tx f28.N (defScope s28) f28.body (defBody s28) = true := by decide +kernel
theorem sc29 : FnScope f29.N f29.ps (defScope s29) := ⟨rfl, rfl, rfl, by decide +kernel, rfl, by decide +kernel, by decide +kernel⟩
theorem m29 : mtSs tx f29.N (defScope s29) f29.body (defBody s29) = true := by decide +kernel
theorem sc30 : FnScope f30.N f30.ps (defScope s30) := ⟨rfl, rfl, rfl, by decide +kernel, rfl, by decide +kernel, by decide +kernel⟩
theorem m30 : mtSs tx f30.N (defScope s30) f30.body (defBody s30) = true := by decide +kernel
theorem sc31 : FnScope f31.N f31.ps (defScope s31) := ⟨rfl, rfl, rfl, by decide +kernel, rfl, by decide +kernel, by decide +kernel⟩
theorem m31 : mtSs tx f31.N (defScope s31) f31.body (defBody s31) = true := by decide +kernel
theorem sc32 : FnScope f32.N f32.ps (defScope s32) := ⟨rfl, rfl, rfl, by decide +kernel, rfl, by decide +kernel, by decide +kernel⟩
theorem m32 : mtSs tx f32.N (defScope s32) f32.body (defBody s32) = true := by decide +kernel
theorem sc33 : FnScope f33.N f33.ps (defScope s33) := ⟨rfl, rfl, rfl, by decide +kernel, rfl, by decide +kernel, by decide +kernel⟩
theorem m33 : mtSs tx f33.N (defScope s33) f33.body (defBody s33) = true := by decide +kernel
theorem sc34 : FnScope f34.N f34.ps (defScope s34) := ⟨rfl, rfl, rfl, by decide +kernel, rfl, by decide +kernel, by decide +kernel⟩
theorem m34 : mtSs tx f34.N (defScope s34) f34.body (defBody s34) = true := by decide +kernel
theorem sc35 : FnScope f35.N f35.ps (defScope s35) := ⟨rfl, rfl, rfl, by decide +kernel, rfl, by decide +kernel, by decide +kernel⟩
theorem m35 : mtSs tx f35.N (defScope s35) f35.body (defBody s35) = true := by decide +kernel
theorem sc36 : FnScope f36.N f36.ps (defScope s36) := ⟨rfl, rfl, rfl, by decide +kernel, rfl, by decide +kernel, by decide +kernel⟩
theorem m36 : mtSs tx f36.N (defScope s36) f36.body (defBody s36) = true := by decide +kernel
end K04
namespace K04
open L2 Mi
structure PoolOk (p : List D) : Prop where
  len : 3 ≤ p.length
  cur : ∃ (c : Nat) (r : List D), p = .int (c : Int) :: r ∧ 1 ≤ c ∧ c ≤ r.length ∧ ∀ (j : Nat) (d : D), r[j]? = some d → ∃ y : Int, d = .int y
theorem pick (k : Nat) (m : Int) (hm : 0 < m) (p : List D) (hp : PoolOk p) : ∃ v p', callF tab (k + 1) 17 [.int m] (some p) = some (.im (.int v), some p') ∧ 0 ≤ v ∧ v < m ∧ PoolOk p' ∧ p'.length = p.length := by
  obtain ⟨hl, c, r, rfl, h1, h2, hr⟩ := hp
  simp only [List.length_cons] at hl
  obtain ⟨y, hy⟩ : ∃ y, r[c - 1]? = some (.int y) := by
    have e : r[c - 1]? = some (r[c - 1]'(by omega)) := List.getElem?_eq_getElem _
    obtain ⟨y, hy⟩ := hr _ _ e
    exact ⟨y, by rw [e, hy]⟩
  obtain ⟨c, rfl⟩ : ∃ c', c = c' + 1 := ⟨c - 1, by omega⟩
  have hy : r[c]? = some (.int y) := by simpa using hy
  have j0 : ∀ x : Cell, atI (x :: r.map Cell.im) ((c : Int) + 1) = some (.im (.int y)) := fun x => by
    rw [show (c : Int) + 1 = ((c + 1 : Nat) : Int) by simp, Mi.atI_nat]; simp [hy]
  refine ⟨y % m, (if c + 1 = r.length then D.int 1 else D.int ((c : Int) + 1 + 1)) :: r, ?_, Int.emod_nonneg _ (by omega), Int.emod_lt_of_pos _ hm, ?_, by simp⟩
  · refine call_rt (ρ := [.io, .c (.im (.int m)), .c (.im (.int ((c : Int) + 1)))]) rfl rfl rfl rfl ?_
    have e1 : ((c : Int) + 1 + 1 = (r.length : Int) + 1) ↔ c + 1 = r.length := by omega
    by_cases hc : c + 1 = r.length
    · have e2 : ((r.length : Nat) : Int) = (c : Int) + 1 := by omega
      simp [f17, start0, ixN_0, j0, e2, o_mod hm, ← hc]
    · simp [f17, start0, ixN_0, j0, e1, hc, o_mod hm]
  · refine ⟨by simpa using hl, ?_⟩
    by_cases hc : c + 1 = r.length
    · exact ⟨1, r, by simp [hc], by omega, by omega, hr⟩
    · exact ⟨c + 2, r, by rw [if_neg hc]; simp; omega, by omega, by omega, hr⟩
/-- numbers -/
def Ints (r : List D) : Prop := ∀ d ∈ r, ∃ y : Int, d = .int y
theorem Ints.app {r t : List D} (h : Ints r) (k : Ints t) : Ints (r ++ t) := fun d hd => by
  rcases List.mem_append.mp hd with z | z
  · exact h d z
  · exact k d z
theorem rng_get {n j : Nat} {d : D} (h : (rngD 0 (n : Int))[j]? = some d) : d = .int (j : Int) ∧ j < n := by
  unfold rngD at h
  rw [List.getElem?_map] at h
  simp only [Option.map_eq_some_iff, List.getElem?_range'] at h
  obtain ⟨i, h1, h2⟩ := h
  have := List.getElem?_eq_some_iff.mp h1
  obtain ⟨a, b⟩ := this
  simp at a b
  subst b
  exact ⟨by simpa using h2.symm, by omega⟩
theorem rng_lenN (n : Nat) : (rngD 0 (n : Int)).length = n := by rw [rngD_len]; simp
theorem Ints.snoc {r : List D} (h : Ints r) (y : Int) : Ints (r ++ [D.int y]) := h.app fun d hd => ⟨y, by simpa using hd⟩
theorem scr_get {ns : List Int} {j : Nat} {d : D} (h : (ns.map D.int)[j]? = some d) : j < ns.length ∧ ∃ y, d = .int y := by
  have hj := (List.getElem?_eq_some_iff.mp h).1
  rw [List.getElem?_map] at h
  simp only [Option.map_eq_some_iff] at h
  obtain ⟨y, _, h⟩ := h
  exact ⟨by simpa using hj, y, h.symm⟩
theorem pool_1 (k : Nat) (ns : List Int) (hns : ns.length ≤ 63) (y : Int) (x4 : Sl) (r : List D) (hr : Ints r) (hl : r.length ≤ 4000) :
    ∃ S', loopL (.nm 4) (runs (callF tab k) l15_2) (rngD 0 60) ⟨[.c (.im (.scr ns)), .c (.ow (r.map .im)), .c (.im (.int y)), .c (.im (.int y)), x4, .no], none⟩ = some (.nx S') ∧
      ∃ x3 x4 r', S' = ⟨[.c (.im (.scr ns)), .c (.ow (r'.map .im)), .c (.im (.int y)), x3, x4, .no], none⟩ ∧ Ints r' ∧ r'.length ≤ r.length + 60 := by
  refine loop_bk (fun i S => ∃ z x4 r', S = ⟨[.c (.im (.scr ns)), .c (.ow (r'.map .im)), .c (.im (.int y)), .c (.im (.int z)), x4, .no], none⟩ ∧ Ints r' ∧ r'.length ≤ r.length + i) _ _ _ 0 ⟨y, _, r, rfl, hr, by omega⟩
    (fun S ⟨z, x4, r', h1, h2, h3⟩ => ⟨_, x4, r', h1, h2, by
      have : (rngD 0 60).length = 60 := rng_lenN 60
      omega⟩) (fun j d S hd hi => ?_)
  obtain ⟨z, x4, r', rfl, h2, h3⟩ := hi
  obtain ⟨rfl, hj⟩ := rng_get (n := 60) hd
  have hlt : r'.length < 16777216 := by omega
  refine ⟨_, rfl, ⟨[.c (.im (.scr ns)), .c (.ow ((r' ++ [D.int (z % 60)]).map .im)), .c (.im (.int y)), .c (.im (.int (z / 60))), .c (.im (.int (j : Int))), .no], none⟩, ?_⟩
  by_cases hz : z / 60 = 0
  · exact .inr ⟨by simp [l15_2, o_mod, o_fdiv, hlt, hz], _, _, _, rfl, h2.snoc _, by simp; omega⟩
  · exact .inl ⟨.inl (by simp [l15_2, o_mod, o_fdiv, hlt, hz]), _, _, _, rfl, h2.snoc _, by simp; omega⟩
theorem pool_2 (k : Nat) (ns : List Int) (hns : ns.length ≤ 63) :
    ∃ S', loopL (.nm 2) (runs (callF tab k) l15_1) (ns.map D.int) ⟨[.c (.im (.scr ns)), .c (.ow []), .no, .no, .no, .no], none⟩ = some (.nx S') ∧
      ∃ x2 x3 x4 r, S' = ⟨[.c (.im (.scr ns)), .c (.ow (r.map .im)), x2, x3, x4, .no], none⟩ ∧ Ints r ∧ r.length ≤ 60 * (0 + (ns.map D.int).length) := by
  refine loop_nx (fun i S => ∃ x2 x3 x4 r, S = ⟨[.c (.im (.scr ns)), .c (.ow (r.map .im)), x2, x3, x4, .no], none⟩ ∧ Ints r ∧ r.length ≤ 60 * i) _ _ 0 ⟨_, _, _, [], rfl, fun _ h => (nomatch h), by simp⟩ (fun j d S hd hi => ?_)
  obtain ⟨x2, x3, x4, r, rfl, hr, hl⟩ := hi
  obtain ⟨hj, y, rfl⟩ := scr_get hd
  refine ⟨_, rfl, ?_⟩
  by_cases hy : (1000000000000000000 : Int) ≤ y
  · obtain ⟨S', e, x3', x4', r', rfl, h2, h3⟩ := pool_1 k ns hns y x4 r hr (by omega)
    refine ⟨?S, .inl ?e, ?h⟩
    case e => simp [l15_1, o_pow, hy, rngOk, e]; rfl
    exact ⟨_, _, _, r', rfl, h2, by omega⟩
  · have hc := fun x => o_cat (a := .ow (r.map .im)) (b := .ow [.im (.int (y % 60)), .im (.int x)]) (xs := r) (ys := [.int (y % 60), .int x]) (ims_map r) rfl (by simp; omega)
    refine ⟨?S2, .inl ?e2, ?h2⟩
    case e2 => simp only [l15_1]; simp [o_pow, hy, o_mod, o_fdiv, hc]; rfl
    exact ⟨_, _, _, r ++ [D.int (y % 60), D.int (y / 60 % 60)], by simp; exact ⟨rfl, rfl, rfl⟩, hr.app fun d hd => by
      simp only [List.mem_cons, List.not_mem_nil, or_false] at hd
      rcases hd with rfl | rfl <;> exact ⟨_, rfl⟩, by simp; omega⟩
theorem pool_3 (k : Nat) (ns : List Int) (x1 x2 x3 x4 : Sl) (z : Int) :
    ∃ S', loopL (.nm 2) (runs (callF tab k) l15_3) (ns.map D.int) ⟨[.c (.im (.scr ns)), x1, x2, x3, x4, .c (.im (.int z))], none⟩ = some (.nx S') ∧
      ∃ x2 z, S' = ⟨[.c (.im (.scr ns)), x1, x2, x3, x4, .c (.im (.int z))], none⟩ := by
  refine loop_nx (fun i S => ∃ x2 z, S = ⟨[.c (.im (.scr ns)), x1, x2, x3, x4, .c (.im (.int z))], none⟩) _ _ 0 ⟨_, _, rfl⟩ (fun j d S hd hi => ?_)
  obtain ⟨x2, z, rfl⟩ := hi
  obtain ⟨hj, y, rfl⟩ := scr_get hd
  refine ⟨_, rfl, ?S, .inl ?e, ?h⟩
  case e => simp [l15_3, o_mul, o_mod]; rfl
  exact ⟨_, _, rfl⟩
theorem pool_4 (k : Nat) (ns : List Int) (r : List D) (hr : Ints r) (hl : r.length ≤ 4000) (x2 x3 x4 : Sl) (z : Int) :
    ∃ S', loopL (.nm 4) (runs (callF tab k) l15_4) (rngD 0 300) ⟨[.c (.im (.scr ns)), .c (.ow (r.map .im)), x2, x3, x4, .c (.im (.int z))], none⟩ = some (.nx S') ∧
      ∃ x4 z r', S' = ⟨[.c (.im (.scr ns)), .c (.ow (r'.map .im)), x2, x3, x4, .c (.im (.int z))], none⟩ ∧ Ints r' ∧ r'.length = r.length + (0 + (rngD 0 300).length) := by
  refine loop_nx (fun i S => ∃ x4 z r', S = ⟨[.c (.im (.scr ns)), .c (.ow (r'.map .im)), x2, x3, x4, .c (.im (.int z))], none⟩ ∧ Ints r' ∧ r'.length = r.length + i) _ _ 0 ⟨_, _, r, rfl, hr, rfl⟩ (fun j d S hd hi => ?_)
  obtain ⟨x4, z, r', rfl, h2, h3⟩ := hi
  obtain ⟨rfl, hj⟩ := rng_get (n := 300) hd
  have hlt : r'.length < 16777216 := by omega
  refine ⟨_, rfl, ?S, .inl ?e, ?h⟩
  case e => simp [l15_4, o_mul, o_mod, o_fdiv, hlt]; rfl
  exact ⟨_, _, r' ++ [_], by simp; exact ⟨rfl, rfl, rfl⟩, h2.snoc _, by simp; omega⟩
theorem pool_ok (k : Nat) (ns : List Int) (hns : ns.length ≤ 63) : ∃ r, callF tab (k + 1) 15 [.scr ns] none = some (.ow (r.map .im), none) ∧ Ints r ∧ 300 ≤ r.length ∧ r.length ≤ 5000 := by
  obtain ⟨S1, e1, x2, x3, x4, r1, rfl, h1, h2⟩ := pool_2 k ns hns
  obtain ⟨S2, e2, x2', z2, rfl⟩ := pool_3 k ns (.c (.ow (r1.map .im))) x2 x3 x4 17
  rw [Nat.zero_add, List.length_map] at h2
  obtain ⟨S3, e3, x4', z3, r3, rfl, h3, h4⟩ := pool_4 k ns r1 h1 (by omega) x2' x3 x4 z2
  have : (rngD 0 300).length = 300 := rng_lenN 300
  refine ⟨r3, call_rt (ρ := ?ρ) rfl rfl rfl rfl ?e, h3, by omega, by omega⟩
  case e => simp [f15, start0, e1, e2, e3, rngOk]; rfl
theorem stream_ok (k : Nat) (ns : List Int) (hns : ns.length ≤ 63) : ∃ p, callF tab (k + 2) 16 [.scr ns] none = some (.ow (p.map .im), none) ∧ PoolOk p := by
  obtain ⟨r, e, h1, h2, h3⟩ := pool_ok k ns hns
  have hc := o_cat (a := .ow [.im (.int 1)]) (b := .ow (r.map .im)) (xs := [.int 1]) (ys := r) rfl (ims_map r) (by simp; omega)
  refine ⟨.int 1 :: r, call_rt (ρ := ?ρ) rfl rfl rfl rfl ?e, by simp; omega, 1, r, rfl, by omega, by omega, fun j d hd => h1 d (List.mem_of_getElem? hd)⟩
  case e => simp [f16, start0, e, hc]; rfl
end K04
namespace K04
open L2 Mi
theorem draw_step (k : Nat) (a : Sl) (L F : List D) (hL : 0 < L.length) (hz : L.length ≤ 10000) (hF : F.length ≤ 10000) (p : List D) (hp : PoolOk p) (rest : List Sl) :
    ∃ v p' d, L[v]? = some d ∧ PoolOk p' ∧ runs (callF tab (k + 1)) l18_1 ⟨.io :: a :: .c (.ow (L.map .im)) :: .c (.ow (F.map .im)) :: rest, some p⟩ =
      some (.nx ⟨.io :: a :: .c (.ow ((L.eraseIdx v).map .im)) :: .c (.ow ((F ++ [d]).map .im)) :: rest, some p'⟩) := by
  obtain ⟨v, p', e, h1, h2, h3, h4⟩ := pick k (L.length : Int) (by omega) p hp
  obtain ⟨v, rfl⟩ : ∃ n : Nat, v = (n : Int) := ⟨v.toNat, by omega⟩
  have hv : v < L.length := by omega
  refine ⟨v, p', L[v], List.getElem?_eq_getElem hv, h3, ?_⟩
  have hlt : F.length < 16777216 := by omega
  have e1 : (evB (callF tab (k + 1)) (.callIo 17 0 (.cons (.blt "len" (.cons (.var 2) .nil)) .nil))).v ⟨.io :: a :: .c (.ow (L.map .im)) :: .c (.ow (F.map .im)) :: rest, some p⟩ = some (.own (.im (.int (v : Int))), ⟨.io :: a :: .c (.ow (L.map .im)) :: .c (.ow (F.map .im)) :: rest, some p'⟩) :=
    e_callIo (S2 := ⟨.io :: a :: .c (.ow (L.map .im)) :: .c (.ow (F.map .im)) :: rest, some p⟩) (rs := [.own (.im (.int (L.length : Int)))]) rfl rfl (by simp) rfl rfl rfl e
  have e2 := e_pop (S2 := ⟨.io :: a :: .c (.ow (L.map .im)) :: .c (.ow (F.map .im)) :: rest, some p'⟩) (c := .im L[v]) (i := 2) rfl e1 rfl (by omega) (by simp [hv])
  rw [erase_map] at e2
  have e2 : (evB (callF tab (k + 1)) (.pop 2 (.callIo 17 0 (.cons (.blt "len" (.cons (.var 2) .nil)) .nil)))).v ⟨.io :: a :: .c (.ow (L.map .im)) :: .c (.ow (F.map .im)) :: rest, some p⟩ = some (.own (.im L[v]), ⟨.io :: a :: .c (.ow ((L.eraseIdx v).map .im)) :: .c (.ow (F.map .im)) :: rest, some p'⟩) := e2
  unfold l18_1
  rw [r_cons, r_app1, e2]
  simp [hlt]
theorem erase_perm : ∀ {xs : List D} {v : Nat} {d : D}, xs[v]? = some d → (d :: xs.eraseIdx v).Perm xs
  | [], _, _, h => by simp at h
  | x :: xs, 0, d, h => by
    have : x = d := by simpa using h
    subst this
    exact List.Perm.refl _
  | x :: xs, v + 1, d, h => by
    have ih := erase_perm (xs := xs) (v := v) (d := d) (by simpa using h)
    exact (List.Perm.swap x d _).trans (ih.cons x)
theorem draw_all (k : Nat) (a : Sl) (L0 : List D) (hz : L0.length ≤ 5000) (t : Nat) (c4 : List Sl) (p : List D) (hp : PoolOk p) (m : Nat) (hm : m = L0.length) (rest : List Sl) :
    ∃ S', loopL (.nm (4 + t)) (runs (callF tab (k + 1)) l18_1) (rngD 0 (m : Int)) ⟨.io :: a :: .c (.ow (L0.map .im)) :: .c (.ow ([].map .im)) :: rest, some p⟩ = some (.nx S') ∧
      ∃ (L F p' : List D) (rest' : List Sl), S' = ⟨.io :: a :: .c (.ow (L.map .im)) :: .c (.ow (F.map .im)) :: rest', some p'⟩ ∧ (L ++ F).Perm L0 ∧ F.length = 0 + (rngD 0 (m : Int)).length ∧ PoolOk p' := by
  subst hm
  refine loop_nx (fun i S => ∃ (L F p' : List D) (rest' : List Sl), S = ⟨.io :: a :: .c (.ow (L.map .im)) :: .c (.ow (F.map .im)) :: rest', some p'⟩ ∧ (L ++ F).Perm L0 ∧ F.length = i ∧ PoolOk p') _ _ 0 ⟨L0, [], p, rest, rfl, by simp, rfl, hp⟩ (fun j d S hd hi => ?_)
  obtain ⟨L, F, p', rest', rfl, h1, h2, h3⟩ := hi
  obtain ⟨rfl, hj⟩ := rng_get hd
  have hlen := h1.length_eq
  rw [List.length_append] at hlen
  obtain ⟨v, p2, d, q1, q2, q3⟩ := draw_step k a L F (by omega) (by omega) (by omega) p' h3 (rest'.set t (.c (.im (.int (j : Int)))))
  have es : (Sl.io :: a :: .c (.ow (L.map .im)) :: .c (.ow (F.map .im)) :: rest').set (4 + t) (.c (.im (.int (j : Int)))) = Sl.io :: a :: .c (.ow (L.map .im)) :: .c (.ow (F.map .im)) :: rest'.set t (.c (.im (.int (j : Int)))) := by
    rw [show 4 + t = t + 1 + 1 + 1 + 1 by omega]; rfl
  refine ⟨_, by rw [t_nm, es], _, .inl q3, _, _, _, _, rfl, ?_, by simp; omega, q2⟩
  refine List.Perm.trans ?_ h1
  rw [← List.append_assoc]
  exact (List.perm_append_comm (l₂ := [d])).trans ((erase_perm q1).append_right F)
/-- _law_turn -/
theorem turn_ok (k : Nat) (n : Nat) (hn : n ≤ 5000) (p : List D) (hp : PoolOk p) : ∃ (F p' : List D), callF tab (k + 2) 18 [.int (n : Int)] (some p) = some (.ow (F.map .im), some p') ∧ F.Perm (rngD 0 (n : Int)) ∧ PoolOk p' := by
  obtain ⟨S', e, L, F, p', rest', rfl, h1, h2, h3⟩ := draw_all k (.c (.im (.int (n : Int)))) (rngD 0 (n : Int)) (by rw [rng_lenN]; omega) 0 [] p hp n (by rw [rng_lenN]) [.no]
  rw [rng_lenN] at h2
  have hl := h1.length_eq
  rw [List.length_append, rng_lenN] at hl
  have : L = [] := List.length_eq_zero_iff.mp (by omega)
  subst this
  have hn' := e_lrng1 (cf := callF tab (k + 1)) (a := .var 1) (S := ⟨[.io, .c (.im (.int (n : Int))), .no, .no, .no], some p⟩) (n := (n : Int)) rfl (by omega) (by omega)
  have hr : rngOk 0 (n : Int) = true := rngOk_nat (by omega)
  have e' : loopL (.nm 4) (runs (callF tab (k + 1)) l18_1) (rngD 0 (n : Int)) ⟨[.io, .c (.im (.int (n : Int))), .c (.ow ((rngD 0 (n : Int)).map .im)), .c (.ow []), .no], some p⟩ = _ := e
  refine ⟨F, p', call_rt (ρ := ?ρ) rfl rfl rfl rfl ?e, by simpa using h1, h3⟩
  case e =>
    unfold f18
    refine r_seq (S1 := ⟨[.io, .c (.im (.int (n : Int))), .c (.ow ((rngD 0 (n : Int)).map .im)), .c (.ow []), .no], some p⟩) ?_ (r_seq (r_for (i_rg1 (n := n) rfl (by omega)) e') ?_)
    · simp [start0, hn']
    · simp; rfl
end K04
namespace K04
open L2 Mi
/-- a pair as a value -/
def prD (q : Nat × Nat) : D := .tup [.int (q.1 : Int), .int (q.2 : Int)]
theorem perm_inv {α β : Type} (f : α → β) : ∀ {M F : List β}, M.Perm F → ∀ L : List α, M = L.map f → ∃ L' : List α, F = L'.map f ∧ L'.Perm L := by
  intro M F h
  induction h with
  | nil => intro L e; exact ⟨[], rfl, by cases L with | nil => exact .refl _ | cons _ _ => simp at e⟩
  | cons x h ih =>
    intro L e
    cases L with
    | nil => simp at e
    | cons y L =>
      simp only [List.map_cons, List.cons.injEq] at e
      obtain ⟨rfl, e⟩ := e
      obtain ⟨L', e', p⟩ := ih L e
      exact ⟨y :: L', by simp [e'], p.cons y⟩
  | swap x y l =>
    intro L e
    match L, e with
    | a :: b :: L, e =>
      simp only [List.map_cons, List.cons.injEq] at e
      obtain ⟨rfl, rfl, rfl⟩ := e
      exact ⟨b :: a :: L, rfl, .swap _ _ _⟩
    | [], e => simp at e
    | [_], e => simp at e
  | trans h1 h2 ih1 ih2 =>
    intro L e
    obtain ⟨L1, e1, p1⟩ := ih1 L e
    obtain ⟨L2, e2, p2⟩ := ih2 L1 e1
    exact ⟨L2, e2, p2.trans p1⟩
/-- [row for row in rows] -/
theorem copy_ok (cf : CF) (vs : List Nat) (i : Nat) (hi : vs = [i]) (ds : List D) (ρ : List Sl) (hl : i < ρ.length) (io : Option (List D)) (hz : ds.length ≤ 10000) (e : ME) (he : e = .var i) :
    ∃ S', compL vs (.nm i) (evsB cf .nil).t (evB cf e).v ds ⟨ρ, io⟩ [] = some (ds.map .im, S') ∧ S'.io = io ∧ wipeS S'.ρ vs = wipeS ρ vs ∧ S'.ρ.length = ρ.length := by
  subst hi he
  obtain ⟨acc, S', h1, h2, h3, h4, h5⟩ := comp_nx (vs := [i]) (t := .nm i) (cond := (evsB cf .nil).t) (el := (evB cf (.var i)).v) (fun j S acc => acc = (ds.take j).map .im ∧ S.io = io ∧ wipeS S.ρ [i] = wipeS ρ [i] ∧ S.ρ.length = ρ.length) 0 ds ⟨ρ, io⟩ [] 0 ⟨rfl, rfl, rfl, rfl⟩ (by simp; omega) (fun j d S acc hd ⟨h1, h2, h3, h4⟩ => by
    refine ⟨_, rfl, true, ⟨(wipeS S.ρ [i]).set i (.c (.im d)), S.io⟩, rfl, ?_⟩
    rw [if_pos rfl]
    refine ⟨.im d, ⟨(wipeS S.ρ [i]).set i (.c (.im d)), S.io⟩, ?_, ?_, h2, ?_, ?_⟩
    · have : ((wipeS S.ρ [i]).set i (.c (.im d)))[i]? = some (.c (.im d)) := by
        rw [List.getElem?_set_self (by rw [wipeS_len]; omega)]
      simp [this]
    · subst h1
      rw [Nat.zero_add, List.take_add_one, hd]
      simp
    · rw [← h3]
      simp [wipeS, List.set_set]
    · simp [wipeS_len, h4])
  refine ⟨S', ?_, h3, h4, h5⟩
  rw [h1, h2]
  simp
theorem back_self {ρ ρF : List Sl} {vs : List Nat} (h : wipeS ρF vs = wipeS ρ vs) : backS ρ ρF vs = ρ := back_of_wipe h
/-- _law_mixed -/
theorem mixed_ok (k : Nat) (ds : List D) (hz : ds.length ≤ 5000) (p : List D) (hp : PoolOk p) : ∃ (F p' : List D), callF tab (k + 2) 27 [.lst ds] (some p) = some (.ow (F.map .im), some p') ∧ F.Perm ds ∧ PoolOk p' := by
  obtain ⟨S1, c1, c2, c3, c4⟩ := copy_ok (callF tab (k + 1)) [4] 4 rfl ds [.io, .c (.im (.lst ds)), .no, .no, .no, .no] (by simp) (some p) (by omega) e27_1 rfl
  obtain ⟨S', e, L, F, p', rest', rfl, h1, h2, h3⟩ := draw_all k (.c (.im (.lst ds))) ds hz 1 [] p hp ds.length rfl [.no, .no]
  rw [rng_lenN] at h2
  have hl := h1.length_eq
  rw [List.length_append] at hl
  have : L = [] := List.length_eq_zero_iff.mp (by omega)
  subst this
  have hb := back_self c3
  have hcomp : (evB (callF tab (k + 1)) (.comp [("row", 4)] e27_1 (.nm 4) (.ex (.var 1)) .nil)).v ⟨[.io, .c (.im (.lst ds)), .no, .no, .no, .no], some p⟩ = some (.own (.ow (ds.map .im)), ⟨[.io, .c (.im (.lst ds)), .no, .no, .no, .no], some p⟩) := by
    rw [x_comp, x_mkV_v]
    simp [Sl.isIm, c1, hb, c2]
  refine ⟨F, p', call_rt (ρ := ?ρ) rfl rfl rfl rfl ?e, by simpa using h1, h3⟩
  case e =>
    unfold f27
    refine r_seq (S1 := ⟨[.io, .c (.im (.lst ds)), .c (.ow (ds.map .im)), .c (.ow []), .no, .no], some p⟩) ?_ (r_seq (r_for (S1 := ⟨[.io, .c (.im (.lst ds)), .c (.ow (ds.map .im)), .c (.ow []), .no, .no], some p⟩) (i_rg1 (n := ds.length) ?_ (by omega)) e) ?_)
    · rw [r_par, x_cons_v]
      show ((evB (callF tab (k + 1)) (.comp [("row", 4)] e27_1 (.nm 4) (.ex (.var 1)) .nil)).v ⟨[.io, .c (.im (.lst ds)), .no, .no, .no, .no], some p⟩ |>.bind _ |>.bind _) = _
      rw [hcomp]
      simp
    · simp
    · simp; rfl
end K04
namespace K04
open L2 Mi
theorem some_of (k : Nat) (ds0 : D) (ds : List D) (hz : ds.length ≤ 5000) (p : List D) (hp : PoolOk p) :
    ∃ (acc : List Cell) (S' : Sta), compL [2] (.nm 2) (evsB (callF tab (k + 1)) c28_1).t (evB (callF tab (k + 1)) e28_1).v ds ⟨[.io, .c (.im ds0), .no], some p⟩ [] = some (acc, S') ∧
      ∃ (x : Sl) (sub p' : List D), S' = ⟨[.io, .c (.im ds0), x], some p'⟩ ∧ acc = sub.map .im ∧ (∀ d ∈ sub, d ∈ ds) ∧ sub.length ≤ 0 + ds.length ∧ PoolOk p' := by
  refine comp_nx (fun j S acc => ∃ (x : Sl) (sub p' : List D), S = ⟨[.io, .c (.im ds0), x], some p'⟩ ∧ acc = sub.map .im ∧ (∀ d ∈ sub, d ∈ ds) ∧ sub.length ≤ j ∧ PoolOk p') 0 ds _ [] 0 ⟨_, [], p, rfl, rfl, fun _ h => (nomatch h), by simp, hp⟩ (by simp; omega) (fun j d S acc hd ⟨x, sub, p', h1, h2, h3, h4, h5⟩ => ?_)
  subst h1 h2
  obtain ⟨v, p2, e, q1, q2, q3, q4⟩ := pick k 3 (by omega) p' h5
  refine ⟨_, rfl, decide (v = 0), ⟨[.io, .c (.im ds0), .c (.im d)], some p2⟩, ?_, ?_⟩
  · simp [c28_1, wipeS, e]
    by_cases hv : v = 0 <;> simp [hv]
  · by_cases hv : v = 0
    · rw [if_pos (by simpa using hv)]
      exact ⟨.im d, _, by simp [e28_1]; rfl, _, sub ++ [d], _, rfl, by simp, fun z hz => by
        rcases List.mem_append.mp hz with w | w
        · exact h3 z w
        · have : z = d := by simpa using w
          subst this
          exact List.mem_of_getElem? hd, by simp; omega, q3⟩
    · rw [if_neg (by simpa using hv)]
      exact ⟨_, sub, _, rfl, rfl, h3, by omega, q3⟩
/-- _law_listed -/
theorem listed_ok (k : Nat) (ds : List D) (hz : ds.length ≤ 2000) (p : List D) (hp : PoolOk p) : ∃ (F p' : List D), callF tab (k + 3) 28 [.lst ds] (some p) = some (.ow (F.map .im), some p') ∧ (∀ d, d ∈ F ↔ d ∈ ds) ∧ F.length ≤ 2 * ds.length ∧ PoolOk p' := by
  obtain ⟨acc, S1, c1, x, sub, p1, rfl, rfl, h1, h2, h3⟩ := some_of (k + 1) (.lst ds) ds (by omega) p hp
  obtain ⟨F, p2, e2, h4, h5⟩ := mixed_ok k (ds ++ sub) (by simp; omega) p1 h3
  have hcomp : (evB (callF tab (k + 2)) (.comp [("pair", 2)] e28_1 (.nm 2) (.ex (.var 1)) c28_1)).v ⟨[.io, .c (.im (.lst ds)), .no], some p⟩ = some (.own (.ow (sub.map .im)), ⟨[.io, .c (.im (.lst ds)), .no], some p1⟩) := by
    rw [x_comp, x_mkV_v]
    simp [Sl.isIm, c1, backS]
  have hc := o_cat (a := .im (.lst ds)) (b := .ow (sub.map .im)) (xs := ds) (ys := sub) rfl (ims_map sub) (by omega)
  have hadd : (evB (callF tab (k + 2)) (.bin .Add (.var 1) (.comp [("pair", 2)] e28_1 (.nm 2) (.ex (.var 1)) c28_1))).v ⟨[.io, .c (.im (.lst ds)), .no], some p⟩ = some (.own (.ow ((ds ++ sub).map .im)), ⟨[.io, .c (.im (.lst ds)), .no], some p1⟩) :=
    e_bin (ra := .own (.im (.lst ds))) rfl hcomp rfl hc
  refine ⟨F, p2, call_rt (ρ := [.io, .c (.im (.lst ds)), .no]) rfl rfl rfl rfl ?_, fun d => ?_, ?_, h5⟩
  · unfold f28
    show runs _ _ ⟨[.io, .c (.im (.lst ds)), .no], some p⟩ = _
    rw [r_cons, r_ret]
    have := e_callIo (cf := callF tab (k + 2)) (f := 27) (i := 0) (es := .cons (.bin .Add (.var 1) (.comp [("pair", 2)] e28_1 (.nm 2) (.ex (.var 1)) c28_1)) .nil) (S := ⟨[.io, .c (.im (.lst ds)), .no], some p⟩) (S2 := ⟨[.io, .c (.im (.lst ds)), .no], some p1⟩) (rs := [.own (.ow ((ds ++ sub).map .im))]) (cs := [.ow ((ds ++ sub).map .im)]) (u := p1) (w := p2) (c := .ow (F.map .im)) rfl rfl (by rw [x_cons_v, hadd]; rfl) rfl rfl rfl (by rw [x_frzs_cons, x_frz_ow, x_frzs_map, x_frzs_nil]; exact e2)
    rw [this]
    rfl
  · rw [h4.mem_iff, List.mem_append]
    exact ⟨fun h => h.elim id (h1 d), .inl⟩
  · have := h4.length_eq
    rw [List.length_append] at this
    omega
end K04
namespace K04
open L2 Mi
/-- pairs of places, along a rank -/
structure Good (n : Nat) (ps : List (Nat × Nat)) : Prop where
  lt : ∀ q ∈ ps, q.1 < n ∧ q.2 < n
  rk : ∃ r : Nat → Nat, ∀ q ∈ ps, r q.1 < r q.2
def nmD (i : Nat) : D := .int (i : Int)
theorem rng_nmD (n : Nat) : rngD 0 (n : Int) = (List.range n).map nmD := by
  unfold rngD
  simp
  intro a _
  rfl
theorem idx_nodup {Ns : List Nat} (nd : Ns.Nodup) {i : Nat} {x : Nat} (h : Ns[i]? = some x) : Ns.idxOf x = i := by
  have hx : x ∈ Ns := List.mem_of_getElem? h
  have hl := List.idxOf_lt_length_of_mem hx
  have e : Ns[Ns.idxOf x]? = some x := by
    rw [List.getElem?_eq_getElem hl, List.getElem_idxOf]
  exact (List.getElem?_inj hl nd).mp (e.trans h.symm)
def ren (Ns : List Nat) (q : Nat × Nat) : Nat × Nat := (Ns.getD q.1 0, Ns.getD q.2 0)
theorem good_ren {n : Nat} {Ns : List Nat} {ps : List (Nat × Nat)} (hp : Ns.Perm (List.range n)) (g : Good n ps) : Good n (ps.map (ren Ns)) := by
  have hl : Ns.length = n := by rw [hp.length_eq, List.length_range]
  have nd : Ns.Nodup := hp.nodup_iff.mpr List.nodup_range
  have get : ∀ i, i < n → Ns[i]? = some (Ns.getD i 0) := fun i hi => by
    rw [List.getD_eq_getElem?_getD, List.getElem?_eq_getElem (by omega)]; rfl
  have lt : ∀ i, i < n → Ns.getD i 0 < n := fun i hi => by
    have := hp.mem_iff.mp (List.mem_of_getElem? (get i hi))
    simpa using this
  obtain ⟨r, hr⟩ := g.rk
  refine ⟨fun q hq => ?_, fun y => r (Ns.idxOf y), fun q hq => ?_⟩
  · obtain ⟨q0, h0, rfl⟩ := List.mem_map.mp hq
    exact ⟨lt _ (g.lt q0 h0).1, lt _ (g.lt q0 h0).2⟩
  · obtain ⟨q0, h0, rfl⟩ := List.mem_map.mp hq
    show r (Ns.idxOf (Ns.getD q0.1 0)) < r (Ns.idxOf (Ns.getD q0.2 0))
    rw [idx_nodup nd (get _ (g.lt q0 h0).1), idx_nodup nd (get _ (g.lt q0 h0).2)]
    exact hr q0 h0
/-- _law_renamed -/
theorem renamed_ok (k n : Nat) (hn : n ≤ 5000) (ps : List (Nat × Nat)) (hz : ps.length ≤ 5000) (g : Good n ps) (p : List D) (hp : PoolOk p) :
    ∃ (qs : List (Nat × Nat)) (p' : List D), callF tab (k + 3) 21 [.int (n : Int), .lst (ps.map prD)] (some p) = some (.ow ((qs.map prD).map .im), some p') ∧ Good n qs ∧ qs.length = ps.length ∧ PoolOk p' := by
  obtain ⟨F, p', e, h1, h2⟩ := turn_ok k n hn p hp
  rw [rng_nmD] at h1
  obtain ⟨Ns, rfl, hN⟩ := perm_inv nmD h1.symm _ rfl
  have hl : Ns.length = n := by rw [hN.length_eq, List.length_range]
  have get : ∀ i, i < n → Ns[i]? = some (Ns.getD i 0) := fun i hi => by
    rw [List.getD_eq_getElem?_getD, List.getElem?_eq_getElem (by omega)]; rfl
  obtain ⟨acc, S1, c1, x4, x5, rfl, rfl⟩ := comp_nx (vs := [4, 5]) (t := .tp (.cons (.nm 4) (.cons (.nm 5) .nil))) (cond := (evsB (callF tab (k + 2)) .nil).t) (el := (evB (callF tab (k + 2)) e21_1).v)
    (fun j S acc => ∃ (x4 x5 : Sl), S = ⟨[.io, .c (.im (.int (n : Int))), .c (.im (.lst (ps.map prD))), .c (.im (.lst (Ns.map nmD))), x4, x5], some p'⟩ ∧ acc = (((ps.take j).map (ren Ns)).map prD).map .im) 0 (ps.map prD)
    ⟨[.io, .c (.im (.int (n : Int))), .c (.im (.lst (ps.map prD))), .c (.im (.lst (Ns.map nmD))), .no, .no], some p'⟩ [] 0 ⟨_, _, rfl, rfl⟩ (by simp; omega) (fun j d S acc hd ⟨x4, x5, h1, h2⟩ => by
      subst h1 h2
      rw [List.getElem?_map] at hd
      simp only [Option.map_eq_some_iff] at hd
      obtain ⟨q, hq, rfl⟩ := hd
      have hm := g.lt q (List.mem_of_getElem? hq)
      have a1 : atI (Ns.map nmD) (q.1 : Int) = some (.int ((Ns.getD q.1 0 : Nat) : Int)) := by rw [Mi.atI_nat, List.getElem?_map, get _ hm.1]; rfl
      have a2 : atI (Ns.map nmD) (q.2 : Int) = some (.int ((Ns.getD q.2 0 : Nat) : Int)) := by rw [Mi.atI_nat, List.getElem?_map, get _ hm.2]; rfl
      refine ⟨_, rfl, true, _, rfl, ?_⟩
      rw [if_pos rfl]
      refine ⟨.im (prD (ren Ns q)), _, ?_, .c (.im (.int (q.1 : Int))), .c (.im (.int (q.2 : Int))), rfl, ?_⟩
      · simp [wipeS, e21_1, a1, a2, prD, ren]
      · rw [Nat.zero_add, List.take_add_one, hq]
        simp)
  refine ⟨ps.map (ren Ns), p', call_rt (ρ := ?ρ) rfl rfl rfl rfl ?e, good_ren hN g, by simp, h2⟩
  case e =>
    unfold f21
    have s1 := e_callIo (cf := callF tab (k + 2)) (f := 18) (i := 0) (es := .cons (.var 1) .nil) (S := ⟨[.io, .c (.im (.int (n : Int))), .c (.im (.lst (ps.map prD))), .no, .no, .no], some p⟩) (S2 := ⟨[.io, .c (.im (.int (n : Int))), .c (.im (.lst (ps.map prD))), .no, .no, .no], some p⟩) (rs := [.own (.im (.int (n : Int)))]) (cs := [.im (.int (n : Int))]) (u := p) rfl rfl rfl rfl rfl rfl e
    have hl2 : List.take ps.length ps = ps := List.take_length
    refine r_seq (S1 := ⟨[.io, .c (.im (.int (n : Int))), .c (.im (.lst (ps.map prD))), .c (.ow ((Ns.map nmD).map .im)), .no, .no], some p'⟩) ?_ ?_
    · rw [r_asg]
      show (((evB (callF tab (k + 2)) (.callIo 18 0 (.cons (.var 1) .nil))).v ⟨[.io, .c (.im (.int (n : Int))), .c (.im (.lst (ps.map prD))), .no, .no, .no], some p⟩).bind _) = _
      rw [s1]; rfl
    · simp [Sl.isIm, c1, backS]
      rfl
end K04
namespace K04
open L2 Mi
def knots : List (Nat × List (Nat × Nat)) := [(4, [(0, 2), (1, 2), (1, 3)]), (5, [(0, 2), (1, 2), (1, 3), (4, 3)]), (6, [(0, 3), (0, 4), (1, 3), (1, 5), (2, 4), (2, 5)]), (6, [(0, 2), (1, 2), (1, 3), (4, 3), (4, 5)]), (5, [(0, 1), (1, 2), (3, 2), (0, 4)])]
/-- a size and its pairs -/
def npD (n : Nat) (ps : List (Nat × Nat)) : D := .tup [.int (n : Int), .lst (ps.map prD)]
/-- a pick into a slot -/
theorem asg_pick (k i : Nat) (m : Int) (hm : 0 < m) (ρ : List Sl) (hρ : ρ[0]? = some .io) (e : ME) (he : ∀ S, (evB (callF tab (k + 1)) e).v S = some (.own (.im (.int m)), S)) (p : List D) (hp : PoolOk p) :
    ∃ (v : Nat) (p' : List D), (v : Int) < m ∧ PoolOk p' ∧ (evB (callF tab (k + 1)) (.callIo 17 0 (.cons e .nil))).v ⟨ρ, some p⟩ = some (.own (.im (.int (v : Int))), ⟨ρ, some p'⟩) := by
  obtain ⟨v, p', e1, h1, h2, h3, h4⟩ := pick k m hm p hp
  obtain ⟨v, rfl⟩ : ∃ n : Nat, v = (n : Int) := ⟨v.toNat, by omega⟩
  exact ⟨v, p', h2, h3, e_callIo (S2 := ⟨ρ, some p⟩) (rs := [.own (.im (.int m))]) hρ rfl (by rw [x_cons_v, he]; rfl) rfl hρ rfl e1⟩
theorem knot_ok (k : Nat) (p : List D) (hp : PoolOk p) : ∃ (q : Nat × List (Nat × Nat)) (p' : List D), callF tab (k + 2) 22 [] (some p) = some (.im (npD q.1 q.2), some p') ∧ q ∈ knots ∧ PoolOk p' := by
  obtain ⟨v, p', h1, h2, e⟩ := asg_pick k 1 5 (by omega) [.io, .no] rfl (.int 5) (fun S => rfl) p hp
  have fin : ∀ (q : Nat × List (Nat × Nat)), q ∈ knots → runs (callF tab (k + 1)) f22.body ⟨[.io, .no], some p⟩ = some (.rt (.im (npD q.1 q.2)) ⟨[.io, .c (.im (.int (v : Int)))], some p'⟩) → ∃ (q : Nat × List (Nat × Nat)) (p' : List D), callF tab (k + 2) 22 [] (some p) = some (.im (npD q.1 q.2), some p') ∧ q ∈ knots ∧ PoolOk p' :=
    fun q hq h => ⟨q, p', call_rt (ρ := [.io, .c (.im (.int (v : Int)))]) rfl rfl rfl rfl h, hq, h2⟩
  have s1 : run (callF tab (k + 1)) (.asg (.nm 1) (.callIo 17 0 (.cons (.int 5) .nil))) ⟨[.io, .no], some p⟩ = some (.nx ⟨[.io, .c (.im (.int (v : Int)))], some p'⟩) := by
    rw [r_asg, e]; rfl
  have hv : v = 0 ∨ v = 1 ∨ v = 2 ∨ v = 3 ∨ v = 4 := by omega
  rcases hv with rfl | rfl | rfl | rfl | rfl
  · exact fin (4, [(0, 2), (1, 2), (1, 3)]) (by simp [knots]) (by unfold f22; refine r_seq s1 ?_; simp [npD, prD])
  · exact fin (5, [(0, 2), (1, 2), (1, 3), (4, 3)]) (by simp [knots]) (by unfold f22; refine r_seq s1 ?_; simp [npD, prD])
  · exact fin (6, [(0, 3), (0, 4), (1, 3), (1, 5), (2, 4), (2, 5)]) (by simp [knots]) (by unfold f22; refine r_seq s1 ?_; simp [npD, prD])
  · exact fin (6, [(0, 2), (1, 2), (1, 3), (4, 3), (4, 5)]) (by simp [knots]) (by unfold f22; refine r_seq s1 ?_; simp [npD, prD])
  · exact fin (5, [(0, 1), (1, 2), (3, 2), (0, 4)]) (by simp [knots]) (by unfold f22; refine r_seq s1 ?_; simp [npD, prD])
/-- one row of drawn pairs -/
theorem drawn_row (k n : Nat) (Ns : List Nat) (hN : Ns.length = n) (m : Int) (hm : 0 < m) (j : Nat) (hj : j < n) (hn : n ≤ 5000) (fs : Cell) (p : List D) (hp : PoolOk p) (x6 : Sl) :
    ∃ (acc : List Cell) (S' : Sta), compL [6] (.nm 6) (evsB (callF tab (k + 1)) c24_1).t (evB (callF tab (k + 1)) e24_1).v (rngD 0 (j : Int))
        ⟨[.io, .c (.im (.int (n : Int))), .c (.im (.lst (Ns.map nmD))), .c (.im (.int m)), .c fs, .c (.im (.int (j : Int))), x6], some p⟩ [] = some (acc, S') ∧
      ∃ (x6 : Sl) (sub : List Nat) (p' : List D), S' = ⟨[.io, .c (.im (.int (n : Int))), .c (.im (.lst (Ns.map nmD))), .c (.im (.int m)), .c fs, .c (.im (.int (j : Int))), x6], some p'⟩ ∧
        acc = ((sub.map fun i => (Ns.getD i 0, Ns.getD j 0)).map prD).map .im ∧ (∀ i ∈ sub, i < j) ∧ sub.length ≤ 0 + (rngD 0 (j : Int)).length ∧ PoolOk p' := by
  have get : ∀ i, i < n → Ns[i]? = some (Ns.getD i 0) := fun i hi => by
    rw [List.getD_eq_getElem?_getD, List.getElem?_eq_getElem (by omega)]; rfl
  refine comp_nx (fun t S acc => ∃ (x6 : Sl) (sub : List Nat) (p' : List D), S = ⟨[.io, .c (.im (.int (n : Int))), .c (.im (.lst (Ns.map nmD))), .c (.im (.int m)), .c fs, .c (.im (.int (j : Int))), x6], some p'⟩ ∧
        acc = ((sub.map fun i => (Ns.getD i 0, Ns.getD j 0)).map prD).map .im ∧ (∀ i ∈ sub, i < j) ∧ sub.length ≤ t ∧ PoolOk p') 0 _ _ [] 0 ⟨_, [], p, rfl, rfl, fun _ h => (nomatch h), by simp, hp⟩ (by rw [rng_lenN]; simp; omega) (fun t d S acc hd ⟨x, sub, p', h1, h2, h3, h4, h5⟩ => ?_)
  subst h1 h2
  obtain ⟨rfl, ht⟩ := rng_get hd
  obtain ⟨v, p2, e, q1, q2, q3, q4⟩ := pick k m hm p' h5
  have a1 : atI (Ns.map nmD) (t : Int) = some (.int ((Ns.getD t 0 : Nat) : Int)) := by rw [Mi.atI_nat, List.getElem?_map, get _ (by omega)]; rfl
  have a2 : atI (Ns.map nmD) (j : Int) = some (.int ((Ns.getD j 0 : Nat) : Int)) := by rw [Mi.atI_nat, List.getElem?_map, get _ hj]; rfl
  refine ⟨_, rfl, decide (v = 0), ⟨[.io, .c (.im (.int (n : Int))), .c (.im (.lst (Ns.map nmD))), .c (.im (.int m)), .c fs, .c (.im (.int (j : Int))), .c (.im (.int (t : Int)))], some p2⟩, ?_, ?_⟩
  · simp [c24_1, wipeS, e]
    by_cases hv : v = 0 <;> simp [hv]
  · by_cases hv : v = 0
    · rw [if_pos (by simpa using hv)]
      refine ⟨.im (prD (Ns.getD t 0, Ns.getD j 0)), _, by simp [e24_1, a1, a2, prD]; rfl, _, sub ++ [t], _, rfl, by simp, fun z hz => ?_, by simp; omega, q3⟩
      rcases List.mem_append.mp hz with w | w
      · exact h3 z w
      · have : z = t := by simpa using w
        omega
    · rw [if_neg (by simpa using hv)]
      exact ⟨_, sub, _, rfl, rfl, h3, by omega, q3⟩
end K04
namespace K04
open L2 Mi
theorem drawn_loop (k n : Nat) (hn : n ≤ 100) (Ns : List Nat) (hN : Ns.length = n) (m : Int) (hm : 0 < m) (p : List D) (hp : PoolOk p) :
    ∃ S', loopL (.nm 5) (runs (callF tab (k + 1)) l24_1) (rngD 0 (n : Int)) ⟨[.io, .c (.im (.int (n : Int))), .c (.im (.lst (Ns.map nmD))), .c (.im (.int m)), .c (.im (.lst [])), .no, .no], some p⟩ = some (.nx S') ∧
      ∃ (x5 x6 : Sl) (qs : List (Nat × Nat)) (p' : List D), S' = ⟨[.io, .c (.im (.int (n : Int))), .c (.im (.lst (Ns.map nmD))), .c (.im (.int m)), .c (.im (.lst (qs.map prD))), x5, x6], some p'⟩ ∧
        (∀ q ∈ qs, ∃ a b, a < b ∧ b < n ∧ q = (Ns.getD a 0, Ns.getD b 0)) ∧ qs.length ≤ (0 + (rngD 0 (n : Int)).length) * n ∧ PoolOk p' := by
  refine loop_nx (fun i S => ∃ (x5 x6 : Sl) (qs : List (Nat × Nat)) (p' : List D), S = ⟨[.io, .c (.im (.int (n : Int))), .c (.im (.lst (Ns.map nmD))), .c (.im (.int m)), .c (.im (.lst (qs.map prD))), x5, x6], some p'⟩ ∧
        (∀ q ∈ qs, ∃ a b, a < b ∧ b < n ∧ q = (Ns.getD a 0, Ns.getD b 0)) ∧ qs.length ≤ i * n ∧ PoolOk p' ∧ (x6 = .no ∨ ∃ d, x6 = .c (.im d))) _ _ 0 ⟨_, _, [], p, rfl, fun _ h => (nomatch h), by simp, hp, .inl rfl⟩ (fun j d S hd hi => ?_) |> fun ⟨S', e, x5, x6, qs, p', h1, h2, h3, h4, _⟩ => ⟨S', e, x5, x6, qs, p', h1, h2, h3, h4⟩
  obtain ⟨x5, x6, qs, p', rfl, h2, h3, h4, h5⟩ := hi
  obtain ⟨rfl, hj⟩ := rng_get hd
  obtain ⟨acc, S1, e1, y6, sub, p2, rfl, rfl, g1, g2, g3⟩ := drawn_row k n Ns hN m hm j hj (by omega) (.im (.lst (qs.map prD))) p' h4 x6
  rw [rng_lenN] at g2
  rw [Nat.zero_add] at h3
  have hjn : j * n ≤ 100 * 100 := Nat.mul_le_mul (by omega) hn
  have hc := o_cat (a := .im (.lst (qs.map prD))) (b := .ow (((sub.map fun i => (Ns.getD i 0, Ns.getD j 0)).map prD).map .im)) (xs := qs.map prD) (ys := (sub.map fun i => (Ns.getD i 0, Ns.getD j 0)).map prD) rfl (ims_map _) (by simp; omega)
  have hx6 : Sl.isIm x6 = true := by rcases h5 with rfl | ⟨d, rfl⟩ <;> rfl
  have hcomp : (evB (callF tab (k + 1)) (.comp [("i", 6)] e24_1 (.nm 6) (.rng1 (.var 5)) c24_1)).v ⟨[.io, .c (.im (.int (n : Int))), .c (.im (.lst (Ns.map nmD))), .c (.im (.int m)), .c (.im (.lst (qs.map prD))), .c (.im (.int (j : Int))), x6], some p'⟩ =
      some (.own (.ow (((sub.map fun i => (Ns.getD i 0, Ns.getD j 0)).map prD).map .im)), ⟨[.io, .c (.im (.int (n : Int))), .c (.im (.lst (Ns.map nmD))), .c (.im (.int m)), .c (.im (.lst (qs.map prD))), .c (.im (.int (j : Int))), x6], some p2⟩) := by
    rw [x_comp, x_mkV_v, i_rg1 (n := j) rfl (by omega)]
    simp only [Option.bind_some, Bool.false_and, Bool.false_or]
    rw [if_neg (by simp [hx6])]
    simp only [List.map_cons, List.map_nil]
    rw [e1]
    simp [backS]
  have hadd := e_bin (cf := callF tab (k + 1)) (op := .Add) (a := .var 4) (ra := .own (.im (.lst (qs.map prD)))) (S := ⟨[.io, .c (.im (.int (n : Int))), .c (.im (.lst (Ns.map nmD))), .c (.im (.int m)), .c (.im (.lst (qs.map prD))), .c (.im (.int (j : Int))), x6], some p'⟩) rfl hcomp rfl hc
  refine ⟨_, rfl, ⟨[.io, .c (.im (.int (n : Int))), .c (.im (.lst (Ns.map nmD))), .c (.im (.int m)), .c (.im (.lst ((qs ++ sub.map fun i => (Ns.getD i 0, Ns.getD j 0)).map prD))), .c (.im (.int (j : Int))), x6], some p2⟩, .inl ?_, _, _, _, _, rfl, fun q hq => ?_, ?_, g3, h5⟩
  · unfold l24_1
    refine r_seq (S1 := ⟨[.io, .c (.im (.int (n : Int))), .c (.im (.lst (Ns.map nmD))), .c (.im (.int m)), .c (.ow ((qs.map prD ++ (sub.map fun i => (Ns.getD i 0, Ns.getD j 0)).map prD).map .im)), .c (.im (.int (j : Int))), x6], some p2⟩) ?_ ?_
    · rw [r_asg]
      show (((evB (callF tab (k + 1)) (.bin .Add (.var 4) (.comp [("i", 6)] e24_1 (.nm 6) (.rng1 (.var 5)) c24_1))).v ⟨[.io, .c (.im (.int (n : Int))), .c (.im (.lst (Ns.map nmD))), .c (.im (.int m)), .c (.im (.lst (qs.map prD))), .c (.im (.int (j : Int))), x6], some p'⟩).bind _) = _
      rw [hadd]; rfl
    · rw [r_frz, r_nil, ← List.map_append]
      show some (Out.nx ⟨[.io, _, _, _, .c (.im (.lst (Cell.frzs (((qs ++ sub.map fun i => (Ns.getD i 0, Ns.getD j 0)).map prD).map .im)))), _, _], _⟩) = _
      rw [x_frzs_map]
  · rcases List.mem_append.mp hq with z | z
    · exact h2 q z
    · obtain ⟨i, hi, rfl⟩ := List.mem_map.mp z
      exact ⟨i, j, g1 i hi, hj, rfl⟩
  · rw [List.length_append, List.length_map, Nat.zero_add, Nat.add_mul, Nat.one_mul]
    omega
/-- _law_drawn -/
theorem drawn_ok (k n : Nat) (hn : n ≤ 100) (p : List D) (hp : PoolOk p) : ∃ (qs : List (Nat × Nat)) (p' : List D), callF tab (k + 3) 24 [.int (n : Int)] (some p) = some (.im (.lst (qs.map prD)), some p') ∧ Good n qs ∧ qs.length ≤ n * n ∧ PoolOk p' := by
  obtain ⟨F, p1, e1, h1, h2⟩ := turn_ok k n (by omega) p hp
  rw [rng_nmD] at h1
  obtain ⟨Ns, rfl, hN⟩ := perm_inv nmD h1.symm _ rfl
  have hl : Ns.length = n := by rw [hN.length_eq, List.length_range]
  have nd : Ns.Nodup := hN.nodup_iff.mpr List.nodup_range
  have get : ∀ i, i < n → Ns[i]? = some (Ns.getD i 0) := fun i hi => by
    rw [List.getD_eq_getElem?_getD, List.getElem?_eq_getElem (by omega)]; rfl
  have lt : ∀ i, i < n → Ns.getD i 0 < n := fun i hi => by
    have := hN.mem_iff.mp (List.mem_of_getElem? (get i hi))
    simpa using this
  obtain ⟨v, p2, h3, h4, e2⟩ := asg_pick (k + 1) 1 6 (by omega) [.io, .c (.im (.int (n : Int))), .no, .no, .no, .no, .no] rfl (.int 6) (fun S => rfl) p1 h2
  obtain ⟨S', e3, x5, x6, qs, p3, rfl, h5, h6, h7⟩ := drawn_loop (k + 1) n hn Ns hl (1 + (v : Int)) (by omega) p2 h4
  rw [rng_lenN, Nat.zero_add] at h6
  refine ⟨qs, p3, call_rt (ρ := [.io, .c (.im (.int (n : Int))), .c (.im (.lst (Ns.map nmD))), .c (.im (.int (1 + (v : Int)))), .c (.im (.lst (qs.map prD))), x5, x6]) rfl rfl rfl rfl ?e, ⟨fun q hq => ?_, fun y => Ns.idxOf y, fun q hq => ?_⟩, h6, h7⟩
  case e =>
    have s1 := e_callIo (cf := callF tab (k + 2)) (f := 18) (i := 0) (es := .cons (.var 1) .nil) (S := ⟨[.io, .c (.im (.int (n : Int))), .no, .no, .no, .no, .no], some p⟩) (S2 := ⟨[.io, .c (.im (.int (n : Int))), .no, .no, .no, .no, .no], some p⟩) (rs := [.own (.im (.int (n : Int)))]) (cs := [.im (.int (n : Int))]) (u := p) rfl rfl rfl rfl rfl rfl e1
    have s2 := e_bin (cf := callF tab (k + 2)) (op := .Add) (a := .int 1) (ra := .own (.im (.int 1))) (c := .im (.int (1 + (v : Int)))) rfl e2 rfl rfl
    unfold f24
    refine r_seq (S1 := ⟨[.io, .c (.im (.int (n : Int))), .c (.ow ((Ns.map nmD).map .im)), .c (.im (.int (1 + (v : Int)))), .no, .no, .no], some p2⟩) ?_ ?_
    · rw [r_parT, x_cons_v]
      show (((evB (callF tab (k + 2)) (.callIo 18 0 (.cons (.var 1) .nil))).v ⟨[.io, .c (.im (.int (n : Int))), .no, .no, .no, .no, .no], some p⟩ |>.bind _) |>.bind _) = _
      rw [s1, Option.bind_some, x_cons_v]
      show ((((evB (callF tab (k + 2)) (.bin .Add (.int 1) (.callIo 17 0 (.cons (.int 6) .nil)))).v ⟨[.io, .c (.im (.int (n : Int))), .no, .no, .no, .no, .no], some p1⟩ |>.bind _) |>.bind _) |>.bind _) = _
      rw [s2]
      rfl
    · rw [r_frz]
      show runs _ _ ⟨[.io, .c (.im (.int (n : Int))), .c (.im (.lst (Cell.frzs ((Ns.map nmD).map .im)))), .c (.im (.int (1 + (v : Int)))), .no, .no, .no], some p2⟩ = _
      rw [x_frzs_map]
      refine r_seq (S1 := ⟨[.io, .c (.im (.int (n : Int))), .c (.im (.lst (Ns.map nmD))), .c (.im (.int (1 + (v : Int)))), .c (.ow []), .no, .no], some p2⟩) rfl ?_
      rw [r_frz]
      exact r_seq (r_for (i_rg1 (n := n) rfl (by omega)) e3) rfl
  · obtain ⟨a, b, h8, h9, rfl⟩ := h5 q hq
    exact ⟨lt _ (by omega), lt _ h9⟩
  · obtain ⟨a, b, h8, h9, rfl⟩ := h5 q hq
    show Ns.idxOf (Ns.getD a 0) < Ns.idxOf (Ns.getD b 0)
    rw [idx_nodup nd (get _ (by omega)), idx_nodup nd (get _ h9)]
    exact h8
end K04
namespace K04
open L2 Mi
/-! tables of truth values -/
def rowC (enc : Bool → D) (r : List Bool) : Cell := .ow (r.map fun b => .im (enc b))
def matC (enc : Bool → D) (M : List (List Bool)) : Cell := .ow (M.map (rowC enc))
structure Sq (n : Nat) (M : List (List Bool)) : Prop where
  len : M.length = n
  row : ∀ r ∈ M, r.length = n
def setM (M : List (List Bool)) (q : Nat × Nat) : List (List Bool) := M.set q.1 ((M.getD q.1 []).set q.2 true)
def orRow (M : List (List Bool)) (a c : Nat) : List (List Bool) := M.set a (List.zipWith (· || ·) (M.getD a []) (M.getD c []))
def bitM (M : List (List Bool)) (a b : Nat) : Bool := (M.getD a []).getD b false
def turnM (c : Nat) (M : List (List Bool)) (a : Nat) : List (List Bool) := if bitM M a c then orRow M a c else M
def passM (n : Nat) (M : List (List Bool)) (c : Nat) : List (List Bool) := (List.range n).foldl (turnM c) M
def warsh (n : Nat) (M : List (List Bool)) : List (List Bool) := (List.range n).foldl (passM n) M
def startM (n : Nat) : List (List Bool) := List.replicate n (List.replicate n false)
def tabM (n : Nat) (ps : List (Nat × Nat)) : List (List Bool) := warsh n (ps.foldl setM (startM n))
section
variable {n : Nat} {M : List (List Bool)}
theorem Sq.get (h : Sq n M) {a : Nat} (ha : a < n) : M[a]? = some (M.getD a []) ∧ (M.getD a []).length = n := by
  have e : M[a]? = some (M.getD a []) := by rw [List.getD_eq_getElem?_getD, List.getElem?_eq_getElem (by rw [h.len]; exact ha)]; rfl
  exact ⟨e, h.row _ (List.mem_of_getElem? e)⟩
theorem Sq.get' (h : Sq n M) {a : Nat} (ha : a < n) : ∃ r : List Bool, M[a]? = some r ∧ r.length = n ∧ M.getD a [] = r := ⟨_, (h.get ha).1, (h.get ha).2, rfl⟩
theorem Sq.set (h : Sq n M) {a : Nat} {r : List Bool} (hr : r.length = n) : Sq n (M.set a r) :=
  ⟨by rw [List.length_set, h.len], fun x hx => by
    rcases List.mem_or_eq_of_mem_set hx with z | z
    · exact h.row x z
    · rw [z]; exact hr⟩
theorem Sq.setM (h : Sq n M) {q : Nat × Nat} (hq : q.1 < n) : Sq n (setM M q) := h.set (by rw [List.length_set]; exact (h.get hq).2)
theorem Sq.orRow (h : Sq n M) {a c : Nat} (ha : a < n) (hc : c < n) : Sq n (orRow M a c) := h.set (by rw [List.length_zipWith, (h.get ha).2, (h.get hc).2]; exact Nat.min_self n)
theorem Sq.start : Sq n (startM n) := ⟨List.length_replicate, fun r hr => by rw [(List.mem_replicate.mp hr).2, List.length_replicate]⟩
theorem Sq.turnM (h : Sq n M) {a c : Nat} (ha : a < n) (hc : c < n) : Sq n (turnM c M a) := by
  unfold K04.turnM
  split
  · exact h.orRow ha hc
  · exact h
end
section
variable {cf : CF} {enc : Bool → D} {n : Nat} {ps : List (Nat × Nat)}
def tS (enc : Bool → D) (n : Nat) (ps : List (Nat × Nat)) (M : List (List Bool)) (x3 x4 x5 x6 x7 : Sl) : Sta := ⟨[.c (.im (.int (n : Int))), .c (.im (.lst (ps.map prD))), .c (matC enc M), x3, x4, x5, x6, x7], none⟩
theorem loop_pairs (val : ME) (hv : ∀ S, (evB cf val).v S = some (.own (.im (enc true)), S)) (hp : ∀ q ∈ ps, q.1 < n ∧ q.2 < n) (x3 x4 x5 x6 x7 : Sl) :
    ∃ S', loopL (.tp (.cons (.nm 3) (.cons (.nm 4) .nil))) (runs cf (.cons (.set2 2 (.var 3) (.var 4) val) .nil)) (ps.map prD) (tS enc n ps (startM n) x3 x4 x5 x6 x7) = some (.nx S') ∧
      ∃ x3 x4, S' = tS enc n ps (ps.foldl setM (startM n)) x3 x4 x5 x6 x7 ∧ Sq n (ps.foldl setM (startM n)) := by
  obtain ⟨S', e, x3', x4', h1, h2⟩ := loop_nx (t := .tp (.cons (.nm 3) (.cons (.nm 4) .nil))) (b := runs cf (.cons (.set2 2 (.var 3) (.var 4) val) .nil)) (fun i S => ∃ x3 x4, S = tS enc n ps ((ps.take i).foldl setM (startM n)) x3 x4 x5 x6 x7 ∧ Sq n ((ps.take i).foldl setM (startM n))) (ps.map prD) (tS enc n ps (startM n) x3 x4 x5 x6 x7) 0 ⟨x3, x4, rfl, Sq.start⟩ (fun j d S hd hi => by
    obtain ⟨x3, x4, rfl, hs⟩ := hi
    rw [List.getElem?_map] at hd
    simp only [Option.map_eq_some_iff] at hd
    obtain ⟨q, hq, rfl⟩ := hd
    have hm := hp q (List.mem_of_getElem? hq)
    rw [Nat.zero_add] at hs ⊢
    have e1 : (ps.take (j + 1)).foldl setM (startM n) = setM ((ps.take j).foldl setM (startM n)) q := by
      rw [List.take_add_one, hq]; simp
    have hs' : Sq n (setM ((ps.take j).foldl setM (startM n)) q) := hs.setM hm.1
    rw [e1]
    generalize (ps.take j).foldl setM (startM n) = M at hs hs' ⊢
    obtain ⟨r, g1, g2, g3⟩ := hs.get' hm.1
    have e2 : setM M q = M.set q.1 (r.set q.2 true) := by unfold setM; rw [g3]
    have i1 : ixN M.length (q.1 : Int) = some q.1 := ixN_nat (by rw [hs.len]; exact hm.1)
    have i2 : ixN r.length (q.2 : Int) = some q.2 := ixN_nat (by rw [g2]; exact hm.2)
    refine ⟨_, rfl, tS enc n ps (setM M q) (.c (.im (.int (q.1 : Int)))) (.c (.im (.int (q.2 : Int)))) x5 x6 x7, .inl ?_, _, _, rfl, hs'⟩
    rw [e2]
    simp [tS, hv, matC, i1, g1, rowC, i2, List.map_set])
  refine ⟨S', e, x3', x4', ?_⟩
  rw [Nat.zero_add, List.length_map, List.take_length] at h1 h2
  exact ⟨h1, h2⟩
end
end K04
namespace K04
open L2 Mi
section
variable {cf : CF} {enc : Bool → D} {n : Nat} {ps : List (Nat × Nat)}
/-- what a table's code needs -/
structure TC (cf : CF) (enc : Bool → D) (n : Nat) (cond e2 : ME) : Prop where
  pu : e2.pure = true
  el : ∀ (S : Sta) (x y : Bool), S.ρ[6]? = some (.c (.im (enc x))) → S.ρ[7]? = some (.c (.im (enc y))) → (evB cf e2).v S = some (.own (.im (enc (x || y))), S)
  cd : ∀ (S : Sta) (M : List (List Bool)) (a c : Nat), S.ρ[2]? = some (.c (matC enc M)) → S.ρ[3]? = some (.c (.im (.int (a : Int)))) → S.ρ[5]? = some (.c (.im (.int (c : Int)))) → Sq n M → a < n → c < n → (evB cf cond).t S = some (bitM M a c, S)
theorem row_or {cond e2 : ME} (tc : TC cf enc n cond e2) (s6 s7 : PySem.Str) {M : List (List Bool)} (hs : Sq n M) {a c : Nat} (ha : a < n) (hc : c < n) (hn : n ≤ 1000) (x4 x6 x7 : Sl) (h6 : x6.isIm = true) (h7 : x7.isIm = true) :
    (evB cf (.comp [(s6, 6), (s7, 7)] e2 (.tp (.cons (.nm 6) (.cons (.nm 7) .nil))) (.zip (.idx (.var 2) (.var 3)) (.idx (.var 2) (.var 5))) .nil)).v (tS enc n ps M (.c (.im (.int (a : Int)))) x4 (.c (.im (.int (c : Int)))) x6 x7) =
      some (.own (rowC enc (List.zipWith (· || ·) (M.getD a []) (M.getD c []))), tS enc n ps M (.c (.im (.int (a : Int)))) x4 (.c (.im (.int (c : Int)))) x6 x7) := by
  obtain ⟨ra, g1, g2, g3⟩ := hs.get' ha
  obtain ⟨rc, k1, k2, k3⟩ := hs.get' hc
  rw [g3, k3]
  have i1 : atI (M.map (rowC enc)) (a : Int) = some (rowC enc ra) := by rw [Mi.atI_nat, List.getElem?_map, g1]; rfl
  have i2 : atI (M.map (rowC enc)) (c : Int) = some (rowC enc rc) := by rw [Mi.atI_nat, List.getElem?_map, k1]; rfl
  have src : evIB cf (.zip (.idx (.var 2) (.var 3)) (.idx (.var 2) (.var 5))) (tS enc n ps M (.c (.im (.int (a : Int)))) x4 (.c (.im (.int (c : Int)))) x6 x7) =
      some (true, zipD (ra.map enc) (rc.map enc), tS enc n ps M (.c (.im (.int (a : Int)))) x4 (.c (.im (.int (c : Int)))) x6 x7) := by
    simp [tS, matC, i1, i2, rowC]
  have hlz : (zipD (ra.map enc) (rc.map enc)).length = n := by rw [zipD_len]; simp [g2, k2]
  obtain ⟨acc, S1, c1, y6, y7, rfl, rfl⟩ := comp_nx (vs := [6, 7]) (t := .tp (.cons (.nm 6) (.cons (.nm 7) .nil))) (cond := (evsB cf .nil).t) (el := (evB cf e2).v)
    (fun j S acc => ∃ (y6 y7 : Sl), S = tS enc n ps M (.c (.im (.int (a : Int)))) x4 (.c (.im (.int (c : Int)))) y6 y7 ∧ acc = ((List.zipWith (· || ·) ra rc).take j).map fun b => Cell.im (enc b)) 0 (zipD (ra.map enc) (rc.map enc))
    (tS enc n ps M (.c (.im (.int (a : Int)))) x4 (.c (.im (.int (c : Int)))) x6 x7) [] 0 ⟨x6, x7, rfl, rfl⟩ (by rw [hlz]; simp; omega) (fun j d S acc hd ⟨y6, y7, h1, h2⟩ => by
      subst h1 h2
      rw [zipD_get, List.getElem?_map, List.getElem?_map] at hd
      obtain ⟨x, hx⟩ : ∃ x, ra[j]? = some x := by
        cases h : ra[j]? with
        | some x => exact ⟨x, rfl⟩
        | none => rw [h] at hd; cases hd
      obtain ⟨y, hy⟩ : ∃ y, rc[j]? = some y := by
        cases h : rc[j]? with
        | some x => exact ⟨x, rfl⟩
        | none => rw [hx, h] at hd; cases hd
      rw [hx, hy] at hd
      cases hd
      refine ⟨[.c (.im (.int (n : Int))), .c (.im (.lst (ps.map prD))), .c (matC enc M), .c (.im (.int (a : Int))), x4, .c (.im (.int (c : Int))), .c (.im (enc x)), .c (.im (enc y))], rfl, true, _, rfl, ?_⟩
      rw [if_pos rfl]
      refine ⟨_, _, tc.el _ x y rfl rfl, .c (.im (enc x)), .c (.im (enc y)), rfl, ?_⟩
      rw [Nat.zero_add, List.take_add_one, List.getElem?_zipWith, hx, hy]
      simp)
  rw [x_comp, x_mkV_v, src, Option.bind_some]
  have hz2 : (List.zipWith (· || ·) ra rc).length = n := by rw [List.length_zipWith, g2, k2]; exact Nat.min_self n
  rw [hlz, Nat.zero_add, List.take_of_length_le (by rw [hz2]; exact Nat.le_refl _)] at c1
  rw [if_neg (by simp [tc.pu, tS, h6, h7])]
  simp only [List.map_cons, List.map_nil]
  rw [c1]
  simp [tS, backS, rowC]
theorem loop_pass {cond e2 : ME} (tc : TC cf enc n cond e2) (s6 s7 : PySem.Str) (hn : n ≤ 1000) {c : Nat} (hc : c < n) (M0 : List (List Bool)) (h0 : Sq n M0) (x3 x4 x6 x7 : Sl) (h6 : x6.isIm = true) (h7 : x7.isIm = true) :
    ∃ S', loopL (.nm 3) (runs cf (.cons (.ife cond (.cons (.set1 2 (.var 3) (.comp [(s6, 6), (s7, 7)] e2 (.tp (.cons (.nm 6) (.cons (.nm 7) .nil))) (.zip (.idx (.var 2) (.var 3)) (.idx (.var 2) (.var 5))) .nil)) .nil) .nil) .nil)) (rngD 0 (n : Int)) (tS enc n ps M0 x3 x4 (.c (.im (.int (c : Int)))) x6 x7) = some (.nx S') ∧
      ∃ x3, S' = tS enc n ps (passM n M0 c) x3 x4 (.c (.im (.int (c : Int)))) x6 x7 ∧ Sq n (passM n M0 c) := by
  obtain ⟨S', e, x3', h1, h2⟩ := loop_nx (t := .nm 3) (b := runs cf (.cons (.ife cond (.cons (.set1 2 (.var 3) (.comp [(s6, 6), (s7, 7)] e2 (.tp (.cons (.nm 6) (.cons (.nm 7) .nil))) (.zip (.idx (.var 2) (.var 3)) (.idx (.var 2) (.var 5))) .nil)) .nil) .nil) .nil))
    (fun i S => ∃ x3, S = tS enc n ps (((List.range n).take i).foldl (turnM c) M0) x3 x4 (.c (.im (.int (c : Int)))) x6 x7 ∧ Sq n (((List.range n).take i).foldl (turnM c) M0)) (rngD 0 (n : Int)) (tS enc n ps M0 x3 x4 (.c (.im (.int (c : Int)))) x6 x7) 0 ⟨x3, rfl, h0⟩ (fun j d S hd hi => by
      obtain ⟨x3, rfl, hs⟩ := hi
      obtain ⟨rfl, hj⟩ := rng_get hd
      rw [Nat.zero_add] at hs ⊢
      have e1 : ((List.range n).take (j + 1)).foldl (turnM c) M0 = turnM c (((List.range n).take j).foldl (turnM c) M0) j := by
        rw [List.take_add_one, List.getElem?_range hj]; simp
      rw [e1]
      generalize ((List.range n).take j).foldl (turnM c) M0 = M at hs ⊢
      have hs' := hs.turnM (c := c) hj hc
      have hcd := tc.cd (tS enc n ps M (.c (.im (.int (j : Int)))) x4 (.c (.im (.int (c : Int)))) x6 x7) M j c rfl rfl rfl hs hj hc
      refine ⟨_, rfl, tS enc n ps (turnM c M j) (.c (.im (.int (j : Int)))) x4 (.c (.im (.int (c : Int)))) x6 x7, .inl ?_, _, rfl, hs'⟩
      show runs cf _ (tS enc n ps M (.c (.im (.int (j : Int)))) x4 (.c (.im (.int (c : Int)))) x6 x7) = _
      rw [r_cons, r_ife, hcd, Option.bind_some]
      unfold turnM
      by_cases hb : bitM M j c = true
      · have i1 : ixN M.length (j : Int) = some j := ixN_nat (by rw [hs.len]; exact hj)
        rw [if_pos hb, if_pos hb, r_cons, r_set1, row_or tc s6 s7 hs hj hc hn x4 x6 x7 h6 h7]
        simp [tS, matC, i1, orRow, List.map_set]
      · rw [if_neg hb, if_neg hb]; rfl)
  refine ⟨S', e, x3', ?_⟩
  rw [Nat.zero_add, rng_lenN, List.take_of_length_le (by rw [List.length_range]; exact Nat.le_refl _)] at h1 h2
  exact ⟨h1, h2⟩
end
end K04
namespace K04
open L2 Mi
section
variable {cf : CF} {enc : Bool → D} {n : Nat} {ps : List (Nat × Nat)}
theorem Sq.fold {n : Nat} (f : List (List Bool) → Nat → List (List Bool)) (hf : ∀ M a, Sq n M → a < n → Sq n (f M a)) : ∀ (l : List Nat) (M : List (List Bool)), (∀ a ∈ l, a < n) → Sq n M → Sq n (l.foldl f M)
  | [], M, _, h => h
  | a :: l, M, hl, h => Sq.fold f hf l (f M a) (fun b hb => hl b (List.mem_cons_of_mem _ hb)) (hf M a h (hl a (List.mem_cons_self ..)))
theorem Sq.pass {n c : Nat} {M : List (List Bool)} (h : Sq n M) (hc : c < n) : Sq n (passM n M c) :=
  Sq.fold _ (fun M a h ha => h.turnM ha hc) _ _ (fun a ha => List.mem_range.mp ha) h
theorem loop_all {cond e2 : ME} (tc : TC cf enc n cond e2) (s6 s7 : PySem.Str) (hn : n ≤ 1000) (M0 : List (List Bool)) (h0 : Sq n M0) (x3 x4 x5 x6 x7 : Sl) (h6 : x6.isIm = true) (h7 : x7.isIm = true) :
    ∃ S', loopL (.nm 5) (runs cf (.cons (.loop (.nm 3) (.rng1 (.var 0)) (.cons (.ife cond (.cons (.set1 2 (.var 3) (.comp [(s6, 6), (s7, 7)] e2 (.tp (.cons (.nm 6) (.cons (.nm 7) .nil))) (.zip (.idx (.var 2) (.var 3)) (.idx (.var 2) (.var 5))) .nil)) .nil) .nil) .nil)) .nil)) (rngD 0 (n : Int)) (tS enc n ps M0 x3 x4 x5 x6 x7) = some (.nx S') ∧
      ∃ x3 x5, S' = tS enc n ps (warsh n M0) x3 x4 x5 x6 x7 ∧ Sq n (warsh n M0) := by
  obtain ⟨S', e, x3', x5', h1, h2⟩ := loop_nx (t := .nm 5) (b := runs cf (.cons (.loop (.nm 3) (.rng1 (.var 0)) (.cons (.ife cond (.cons (.set1 2 (.var 3) (.comp [(s6, 6), (s7, 7)] e2 (.tp (.cons (.nm 6) (.cons (.nm 7) .nil))) (.zip (.idx (.var 2) (.var 3)) (.idx (.var 2) (.var 5))) .nil)) .nil) .nil) .nil)) .nil))
    (fun i S => ∃ x3 x5, S = tS enc n ps (((List.range n).take i).foldl (passM n) M0) x3 x4 x5 x6 x7 ∧ Sq n (((List.range n).take i).foldl (passM n) M0)) (rngD 0 (n : Int)) (tS enc n ps M0 x3 x4 x5 x6 x7) 0 ⟨x3, x5, rfl, h0⟩ (fun j d S hd hi => by
      obtain ⟨x3, x5, rfl, hs⟩ := hi
      obtain ⟨rfl, hj⟩ := rng_get hd
      rw [Nat.zero_add] at hs ⊢
      have e1 : ((List.range n).take (j + 1)).foldl (passM n) M0 = passM n (((List.range n).take j).foldl (passM n) M0) j := by
        rw [List.take_add_one, List.getElem?_range hj]; simp
      rw [e1]
      generalize ((List.range n).take j).foldl (passM n) M0 = M at hs ⊢
      obtain ⟨S2, e2', x3', rfl, hs2⟩ := loop_pass (ps := ps) tc s6 s7 hn hj M hs x3 x4 x6 x7 h6 h7
      refine ⟨_, rfl, _, .inl ?_, x3', .c (.im (.int (j : Int))), rfl, hs2⟩
      exact r_seq (r_for (i_rg1 (n := n) rfl (by omega)) e2') rfl)
  refine ⟨S', e, x3', x5', ?_⟩
  rw [Nat.zero_add, rng_lenN, List.take_of_length_le (by rw [List.length_range]; exact Nat.le_refl _)] at h1 h2
  exact ⟨h1, h2⟩
theorem flat_rep {α : Type} (x : α) : ∀ n : Nat, (List.replicate n [x]).flatten = List.replicate n x
  | 0 => rfl
  | n + 1 => by rw [List.replicate_succ, List.flatten_cons, flat_rep x n]; rfl
theorem start_comp (z : ME) (hz : ∀ S, (evB cf z).v S = some (.own (.im (enc false)), S)) (hpz : z.pure = true) (hn : n ≤ 1000) :
    (evB cf (.comp [("a", 3)] (.bin .Mult (.lst (.cons z .nil)) (.var 0)) (.nm 3) (.rng1 (.var 0)) .nil)).v ⟨[.c (.im (.int (n : Int))), .c (.im (.lst (ps.map prD))), .no, .no, .no, .no, .no, .no], none⟩ =
      some (.own (matC enc (startM n)), ⟨[.c (.im (.int (n : Int))), .c (.im (.lst (ps.map prD))), .no, .no, .no, .no, .no, .no], none⟩) := by
  have hrep := o_rep (a := .ow [.im (enc false)]) (k := (n : Int)) (xs := [enc false]) rfl (by refine ⟨by omega, by omega, ?_⟩; simp; omega)
  have hrow : ∀ x3, (evB cf (.bin .Mult (.lst (.cons z .nil)) (.var 0))).v ⟨[.c (.im (.int (n : Int))), .c (.im (.lst (ps.map prD))), .no, x3, .no, .no, .no, .no], none⟩ = some (.own (rowC enc (List.replicate n false)), ⟨[.c (.im (.int (n : Int))), .c (.im (.lst (ps.map prD))), .no, x3, .no, .no, .no, .no], none⟩) := fun x3 => by
    have := e_bin (cf := cf) (op := .Mult) (a := .lst (.cons z .nil)) (b := .var 0) (S := ⟨[.c (.im (.int (n : Int))), .c (.im (.lst (ps.map prD))), .no, x3, .no, .no, .no, .no], none⟩) (S1 := ⟨[.c (.im (.int (n : Int))), .c (.im (.lst (ps.map prD))), .no, x3, .no, .no, .no, .no], none⟩) (ra := .own (.ow [.im (enc false)])) (rb := .own (.im (.int (n : Int)))) (by simp [hz]) rfl rfl hrep
    rw [this]
    simp [flat_rep, rowC]
  obtain ⟨acc, S1, c1, y3, rfl, rfl⟩ := comp_nx (vs := [3]) (t := .nm 3) (cond := (evsB cf .nil).t) (el := (evB cf (.bin .Mult (.lst (.cons z .nil)) (.var 0))).v)
    (fun j S acc => ∃ (y3 : Sl), S = ⟨[.c (.im (.int (n : Int))), .c (.im (.lst (ps.map prD))), .no, y3, .no, .no, .no, .no], none⟩ ∧ acc = List.replicate j (rowC enc (List.replicate n false))) 0 (rngD 0 (n : Int))
    ⟨[.c (.im (.int (n : Int))), .c (.im (.lst (ps.map prD))), .no, .no, .no, .no, .no, .no], none⟩ [] 0 ⟨.no, rfl, rfl⟩ (by rw [rng_lenN]; simp; omega) (fun j d S acc hd ⟨y3, h1, h2⟩ => by
      subst h1 h2
      obtain ⟨rfl, hj⟩ := rng_get hd
      refine ⟨_, rfl, true, _, rfl, ?_⟩
      rw [if_pos rfl]
      refine ⟨_, _, hrow (.c (.im (.int (j : Int)))), _, rfl, ?_⟩
      rw [List.replicate_succ', Nat.zero_add])
  rw [x_comp, x_mkV_v, i_rg1 (n := n) rfl (by omega), Option.bind_some]
  rw [if_neg (by simp [Sl.isIm])]
  simp only [List.map_cons, List.map_nil]
  rw [c1]
  simp [backS, rng_lenN, matC, startM]
theorem table_runs {cond e2 z val : ME} (tc : TC cf enc n cond e2) (hv : ∀ S, (evB cf val).v S = some (.own (.im (enc true)), S)) (hz : ∀ S, (evB cf z).v S = some (.own (.im (enc false)), S)) (hpz : z.pure = true) (hn : n ≤ 1000) (hp : ∀ q ∈ ps, q.1 < n ∧ q.2 < n) (s6 s7 : PySem.Str) :
    ∃ ρ, runs cf (.cons (.asg (.nm 2) (.comp [("a", 3)] (.bin .Mult (.lst (.cons z .nil)) (.var 0)) (.nm 3) (.rng1 (.var 0)) .nil))
      (.cons (.loop (.tp (.cons (.nm 3) (.cons (.nm 4) .nil))) (.ex (.var 1)) (.cons (.set2 2 (.var 3) (.var 4) val) .nil))
      (.cons (.loop (.nm 5) (.rng1 (.var 0)) (.cons (.loop (.nm 3) (.rng1 (.var 0)) (.cons (.ife cond (.cons (.set1 2 (.var 3) (.comp [(s6, 6), (s7, 7)] e2 (.tp (.cons (.nm 6) (.cons (.nm 7) .nil))) (.zip (.idx (.var 2) (.var 3)) (.idx (.var 2) (.var 5))) .nil)) .nil) .nil) .nil)) .nil))
      (.cons (.ret (.mvar 2)) .nil)))) ⟨[.c (.im (.int (n : Int))), .c (.im (.lst (ps.map prD))), .no, .no, .no, .no, .no, .no], none⟩ = some (.rt (matC enc (tabM n ps)) ⟨ρ, none⟩) ∧ Sq n (tabM n ps) := by
  obtain ⟨S1, e1, x3, x4, rfl, h1⟩ := loop_pairs (cf := cf) (enc := enc) (n := n) (ps := ps) val hv hp .no .no .no .no .no
  obtain ⟨S2, e2', x3', x5', rfl, h2⟩ := loop_all (ps := ps) tc s6 s7 hn _ h1 x3 x4 .no .no .no rfl rfl
  refine ⟨?ρ, ?e, h2⟩
  case e =>
    refine r_seq (S1 := tS enc n ps (startM n) .no .no .no .no .no) ?_ (r_seq (r_for rfl e1) (r_seq (r_for (i_rg1 (n := n) rfl (by omega)) e2') ?_))
    · rw [r_asg, start_comp z hz hpz hn]; rfl
    · simp [tS, tabM]; rfl
end
theorem nz (b : Bool) (j : Bool) : (b && j) = (b && j) := rfl
/-- ahead_rows -/
theorem ahead_ok (k n : Nat) (hn : n ≤ 1000) (ps : List (Nat × Nat)) (hp : ∀ q ∈ ps, q.1 < n ∧ q.2 < n) : callF tab (k + 1) 6 [.int (n : Int), .lst (ps.map prD)] none = some (matC D.bl (tabM n ps), none) ∧ Sq n (tabM n ps) := by
  have tc : TC (callF tab k) D.bl n (.idx (.idx (.var 2) (.var 3)) (.var 5)) e6_2 := by
    refine ⟨rfl, fun S x y h1 h2 => ?_, fun S M a c h1 h2 h3 hs ha hc => ?_⟩
    · cases x <;> simp [e6_2, h1, h2]
    · obtain ⟨ra, g1, g2, g3⟩ := hs.get' ha
      have hb : ra[c]? = some (bitM M a c) := by
        unfold bitM
        rw [g3, List.getD_eq_getElem?_getD, List.getElem?_eq_getElem (by rw [g2]; exact hc)]; rfl
      have i1 : atI (M.map (rowC D.bl)) (a : Int) = some (rowC D.bl ra) := by rw [Mi.atI_nat, List.getElem?_map, g1]; rfl
      have i2 : atI (ra.map fun b => Cell.im (D.bl b)) (c : Int) = some (.im (.bl (bitM M a c))) := by rw [Mi.atI_nat, List.getElem?_map, hb]; rfl
      simp [h1, h2, h3, matC, i1, rowC, i2]
  obtain ⟨ρ, e, h⟩ := table_runs tc (z := .bl false) (val := .bl true) (fun S => rfl) (fun S => rfl) rfl hn hp "one" "other"
  exact ⟨call_rt (ρ := ρ) rfl rfl rfl rfl e, h⟩
def bitD (b : Bool) : D := .int (if b then 1 else 0)
/-- _law_rows -/
theorem rows_ok (k n : Nat) (hn : n ≤ 1000) (ps : List (Nat × Nat)) (hp : ∀ q ∈ ps, q.1 < n ∧ q.2 < n) : callF tab (k + 1) 19 [.int (n : Int), .lst (ps.map prD)] none = some (matC bitD (tabM n ps), none) ∧ Sq n (tabM n ps) := by
  have tc : TC (callF tab k) bitD n (.cmp .Eq (.idx (.idx (.var 2) (.var 3)) (.var 5)) (.int 1)) e19_2 := by
    refine ⟨rfl, fun S x y h1 h2 => ?_, fun S M a c h1 h2 h3 hs ha hc => ?_⟩
    · cases x <;> cases y <;> simp [e19_2, h1, h2, bitD]
    · obtain ⟨ra, g1, g2, g3⟩ := hs.get' ha
      have hb : ra[c]? = some (bitM M a c) := by
        unfold bitM
        rw [g3, List.getD_eq_getElem?_getD, List.getElem?_eq_getElem (by rw [g2]; exact hc)]; rfl
      have i1 : atI (M.map (rowC bitD)) (a : Int) = some (rowC bitD ra) := by rw [Mi.atI_nat, List.getElem?_map, g1]; rfl
      have i2 : atI (ra.map fun b => Cell.im (bitD b)) (c : Int) = some (.im (bitD (bitM M a c))) := by rw [Mi.atI_nat, List.getElem?_map, hb]; rfl
      cases hbit : bitM M a c <;> rw [hbit] at i2 <;> simp [h1, h2, h3, matC, i1, rowC, i2] <;> simp [bitD]
  obtain ⟨ρ, e, h⟩ := table_runs tc (z := .int 0) (val := .int 1) (fun S => rfl) (fun S => rfl) rfl hn hp "x" "y"
  exact ⟨call_rt (ρ := ρ) rfl rfl rfl rfl e, h⟩
end K04
namespace K04
open L2 Mi
/-- steps along pairs -/
inductive Pt (ps : List (Nat × Nat)) : Nat → Nat → Prop
  | one {a b : Nat} : (a, b) ∈ ps → Pt ps a b
  | step {a b c : Nat} : (a, b) ∈ ps → Pt ps b c → Pt ps a c
theorem Pt.trans {ps : List (Nat × Nat)} {a b c : Nat} (h : Pt ps a b) (k : Pt ps b c) : Pt ps a c := by
  induction h with
  | one h => exact .step h k
  | step h _ ih => exact .step h (ih k)
/-- by places less than k alone -/
def Qk (ps : List (Nat × Nat)) : Nat → Nat → Nat → Prop
  | 0, a, b => (a, b) ∈ ps
  | k + 1, a, b => Qk ps k a b ∨ (Qk ps k a k ∧ Qk ps k k b)
theorem Qk.pt {ps : List (Nat × Nat)} : ∀ {k a b : Nat}, Qk ps k a b → Pt ps a b
  | 0, _, _, h => .one h
  | k + 1, _, _, h => h.elim (fun h => Qk.pt h) fun h => (Qk.pt h.1).trans (Qk.pt h.2)
theorem Qk.tr {ps : List (Nat × Nat)} : ∀ {k c a b : Nat}, c < k → Qk ps k a c → Qk ps k c b → Qk ps k a b
  | k + 1, c, a, b, hc, h1, h2 => by
    by_cases e : c = k
    · subst e
      have l1 : Qk ps c a c := h1.elim id fun h => h.1
      have l2 : Qk ps c c b := h2.elim id fun h => h.2
      exact .inr ⟨l1, l2⟩
    · have hc : c < k := by omega
      rcases h1 with h1 | h1 <;> rcases h2 with h2 | h2
      · exact .inl (Qk.tr hc h1 h2)
      · exact .inr ⟨Qk.tr hc h1 h2.1, h2.2⟩
      · exact .inr ⟨h1.1, Qk.tr hc h1.2 h2⟩
      · exact .inr ⟨h1.1, h2.2⟩
theorem Qk.up {ps : List (Nat × Nat)} {a b : Nat} (h : (a, b) ∈ ps) : ∀ k, Qk ps k a b
  | 0 => h
  | k + 1 => .inl (Qk.up h k)
theorem pt_qk {ps : List (Nat × Nat)} {n : Nat} (hp : ∀ q ∈ ps, q.1 < n ∧ q.2 < n) {a b : Nat} (h : Pt ps a b) : Qk ps n a b := by
  induction h with
  | one h => exact Qk.up h n
  | step h _ ih => exact Qk.tr (hp _ h).2 (Qk.up h n) ih
/-! bits -/
theorem bit_set {M : List (List Bool)} {i : Nat} {r : List Bool} (hi : i < M.length) (a b : Nat) : bitM (M.set i r) a b = if a = i then r.getD b false else bitM M a b := by
  unfold bitM
  simp only [List.getD_eq_getElem?_getD]
  by_cases h : a = i
  · subst h
    rw [if_pos rfl, List.getElem?_set_self hi]; rfl
  · rw [if_neg h, List.getElem?_set_ne (fun e => h e.symm)]
theorem zip_or {x y : List Bool} (h : x.length = y.length) (b : Nat) : (List.zipWith (· || ·) x y).getD b false = (x.getD b false || y.getD b false) := by
  simp only [List.getD_eq_getElem?_getD, List.getElem?_zipWith]
  by_cases hb : b < x.length
  · rw [List.getElem?_eq_getElem hb, List.getElem?_eq_getElem (by omega)]; rfl
  · rw [List.getElem?_eq_none (by omega), List.getElem?_eq_none (by omega)]; rfl
theorem bit_turn {n : Nat} {M : List (List Bool)} (hs : Sq n M) {c i : Nat} (hc : c < n) (hi : i < n) (a b : Nat) : bitM (turnM c M i) a b = if a = i then (bitM M i b || (bitM M i c && bitM M c b)) else bitM M a b := by
  unfold turnM
  by_cases h : bitM M i c = true
  · rw [if_pos h]
    unfold orRow
    rw [bit_set (by rw [hs.len]; exact hi), zip_or (by rw [(hs.get hi).2, (hs.get hc).2])]
    rw [h]
    rfl
  · rw [if_neg h]
    have : bitM M i c = false := by simpa using h
    rw [this]
    by_cases e : a = i
    · subst e; simp
    · rw [if_neg e]
theorem bit_pass {n : Nat} {M : List (List Bool)} (hs : Sq n M) {c : Nat} (hc : c < n) : ∀ j, j ≤ n → ∀ a b, bitM (((List.range n).take j).foldl (turnM c) M) a b = if a < j then (bitM M a b || (bitM M a c && bitM M c b)) else bitM M a b
  | 0, _, a, b => by simp
  | j + 1, hj, a, b => by
    have ih := bit_pass hs hc j (by omega)
    have e1 : ((List.range n).take (j + 1)).foldl (turnM c) M = turnM c (((List.range n).take j).foldl (turnM c) M) j := by
      rw [List.take_add_one, List.getElem?_range (by omega)]; simp
    have hs' : Sq n (((List.range n).take j).foldl (turnM c) M) := Sq.fold _ (fun M a h ha => h.turnM ha hc) _ _ (fun a ha => List.mem_range.mp (List.mem_of_mem_take ha)) hs
    rw [e1, bit_turn hs' hc (by omega)]
    have hjj : ¬ j < j := by omega
    have hcc : ∀ b, bitM (((List.range n).take j).foldl (turnM c) M) c b = bitM M c b := fun b => by
      rw [ih c b]
      split
      · cases bitM M c b <;> cases bitM M c c <;> rfl
      · rfl
    by_cases e : a = j
    · subst e
      rw [if_pos rfl, if_pos (by omega), hcc, ih a b, ih a c, if_neg hjj, if_neg hjj]
    · rw [if_neg e, ih a b]
      by_cases h : a < j
      · rw [if_pos h, if_pos (by omega)]
      · rw [if_neg h, if_neg (by omega)]
theorem bit_pass' {n : Nat} {M : List (List Bool)} (hs : Sq n M) {c : Nat} (hc : c < n) {a : Nat} (ha : a < n) (b : Nat) : bitM (passM n M c) a b = (bitM M a b || (bitM M a c && bitM M c b)) := by
  have := bit_pass hs hc n (Nat.le_refl _) a b
  rw [List.take_of_length_le (by rw [List.length_range]; exact Nat.le_refl _), if_pos ha] at this
  exact this
theorem bit_start (n a b : Nat) : bitM (startM n) a b = false := by
  unfold bitM startM
  simp only [List.getD_eq_getElem?_getD, List.getElem?_replicate]
  split
  · simp only [Option.getD_some, List.getElem?_replicate]
    split <;> rfl
  · rfl
theorem bit_setM {n : Nat} {M : List (List Bool)} (hs : Sq n M) {q : Nat × Nat} (h1 : q.1 < n) (h2 : q.2 < n) (a b : Nat) : bitM (setM M q) a b = (decide ((a, b) = q) || bitM M a b) := by
  unfold setM
  rw [bit_set (by rw [hs.len]; exact h1)]
  have hl := (hs.get h1).2
  by_cases e : a = q.1
  · rw [if_pos e]
    subst e
    simp only [List.getD_eq_getElem?_getD] at hl ⊢
    by_cases f : b = q.2
    · subst f
      rw [List.getElem?_set_self (by omega)]
      simp
    · rw [List.getElem?_set_ne (fun z => f z.symm)]
      have : ¬ (q.1, b) = q := fun z => f (by rw [← z])
      simp [this, bitM, List.getD_eq_getElem?_getD]
  · rw [if_neg e]
    have : ¬ (a, b) = q := fun z => e (by rw [← z])
    simp [this]
theorem bit_pairs {n : Nat} : ∀ (ps : List (Nat × Nat)) (M : List (List Bool)), (∀ q ∈ ps, q.1 < n ∧ q.2 < n) → Sq n M → Sq n (ps.foldl setM M) ∧ ∀ a b, bitM (ps.foldl setM M) a b = true ↔ (a, b) ∈ ps ∨ bitM M a b = true
  | [], M, _, hs => ⟨hs, fun a b => by simp⟩
  | q :: ps, M, hp, hs => by
    have hq := hp q (List.mem_cons_self ..)
    obtain ⟨h1, h2⟩ := bit_pairs ps (setM M q) (fun x hx => hp x (List.mem_cons_of_mem _ hx)) (hs.setM hq.1)
    refine ⟨h1, fun a b => ?_⟩
    rw [List.foldl_cons, h2, bit_setM hs hq.1 hq.2]
    simp only [Bool.or_eq_true, decide_eq_true_eq, List.mem_cons]
    exact ⟨fun h => h.elim (fun h => .inl (.inr h)) fun h => h.elim (fun h => .inl (.inl h)) .inr, fun h => h.elim (fun h => h.elim (fun h => .inr (.inl h)) .inl) fun h => .inr (.inr h)⟩
theorem bit_warsh {n : Nat} {ps : List (Nat × Nat)} (hp : ∀ q ∈ ps, q.1 < n ∧ q.2 < n) : ∀ j, j ≤ n → Sq n (((List.range n).take j).foldl (passM n) (ps.foldl setM (startM n))) ∧ ∀ a b, a < n → b < n → (bitM (((List.range n).take j).foldl (passM n) (ps.foldl setM (startM n))) a b = true ↔ Qk ps j a b)
  | 0, _ => by
    obtain ⟨h1, h2⟩ := bit_pairs ps (startM n) hp Sq.start
    refine ⟨by simpa using h1, fun a b _ _ => ?_⟩
    rw [List.take_zero, List.foldl_nil, h2, bit_start]
    simp [Qk]
  | j + 1, hj => by
    obtain ⟨h1, h2⟩ := bit_warsh hp j (by omega)
    have e1 : ((List.range n).take (j + 1)).foldl (passM n) (ps.foldl setM (startM n)) = passM n (((List.range n).take j).foldl (passM n) (ps.foldl setM (startM n))) j := by
      rw [List.take_add_one, List.getElem?_range (by omega)]; simp
    rw [e1]
    refine ⟨h1.pass (by omega), fun a b ha hb => ?_⟩
    rw [bit_pass' h1 (by omega) ha]
    simp only [Bool.or_eq_true, Bool.and_eq_true, h2 a b ha hb, h2 a j ha (by omega), h2 j b (by omega) hb]
    exact Iff.rfl
/-- the table tells where steps lead -/
theorem tab_pt {n : Nat} {ps : List (Nat × Nat)} (hp : ∀ q ∈ ps, q.1 < n ∧ q.2 < n) {a b : Nat} (ha : a < n) (hb : b < n) : bitM (tabM n ps) a b = true ↔ Pt ps a b := by
  obtain ⟨h1, h2⟩ := bit_warsh hp n (Nat.le_refl _)
  rw [List.take_of_length_le (by rw [List.length_range]; exact Nat.le_refl _)] at h2
  show bitM (warsh n (ps.foldl setM (startM n))) a b = true ↔ _
  unfold warsh
  rw [h2 a b ha hb]
  exact ⟨Qk.pt, pt_qk hp⟩
end K04
namespace K04
open L2 Mi
theorem number_ok (k : Nat) (v : Int) : callF tab (k + 1) 0 [.int v] none = some (.im (.bl true), none) := rfl
theorem place_ok (k n v : Nat) (h : v < n) : callF tab (k + 2) 1 [.int (n : Int), .int (v : Int)] none = some (.im (.bl true), none) := by
  refine call_rt (ρ := [.c (.im (.int (n : Int))), .c (.im (.int (v : Int)))]) rfl rfl rfl rfl ?_
  simp [f1, start0, number_ok, h]
theorem isi_tup (ds : List D) : isiOne (.tup ds) "tuple" = some true := rfl
theorem isi_lst (ds : List D) : isiOne (.lst ds) "list" = some true := rfl
theorem pair_ok (k n : Nat) (q : Nat × Nat) (h1 : q.1 < n) (h2 : q.2 < n) (h3 : q.1 ≠ q.2) : callF tab (k + 3) 2 [.int (n : Int), prD q] none = some (.im (.bl true), none) := by
  refine call_rt (ρ := [.c (.im (.int (n : Int))), .c (.im (prD q))]) rfl rfl rfl rfl ?_
  have h3' : ((q.1 : Int) == (q.2 : Int)) = false := by simp; omega
  simp [f2, start0, prD, isi_tup, place_ok (k := k) _ _ h1, place_ok (k := k) _ _ h2, h3']
theorem bls_true : ∀ n : Nat, D.bls (List.replicate n (.bl true)) = some (List.replicate n true)
  | 0 => rfl
  | n + 1 => by
    show (D.bls (List.replicate n (.bl true))).map (true :: ·) = _
    rw [bls_true n]; rfl
theorem pairs_ok (k n : Nat) (ps : List (Nat × Nat)) (hl : ps.length ≤ 1600) (h : ∀ q ∈ ps, q.1 < n ∧ q.2 < n ∧ q.1 ≠ q.2) : callF tab (k + 4) 3 [.int (n : Int), .lst (ps.map prD)] none = some (.im (.bl true), none) := by
  obtain ⟨acc, S1, c1, y2, rfl, rfl⟩ := comp_nx (vs := [2]) (t := .nm 2) (cond := (evsB (callF tab (k + 3)) .nil).t) (el := (evB (callF tab (k + 3)) e3_1).v)
    (fun j S acc => ∃ (y2 : Sl), S = ⟨[.c (.im (.int (n : Int))), .c (.im (.lst (ps.map prD))), y2], none⟩ ∧ acc = List.replicate j (Cell.im (.bl true))) 0 (ps.map prD)
    ⟨[.c (.im (.int (n : Int))), .c (.im (.lst (ps.map prD))), .no], none⟩ [] 0 ⟨.no, rfl, rfl⟩ (by simp; omega) (fun j d S acc hd ⟨y2, h1, h2⟩ => by
      subst h1 h2
      rw [List.getElem?_map] at hd
      simp only [Option.map_eq_some_iff] at hd
      obtain ⟨q, hq, rfl⟩ := hd
      obtain ⟨g1, g2, g3⟩ := h q (List.mem_of_getElem? hq)
      refine ⟨_, rfl, true, _, rfl, ?_⟩
      rw [if_pos rfl]
      refine ⟨.im (.bl true), _, by simp [e3_1, wipeS, pair_ok k n q g1 g2 g3]; rfl, _, rfl, ?_⟩
      rw [List.replicate_succ', Nat.zero_add])
  have hall : bltC "all" [Cell.ow (List.replicate ps.length (Cell.im (.bl true)))] = some (.im (.bl true)) := by
    have := b_all (c := Cell.ow (List.replicate ps.length (Cell.im (.bl true)))) (ds := List.replicate ps.length (.bl true)) (bs := List.replicate ps.length true) (by
      rw [x_frz_ow]
      have : List.replicate ps.length (Cell.im (D.bl true)) = (List.replicate ps.length (D.bl true)).map .im := by simp
      rw [this, x_frzs_map]) (bls_true _)
    rw [this]
    simp
  have hcomp : (evB (callF tab (k + 3)) (.comp [("pair", 2)] e3_1 (.nm 2) (.ex (.var 1)) .nil)).v ⟨[.c (.im (.int (n : Int))), .c (.im (.lst (ps.map prD))), .no], none⟩ = some (.own (.ow (List.replicate ps.length (.im (.bl true)))), ⟨[.c (.im (.int (n : Int))), .c (.im (.lst (ps.map prD))), .no], none⟩) := by
    rw [x_comp, x_mkV_v]
    rw [List.length_map, Nat.zero_add] at c1
    simp [Sl.isIm, c1, backS]
  refine call_rt (ρ := [.c (.im (.int (n : Int))), .c (.im (.lst (ps.map prD))), .no]) rfl rfl rfl rfl ?_
  have hle : ((ps.length : Nat) : Int) ≤ 1600 := by omega
  have hblt : (evB (callF tab (k + 3)) (.blt "all" (.cons (.comp [("pair", 2)] e3_1 (.nm 2) (.ex (.var 1)) .nil) .nil))).v ⟨[.c (.im (.int (n : Int))), .c (.im (.lst (ps.map prD))), .no], none⟩ = some (.own (.im (.bl true)), ⟨[.c (.im (.int (n : Int))), .c (.im (.lst (ps.map prD))), .no], none⟩) := by
    rw [x_blt, x_mkV_v, x_cons_v, hcomp]
    show ((bltC "all" [Cell.ow (List.replicate ps.length (Cell.im (.bl true)))]).map fun c => (R.own c, _)) = _
    rw [hall]; rfl
  unfold f3
  show runs _ _ ⟨[.c (.im (.int (n : Int))), .c (.im (.lst (ps.map prD))), .no], none⟩ = _
  rw [r_cons, r_ret, x_and_v]
  have s1 : (evB (callF tab (k + 3)) (.isi (.var 1) false ["list"])).v ⟨[.c (.im (.int (n : Int))), .c (.im (.lst (ps.map prD))), .no], none⟩ = some (.own (.im (.bl true)), ⟨[.c (.im (.int (n : Int))), .c (.im (.lst (ps.map prD))), .no], none⟩) := by simp [isi_lst]
  have s2 : (evB (callF tab (k + 3)) (.cmp .LtE (.blt "len" (.cons (.var 1) .nil)) (.glob "MOST_PAIRS" 1600))).v ⟨[.c (.im (.int (n : Int))), .c (.im (.lst (ps.map prD))), .no], none⟩ = some (.own (.im (.bl true)), ⟨[.c (.im (.int (n : Int))), .c (.im (.lst (ps.map prD))), .no], none⟩) := by
    simp; omega
  rw [s1, Option.bind_some]
  show ((((evB (callF tab (k + 3)) (.and (.cmp .LtE (.blt "len" (.cons (.var 1) .nil)) (.glob "MOST_PAIRS" 1600)) (.one (.blt "all" (.cons (.comp [("pair", 2)] e3_1 (.nm 2) (.ex (.var 1)) .nil) .nil))))).v ⟨[.c (.im (.int (n : Int))), .c (.im (.lst (ps.map prD))), .no], none⟩).bind _)).bind _ = _
  rw [x_and_v, s2, Option.bind_some]
  show ((((evB (callF tab (k + 3)) (.one (.blt "all" (.cons (.comp [("pair", 2)] e3_1 (.nm 2) (.ex (.var 1)) .nil) .nil)))).v ⟨[.c (.im (.int (n : Int))), .c (.im (.lst (ps.map prD))), .no], none⟩).bind _)).bind _ = _
  rw [x_one, hblt]
  rfl
theorem size_ok (k n : Nat) (h1 : 1 ≤ n) (h2 : n ≤ 40) : callF tab (k + 2) 4 [.int (n : Int)] none = some (.im .non, none) := by
  refine call_nx (ρ := [.c (.im (.int (n : Int)))]) rfl rfl rfl rfl ?_
  have g1 : (1 : Int) ≤ (n : Int) := by omega
  have g2 : (n : Int) ≤ 40 := by omega
  have d1 : decide ((1 : Int) ≤ (n : Int)) = true := decide_eq_true g1
  have d2 : decide ((n : Int) ≤ 40) = true := decide_eq_true g2
  simp [f4, start0, number_ok, d1, d2, g1, g2]
theorem check_ok (k n : Nat) (h1 : 1 ≤ n) (h2 : n ≤ 40) (ps : List (Nat × Nat)) (hl : ps.length ≤ 1600) (h : ∀ q ∈ ps, q.1 < n ∧ q.2 < n ∧ q.1 ≠ q.2) : callF tab (k + 5) 5 [.int (n : Int), .lst (ps.map prD)] none = some (.im .non, none) := by
  refine call_nx (ρ := [.c (.im (.int (n : Int))), .c (.im (.lst (ps.map prD)))]) rfl rfl rfl rfl ?_
  have g := size_ok (k + 2) n h1 h2
  have g' := pairs_ok k n ps hl h
  simp [f5, start0, g, g']
end K04
namespace K04
open L2 Mi
/-- a comprehension of two clauses, by an invariant -/
theorem comp2_nx {vs : List Nat} {t : MT} {cond : Sta → Option (Bool × Sta)} {inner : Sta → List Cell → Option (List Cell × Sta)} (Inv : Nat → Sta → List Cell → Prop) : ∀ (ds : List D) (S : Sta) (acc : List Cell) (i : Nat), Inv i S acc →
    (∀ j d S acc, ds[j]? = some d → Inv (i + j) S acc → ∃ ρ1, bindT t d (wipeS S.ρ vs) = some ρ1 ∧ ∃ b S1, cond ⟨ρ1, S.io⟩ = some (b, S1) ∧ if b = true then ∃ acc' S2, inner S1 acc = some (acc', S2) ∧ Inv (i + j + 1) S2 acc' else Inv (i + j + 1) S1 acc) →
    ∃ acc' S', compL2 vs t cond inner ds S acc = some (acc', S') ∧ Inv (i + ds.length) S' acc'
  | [], S, acc, i, h, _ => ⟨acc, S, rfl, h⟩
  | d :: ds, S, acc, i, h, st => by
    obtain ⟨ρ1, e1, b, S1, e2, h1⟩ := st 0 d S acc rfl h
    have st' : ∀ j d' S acc, ds[j]? = some d' → Inv (i + 1 + j) S acc → ∃ ρ1, bindT t d' (wipeS S.ρ vs) = some ρ1 ∧ ∃ b S1, cond ⟨ρ1, S.io⟩ = some (b, S1) ∧ if b = true then ∃ acc' S2, inner S1 acc = some (acc', S2) ∧ Inv (i + 1 + j + 1) S2 acc' else Inv (i + 1 + j + 1) S1 acc := fun j d S acc hd hi => by
      have := st (j + 1) d S acc (by simpa using hd) (by rw [show i + (j + 1) = i + 1 + j by omega]; exact hi)
      rw [show i + (j + 1) = i + 1 + j by omega] at this
      exact this
    rw [List.length_cons, show i + (ds.length + 1) = i + 1 + ds.length by omega]
    cases b with
    | true =>
      rw [if_pos rfl] at h1
      obtain ⟨acc1, S2, e3, h2⟩ := h1
      obtain ⟨acc', S', e4, h3⟩ := comp2_nx Inv ds S2 acc1 (i + 1) h2 st'
      refine ⟨acc', S', ?_, h3⟩
      simp only [compL2, e1, e2, e3, Option.bind_some]
      rw [if_pos trivial]
      exact e4
    | false =>
      rw [if_neg (by simp)] at h1
      obtain ⟨acc', S', e4, h3⟩ := comp2_nx Inv ds S1 acc (i + 1) h1 st'
      refine ⟨acc', S', ?_, h3⟩
      simp only [compL2, e1, e2, Option.bind_some]
      rw [if_neg (by simp)]
      exact e4
def matD (M : List (List Bool)) : D := .lst (M.map fun r => .lst (r.map D.bl))
theorem mat_frz (M : List (List Bool)) : (matC D.bl M).frz = matD M := by
  unfold matC matD
  rw [x_frz_ow]
  congr 1
  induction M with
  | nil => rfl
  | cons r M ih =>
    rw [List.map_cons, x_frzs_cons, ih, List.map_cons]
    unfold rowC
    rw [x_frz_ow, x_frzs_map2]
/-- the pairs of a row -/
def rowL (M : List (List Bool)) (a m : Nat) : List (Nat × Nat) := ((List.range m).filter fun b => bitM M a b).map fun b => (a, b)
def tabL (M : List (List Bool)) (n m : Nat) : List (Nat × Nat) := (List.range m).flatMap fun a => rowL M a n
theorem rowL_succ (M : List (List Bool)) (a m : Nat) : rowL M a (m + 1) = rowL M a m ++ if bitM M a m then [(a, m)] else [] := by
  unfold rowL
  rw [List.range_succ, List.filter_append, List.map_append]
  congr 1
  by_cases h : bitM M a m = true
  · rw [if_pos h]; simp [h]
  · rw [if_neg h]; simp [h]
theorem tabL_succ (M : List (List Bool)) (n m : Nat) : tabL M n (m + 1) = tabL M n m ++ rowL M m n := by
  unfold tabL
  rw [List.range_succ, List.flatMap_append]
  simp
theorem rowL_len (M : List (List Bool)) (a m : Nat) : (rowL M a m).length ≤ m := by
  unfold rowL
  rw [List.length_map]
  have := List.length_filter_le (fun b => bitM M a b) (List.range m)
  rwa [List.length_range] at this
theorem tabL_len (M : List (List Bool)) (n : Nat) : ∀ m, (tabL M n m).length ≤ m * n
  | 0 => by simp [tabL]
  | m + 1 => by
    rw [tabL_succ, List.length_append, Nat.add_mul, Nat.one_mul]
    have := tabL_len M n m
    have := rowL_len M m n
    omega
theorem row_walk (cf : CF) (n : Nat) (hn : n ≤ 1000) (M : List (List Bool)) (hs : Sq n M) (a : Nat) (ha : a < n) (x0 : Sl) (x3 x4 : Sl) (acc : List Cell) (ha0 : acc.length ≤ 1000000) :
    ∃ (acc' : List Cell) (S' : Sta), compL [3, 4] (.tp (.cons (.nm 3) (.cons (.nm 4) .nil))) (evsB cf (.cons (.var 4) .nil)).t (evB cf e8_1).v (enumD 0 ((M.getD a []).map D.bl))
        ⟨[x0, .c (.im (.int (a : Int))), .c (.im (.lst ((M.getD a []).map D.bl))), x3, x4], none⟩ acc = some (acc', S') ∧
      ∃ x3 x4, S' = ⟨[x0, .c (.im (.int (a : Int))), .c (.im (.lst ((M.getD a []).map D.bl))), x3, x4], none⟩ ∧ acc' = acc ++ ((rowL M a n).map prD).map .im := by
  obtain ⟨r, g1, g2, g3⟩ := hs.get' ha
  obtain ⟨acc', S', e, x3', x4', h1, h2⟩ := comp_nx (vs := [3, 4]) (t := .tp (.cons (.nm 3) (.cons (.nm 4) .nil))) (cond := (evsB cf (.cons (.var 4) .nil)).t) (el := (evB cf e8_1).v)
    (fun j S ac => ∃ x3 x4, S = ⟨[x0, .c (.im (.int (a : Int))), .c (.im (.lst ((M.getD a []).map D.bl))), x3, x4], none⟩ ∧ ac = acc ++ ((rowL M a j).map prD).map .im) 0 (enumD 0 ((M.getD a []).map D.bl)) _ acc 0 ⟨x3, x4, rfl, by simp [rowL]⟩ (by rw [enumD_len, List.length_map, g3, g2]; omega) (fun j d S ac hd ⟨x3, x4, h1, h2⟩ => by
      subst h1 h2
      rw [enumD_get, List.getElem?_map, g3] at hd
      obtain ⟨x, hx⟩ : ∃ x, r[j]? = some x := by
        cases h : r[j]? with
        | some x => exact ⟨x, rfl⟩
        | none => rw [h] at hd; cases hd
      rw [hx] at hd
      cases hd
      have hb : bitM M a j = x := by
        unfold bitM
        rw [g3, List.getD_eq_getElem?_getD, hx]; rfl
      refine ⟨[x0, .c (.im (.int (a : Int))), .c (.im (.lst ((M.getD a []).map D.bl))), .c (.im (.int ((0 + j : Nat) : Int))), .c (.im (.bl x))], rfl, x, ⟨[x0, .c (.im (.int (a : Int))), .c (.im (.lst ((M.getD a []).map D.bl))), .c (.im (.int ((0 + j : Nat) : Int))), .c (.im (.bl x))], none⟩, by simp, ?_⟩
      rw [Nat.zero_add, rowL_succ, hb]
      cases x with
      | true =>
        rw [if_pos rfl, if_pos rfl]
        exact ⟨.im (prD (a, j)), ⟨[x0, .c (.im (.int (a : Int))), .c (.im (.lst ((M.getD a []).map D.bl))), .c (.im (.int (j : Int))), .c (.im (.bl true))], none⟩, by simp [e8_1, prD], _, _, rfl, by simp⟩
      | false =>
        rw [if_neg (by simp), if_neg (by simp)]
        exact ⟨_, _, rfl, by simp⟩)
  rw [Nat.zero_add, enumD_len, List.length_map, g3, g2] at h2
  rw [g3] at e h1 ⊢
  exact ⟨acc', S', e, x3', x4', h1, h2⟩
/-- pairs_by -/
theorem pairs_by_ok (k n : Nat) (hn : n ≤ 1000) (M : List (List Bool)) (hs : Sq n M) : callF tab (k + 1) 8 [matD M] none = some (.ow (((tabL M n n).map prD).map .im), none) := by
  obtain ⟨acc', S', e, x1, x2, x3, x4, h1, h2⟩ := comp2_nx (vs := [1, 2, 3, 4]) (t := .tp (.cons (.nm 1) (.cons (.nm 2) .nil))) (cond := (evsB (callF tab k) .nil).t)
    (inner := fun S acc => (evIB (callF tab k) (.enum (.var 2)) S).bind fun p1 => if p1.1 && !(e8_1.pure && (Es.cons (.var 4) .nil).pure) then none else compL [3, 4] (.tp (.cons (.nm 3) (.cons (.nm 4) .nil))) (evsB (callF tab k) (.cons (.var 4) .nil)).t (evB (callF tab k) e8_1).v p1.2.1 p1.2.2 acc)
    (fun j S ac => ∃ x1 x2 x3 x4, S = ⟨[.c (.im (matD M)), x1, x2, x3, x4], none⟩ ∧ ac = ((tabL M n j).map prD).map .im) (enumD 0 (M.map fun r => .lst (r.map D.bl))) ⟨[.c (.im (matD M)), .no, .no, .no, .no], none⟩ [] 0 ⟨.no, .no, .no, .no, rfl, by simp [tabL]⟩ (fun j d S ac hd ⟨x1, x2, x3, x4, h1, h2⟩ => by
      subst h1 h2
      have hj : j < n := by
        have := (List.getElem?_eq_some_iff.mp hd).1
        rw [enumD_len, List.length_map, hs.len] at this
        exact this
      obtain ⟨r, g1, g2, g3⟩ := hs.get' hj
      rw [enumD_get, List.getElem?_map, g1] at hd
      cases hd
      rw [Nat.zero_add, tabL_succ]
      have hlen : (((tabL M n j).map prD).map Cell.im).length ≤ 1000000 := by
        rw [List.length_map, List.length_map]
        have := tabL_len M n j
        have : j * n ≤ 1000 * 1000 := Nat.mul_le_mul (by omega) hn
        omega
      obtain ⟨acc', S', e, y3, y4, rfl, rfl⟩ := row_walk (callF tab k) n hn M hs j hj (.c (.im (matD M))) .no .no (((tabL M n j).map prD).map .im) hlen
      rw [g3] at e
      refine ⟨[.c (.im (matD M)), .c (.im (.int (j : Int))), .c (.im (.lst (r.map D.bl))), .no, .no], rfl, true, _, rfl, ?_⟩
      rw [if_pos rfl]
      refine ⟨_, _, e, _, _, _, _, rfl, ?_⟩
      simp)
  rw [Nat.zero_add, enumD_len, List.length_map, hs.len] at h2
  subst h1 h2
  refine call_rt (ρ := [.c (.im (matD M)), .no, .no, .no, .no]) rfl rfl rfl rfl ?_
  unfold f8
  show runs _ _ ⟨[.c (.im (matD M)), .no, .no, .no, .no], none⟩ = _
  rw [r_cons, r_ret, x_comp2, x_mkV_v]
  have src : evIB (callF tab k) (.enum (.var 0)) ⟨[.c (.im (matD M)), .no, .no, .no, .no], none⟩ = some (false, enumD 0 (M.map fun r => .lst (r.map D.bl)), ⟨[.c (.im (matD M)), .no, .no, .no, .no], none⟩) := rfl
  rw [src, Option.bind_some, if_neg (by simp [Sl.isIm])]
  simp only [List.map_cons, List.map_nil]
  rw [e]
  rfl
end K04
namespace K04
open L2 Mi
theorem Pt.rank {ps : List (Nat × Nat)} {r : Nat → Nat} (hr : ∀ q ∈ ps, r q.1 < r q.2) {a b : Nat} (h : Pt ps a b) : r a < r b := by
  induction h with
  | one h => exact hr _ h
  | step h _ ih => exact Nat.lt_trans (hr _ h) ih
theorem bls_false : ∀ n : Nat, D.bls (List.replicate n (.bl false)) = some (List.replicate n false)
  | 0 => rfl
  | n + 1 => by
    show (D.bls (List.replicate n (.bl false))).map (false :: ·) = _
    rw [bls_false n]; rfl
/-- checked_rows -/
theorem checked_ok (k n : Nat) (h1 : 1 ≤ n) (h2 : n ≤ 40) (ps : List (Nat × Nat)) (hl : ps.length ≤ 1600) (g : Good n ps) : callF tab (k + 6) 7 [.int (n : Int), .lst (ps.map prD)] none = some (.im (matD (tabM n ps)), none) := by
  obtain ⟨r, hr⟩ := g.rk
  have hne : ∀ q ∈ ps, q.1 < n ∧ q.2 < n ∧ q.1 ≠ q.2 := fun q hq => ⟨(g.lt q hq).1, (g.lt q hq).2, fun e => by have := hr q hq; rw [e] at this; omega⟩
  have e5 := check_ok k n h1 h2 ps hl hne
  obtain ⟨e6, hs⟩ := ahead_ok (k + 4) n (by omega) ps g.lt
  have e6 : callF tab (k + 5) 6 [.int (n : Int), .lst (ps.map prD)] none = some (matC D.bl (tabM n ps), none) := e6
  have hdiag : ∀ a, a < n → bitM (tabM n ps) a a = false := fun a ha => by
    cases hb : bitM (tabM n ps) a a with
    | false => rfl
    | true =>
      have := ((tab_pt g.lt ha ha).mp hb).rank hr
      omega
  obtain ⟨acc, S1, c1, y3, rfl, rfl⟩ := comp_nx (vs := [3]) (t := .nm 3) (cond := (evsB (callF tab (k + 5)) .nil).t) (el := (evB (callF tab (k + 5)) e7_1).v)
    (fun j S acc => ∃ (y3 : Sl), S = ⟨[.c (.im (.int (n : Int))), .c (.im (.lst (ps.map prD))), .c (.im (matD (tabM n ps))), y3], none⟩ ∧ acc = List.replicate j (Cell.im (.bl false))) 0 (rngD 0 (n : Int))
    ⟨[.c (.im (.int (n : Int))), .c (.im (.lst (ps.map prD))), .c (.im (matD (tabM n ps))), .no], none⟩ [] 0 ⟨.no, rfl, rfl⟩ (by rw [rng_lenN]; simp; omega) (fun j d S acc hd ⟨y3, h1, h2⟩ => by
      subst h1 h2
      obtain ⟨rfl, hj⟩ := rng_get hd
      obtain ⟨ra, g1, g2, g3⟩ := hs.get' hj
      have hb : ra[j]? = some false := by
        have := hdiag j hj
        unfold bitM at this
        rw [g3, List.getD_eq_getElem?_getD, List.getElem?_eq_getElem (by omega)] at this
        rw [List.getElem?_eq_getElem (by omega)]
        exact congrArg some this
      have i1 : atI ((tabM n ps).map fun r => D.lst (r.map D.bl)) (j : Int) = some (.lst (ra.map D.bl)) := by rw [Mi.atI_nat, List.getElem?_map, g1]; rfl
      have i2 : atI (ra.map D.bl) (j : Int) = some (.bl false) := by rw [Mi.atI_nat, List.getElem?_map, hb]; rfl
      refine ⟨_, rfl, true, _, rfl, ?_⟩
      rw [if_pos rfl]
      refine ⟨.im (.bl false), ⟨[.c (.im (.int (n : Int))), .c (.im (.lst (ps.map prD))), .c (.im (matD (tabM n ps))), .c (.im (.int (j : Int)))], none⟩, by simp [e7_1, wipeS, matD, i1, i2], _, rfl, ?_⟩
      rw [List.replicate_succ', Nat.zero_add])
  have hany : bltC "any" [Cell.ow (List.replicate n (Cell.im (.bl false)))] = some (.im (.bl false)) := by
    have := b_any (c := Cell.ow (List.replicate n (Cell.im (.bl false)))) (ds := List.replicate n (.bl false)) (bs := List.replicate n false) (by
      rw [x_frz_ow]
      have : List.replicate n (Cell.im (D.bl false)) = (List.replicate n (D.bl false)).map .im := by simp
      rw [this, x_frzs_map]) (bls_false _)
    rw [this]
    simp
  have hcomp : (evB (callF tab (k + 5)) (.comp [("a", 3)] e7_1 (.nm 3) (.rng1 (.var 0)) .nil)).v ⟨[.c (.im (.int (n : Int))), .c (.im (.lst (ps.map prD))), .c (.im (matD (tabM n ps))), .no], none⟩ = some (.own (.ow (List.replicate n (.im (.bl false)))), ⟨[.c (.im (.int (n : Int))), .c (.im (.lst (ps.map prD))), .c (.im (matD (tabM n ps))), .no], none⟩) := by
    rw [x_comp, x_mkV_v, i_rg1 (n := n) rfl (by omega), Option.bind_some, if_neg (by simp [Sl.isIm])]
    simp only [List.map_cons, List.map_nil]
    rw [rng_lenN, Nat.zero_add] at c1
    rw [c1]
    simp [backS]
  have hblt : (evB (callF tab (k + 5)) (.blt "any" (.cons (.comp [("a", 3)] e7_1 (.nm 3) (.rng1 (.var 0)) .nil) .nil))).t ⟨[.c (.im (.int (n : Int))), .c (.im (.lst (ps.map prD))), .c (.im (matD (tabM n ps))), .no], none⟩ = some (false, ⟨[.c (.im (.int (n : Int))), .c (.im (.lst (ps.map prD))), .c (.im (matD (tabM n ps))), .no], none⟩) := by
    rw [x_blt, x_mkV_t, x_cons_v, hcomp]
    show (((bltC "any" [Cell.ow (List.replicate n (Cell.im (.bl false)))]).map fun c => (R.own c, _)).bind _) = _
    rw [hany]; rfl
  refine call_rt (ρ := [.c (.im (.int (n : Int))), .c (.im (.lst (ps.map prD))), .c (.im (matD (tabM n ps))), .no]) rfl rfl rfl rfl ?_
  unfold f7
  refine r_seq (S1 := ⟨[.c (.im (.int (n : Int))), .c (.im (.lst (ps.map prD))), .no, .no], none⟩) (by rw [r_ex]; exact congrArg _ (e_call (cf := callF tab (k + 5)) (f := 5) (es := .cons (.var 0) (.cons (.var 1) .nil)) (S2 := ⟨[.c (.im (.int (n : Int))), .c (.im (.lst (ps.map prD))), .no, .no], none⟩) (rs := [.own (.im (.int (n : Int))), .own (.im (.lst (ps.map prD)))]) rfl rfl e5)) (r_seq (S1 := ⟨[.c (.im (.int (n : Int))), .c (.im (.lst (ps.map prD))), .c (matC D.bl (tabM n ps)), .no], none⟩) (by rw [r_asg, e_call (cf := callF tab (k + 5)) (f := 6) (es := .cons (.var 0) (.cons (.var 1) .nil)) (S2 := ⟨[.c (.im (.int (n : Int))), .c (.im (.lst (ps.map prD))), .no, .no], none⟩) (rs := [.own (.im (.int (n : Int))), .own (.im (.lst (ps.map prD)))]) rfl rfl e6]; rfl) ?_)
  rw [r_frz]
  show runs _ _ ⟨[.c (.im (.int (n : Int))), .c (.im (.lst (ps.map prD))), .c (.im (matC D.bl (tabM n ps)).frz), .no], none⟩ = _
  rw [mat_frz]
  refine r_seq (S1 := ⟨[.c (.im (.int (n : Int))), .c (.im (.lst (ps.map prD))), .c (.im (matD (tabM n ps))), .no], none⟩) ?_ rfl
  rw [r_ife, hblt]; rfl
/-- what closed gives -/
def clo (n : Nat) (ps : List (Nat × Nat)) : List (Nat × Nat) := tabL (tabM n ps) n n
end K04
namespace K04
open L2 Mi
theorem same_int (k : Nat) (v : Int) : callF tab (k + 1) 26 [.int v, .int v] none = some (.im (.bl true), none) := by
  refine call_rt (ρ := [.c (.im (.int v)), .c (.im (.int v)), .no]) rfl rfl rfl rfl ?_
  have i1 : scmp .Is (.int v) .non = some false := rfl
  have i2 : isiOne (.int v) "bool" = some false := rfl
  have i3 : isiOne (.int v) "int" = some true := rfl
  simp [f26, start0, i1, i2, i3]
/-- a list or a tuple -/
theorem same_seq (k : Nat) (d : D) (ds : List D) (hd : d = .lst ds ∨ d = .tup ds) (hz : ds.length ≤ 5000) (h : ∀ x ∈ ds, callF tab (k + 1) 26 [x, x] none = some (.im (.bl true), none)) : callF tab (k + 2) 26 [d, d] none = some (.im (.bl true), none) := by
  have hix : ∀ (i : Int), idxR (.own (.im d)) i = (atI ds i).map fun x => .own (.im x) := fun i => by rcases hd with rfl | rfl <;> rfl
  have hit : d.itsD = some ds := by rcases hd with rfl | rfl <;> rfl
  obtain ⟨acc, S1, c1, y2, rfl, rfl⟩ := comp_nx (vs := [2]) (t := .nm 2) (cond := (evsB (callF tab (k + 1)) .nil).t) (el := (evB (callF tab (k + 1)) e26_1).v)
    (fun j S acc => ∃ (y2 : Sl), S = ⟨[.c (.im d), .c (.im d), y2], none⟩ ∧ acc = List.replicate j (Cell.im (.bl true))) 0 (rngD 0 (ds.length : Int))
    ⟨[.c (.im d), .c (.im d), .no], none⟩ [] 0 ⟨.no, rfl, rfl⟩ (by rw [rng_lenN]; simp; omega) (fun j x S acc hx ⟨y2, h1, h2⟩ => by
      subst h1 h2
      obtain ⟨rfl, hj⟩ := rng_get hx
      have i1 : atI ds (j : Int) = some ds[j] := by rw [Mi.atI_nat, List.getElem?_eq_getElem hj]
      have e1 := h ds[j] (List.getElem_mem hj)
      refine ⟨_, rfl, true, _, rfl, ?_⟩
      rw [if_pos rfl]
      refine ⟨.im (.bl true), ⟨[.c (.im d), .c (.im d), .c (.im (.int (j : Int)))], none⟩, ?_, _, rfl, ?_⟩
      · have a1 : ∀ i : Nat, (i = 0 ∨ i = 1) → (evB (callF tab (k + 1)) (.idx (.var i) (.var 2))).v ⟨[.c (.im d), .c (.im d), .c (.im (.int (j : Int)))], none⟩ = some (.own (.im ds[j]), ⟨[.c (.im d), .c (.im d), .c (.im (.int (j : Int)))], none⟩) := fun i hi => by
          rcases hi with rfl | rfl <;> simp [hix, i1]
        refine e_call (rs := [.own (.im ds[j]), .own (.im ds[j])]) ?_ rfl e1
        show ((evsB (callF tab (k + 1)) (.cons (.idx (.var 0) (.var 2)) (.cons (.idx (.var 1) (.var 2)) .nil))).v ⟨[.c (.im d), .c (.im d), .c (.im (.int (j : Int)))], none⟩) = _
        rw [x_cons_v, a1 0 (.inl rfl), Option.bind_some, x_cons_v, a1 1 (.inr rfl)]
        rfl
      · rw [List.replicate_succ', Nat.zero_add])
  have hall : bltC "all" [Cell.ow (List.replicate ds.length (Cell.im (.bl true)))] = some (.im (.bl true)) := by
    have := b_all (c := Cell.ow (List.replicate ds.length (Cell.im (.bl true)))) (ds := List.replicate ds.length (.bl true)) (bs := List.replicate ds.length true) (by
      rw [x_frz_ow]
      have : List.replicate ds.length (Cell.im (D.bl true)) = (List.replicate ds.length (D.bl true)).map .im := by simp
      rw [this, x_frzs_map]) (bls_true _)
    rw [this]
    simp
  have hcomp : (evB (callF tab (k + 1)) (.comp [("k", 2)] e26_1 (.nm 2) (.rng1 (.blt "len" (.cons (.var 1) .nil))) .nil)).v ⟨[.c (.im d), .c (.im d), .no], none⟩ = some (.own (.ow (List.replicate ds.length (.im (.bl true)))), ⟨[.c (.im d), .c (.im d), .no], none⟩) := by
    rw [x_comp, x_mkV_v, i_rg1 (n := ds.length) (S1 := ⟨[.c (.im d), .c (.im d), .no], none⟩) (by simp [hit]) (by omega), Option.bind_some, if_neg (by simp [Sl.isIm])]
    simp only [List.map_cons, List.map_nil]
    rw [rng_lenN, Nat.zero_add] at c1
    rw [c1]
    simp [backS]
  have hret : runs (callF tab (k + 1)) (.cons (.ret (.blt "all" (.cons (.comp [("k", 2)] e26_1 (.nm 2) (.rng1 (.blt "len" (.cons (.var 1) .nil))) .nil) .nil))) .nil) ⟨[.c (.im d), .c (.im d), .no], none⟩ = some (.rt (.im (.bl true)) ⟨[.c (.im d), .c (.im d), .no], none⟩) := by
    rw [r_cons, r_ret, x_blt, x_mkV_v, x_cons_v, hcomp]
    show ((((bltC "all" [Cell.ow (List.replicate ds.length (Cell.im (.bl true)))]).map fun c => (R.own c, _)).bind _).bind _) = _
    rw [hall]; rfl
  refine call_rt (ρ := [.c (.im d), .c (.im d), .no]) rfl rfl rfl rfl ?_
  have i1 : scmp .Is d .non = some false := by rcases hd with rfl | rfl <;> rfl
  have i2 : isiOne d "bool" = some false := by rcases hd with rfl | rfl <;> rfl
  have i3 : isiOne d "int" = some false := by rcases hd with rfl | rfl <;> rfl
  have i4 : isiOne d "str" = some false := by rcases hd with rfl | rfl <;> rfl
  have i5 : ∃ b, isiOne d "list" = some b := by rcases hd with rfl | rfl <;> exact ⟨_, rfl⟩
  obtain ⟨b, i5⟩ := i5
  have i6 : isiAny d ["list", "tuple"] = some true := by rcases hd with rfl | rfl <;> rfl
  unfold f26
  refine r_seq (S1 := ⟨[.c (.im d), .c (.im d), .no], none⟩) (by simp [start0, i1]) (r_seq (S1 := ⟨[.c (.im d), .c (.im d), .no], none⟩) (by simp [i2]) (r_seq (S1 := ⟨[.c (.im d), .c (.im d), .no], none⟩) (by simp [i3]) (r_seq (S1 := ⟨[.c (.im d), .c (.im d), .no], none⟩) (by simp [i4]) (r_seq (S1 := ⟨[.c (.im d), .c (.im d), .no], none⟩) ?_ hret))))
  simp [i5, i6, hit]
/-- _law_same of lists of pairs -/
theorem same_pairs (k : Nat) (ps : List (Nat × Nat)) (hz : ps.length ≤ 5000) : callF tab (k + 3) 26 [.lst (ps.map prD), .lst (ps.map prD)] none = some (.im (.bl true), none) := by
  refine same_seq (k + 1) _ (ps.map prD) (.inl rfl) (by simpa using hz) fun x hx => ?_
  obtain ⟨q, _, rfl⟩ := List.mem_map.mp hx
  refine same_seq k _ [.int (q.1 : Int), .int (q.2 : Int)] (.inr rfl) (by simp) fun y hy => ?_
  simp only [List.mem_cons, List.not_mem_nil, or_false] at hy
  rcases hy with rfl | rfl <;> exact same_int k _
end K04
namespace K04
open L2 Mi
theorem Pt.sub {ps qs : List (Nat × Nat)} (h : ∀ a b, (a, b) ∈ ps → Pt qs a b) {a b : Nat} (p : Pt ps a b) : Pt qs a b := by
  induction p with
  | one q => exact h _ _ q
  | step q _ ih => exact (h _ _ q).trans ih
theorem mem_rowL {M : List (List Bool)} {a m x y : Nat} : (x, y) ∈ rowL M a m ↔ x = a ∧ y < m ∧ bitM M a y = true := by
  unfold rowL
  simp only [List.mem_map, List.mem_filter, List.mem_range, Prod.mk.injEq]
  exact ⟨fun ⟨b, ⟨h1, h2⟩, h3, h4⟩ => by subst h3 h4; exact ⟨rfl, h1, h2⟩, fun ⟨h1, h2, h3⟩ => ⟨y, ⟨h2, h3⟩, h1.symm, rfl⟩⟩
theorem mem_clo {n : Nat} {ps : List (Nat × Nat)} (hp : ∀ q ∈ ps, q.1 < n ∧ q.2 < n) {x y : Nat} : (x, y) ∈ clo n ps ↔ x < n ∧ y < n ∧ Pt ps x y := by
  unfold clo tabL
  simp only [List.mem_flatMap, List.mem_range, mem_rowL]
  constructor
  · rintro ⟨a, ha, rfl, hy, hb⟩
    exact ⟨ha, hy, (tab_pt hp ha hy).mp hb⟩
  · rintro ⟨hx, hy, h⟩
    exact ⟨x, hx, rfl, hy, (tab_pt hp hx hy).mpr h⟩
theorem clo_eq {n : Nat} {ps qs : List (Nat × Nat)} (hp : ∀ q ∈ ps, q.1 < n ∧ q.2 < n) (hq : ∀ q ∈ qs, q.1 < n ∧ q.2 < n) (h : ∀ a b, Pt ps a b ↔ Pt qs a b) : clo n ps = clo n qs := by
  unfold clo tabL
  have : ∀ a ∈ List.range n, rowL (tabM n ps) a n = rowL (tabM n qs) a n := fun a ha => by
    unfold rowL
    congr 1
    refine List.filter_congr fun b hb => ?_
    have ha := List.mem_range.mp ha
    have hb := List.mem_range.mp hb
    have := (tab_pt hp ha hb).trans ((h a b).trans (tab_pt hq ha hb).symm)
    cases e1 : bitM (tabM n ps) a b <;> cases e2 : bitM (tabM n qs) a b <;> simp_all
  rw [List.flatMap_def, List.flatMap_def, List.map_congr_left this]
theorem clo_len (n : Nat) (ps : List (Nat × Nat)) : (clo n ps).length ≤ n * n := tabL_len _ _ _
theorem pt_lt {n : Nat} {ps : List (Nat × Nat)} (hp : ∀ q ∈ ps, q.1 < n ∧ q.2 < n) {a b : Nat} (h : Pt ps a b) : a < n ∧ b < n := by
  induction h with
  | one h => exact hp _ h
  | step h _ ih => exact ⟨(hp _ h).1, ih.2⟩
theorem good_clo {n : Nat} {ps : List (Nat × Nat)} (g : Good n ps) : Good n (clo n ps) := by
  obtain ⟨r, hr⟩ := g.rk
  refine ⟨fun q hq => ?_, r, fun q hq => ?_⟩
  · have := (mem_clo g.lt (x := q.1) (y := q.2)).mp hq
    exact ⟨this.1, this.2.1⟩
  · exact ((mem_clo g.lt (x := q.1) (y := q.2)).mp hq).2.2.rank hr
theorem pt_clo {n : Nat} {ps : List (Nat × Nat)} (g : Good n ps) (a b : Nat) : Pt (clo n ps) a b ↔ Pt ps a b :=
  ⟨Pt.sub fun a b h => ((mem_clo g.lt).mp h).2.2, fun h => .one ((mem_clo g.lt).mpr ⟨(pt_lt g.lt h).1, (pt_lt g.lt h).2, h⟩)⟩
theorem clo_clo {n : Nat} {ps : List (Nat × Nat)} (g : Good n ps) : clo n (clo n ps) = clo n ps := clo_eq (good_clo g).lt g.lt (pt_clo g)
theorem clo_mem {n : Nat} {ps qs : List (Nat × Nat)} (g : Good n ps) (h : ∀ q, q ∈ qs ↔ q ∈ ps) : clo n qs = clo n ps :=
  clo_eq (fun q hq => g.lt q ((h q).mp hq)) g.lt fun a b => ⟨Pt.sub fun a b z => .one ((h _).mp z), Pt.sub fun a b z => .one ((h _).mpr z)⟩
theorem good_mem {n : Nat} {ps qs : List (Nat × Nat)} (g : Good n ps) (h : ∀ q, q ∈ qs ↔ q ∈ ps) : Good n qs := by
  obtain ⟨r, hr⟩ := g.rk
  exact ⟨fun q hq => g.lt q ((h q).mp hq), r, fun q hq => hr q ((h q).mp hq)⟩
theorem good_chain (n m : Nat) (h : m ≤ n - 1) (hn : 1 ≤ n) : Good n ((List.range m).map fun k => (k, k + 1)) := by
  refine ⟨fun q hq => ?_, id, fun q hq => ?_⟩
  · obtain ⟨k, hk, rfl⟩ := List.mem_map.mp hq
    have := List.mem_range.mp hk
    exact ⟨by show k < n; omega, by show k + 1 < n; omega⟩
  · obtain ⟨k, hk, rfl⟩ := List.mem_map.mp hq
    exact Nat.lt_succ_self k
end K04
namespace K04
open L2 Mi
theorem prD_inj {q r : Nat × Nat} (h : prD q = prD r) : q = r := by
  unfold prD at h
  simp only [D.tup.injEq, List.cons.injEq, D.int.injEq, and_true] at h
  exact Prod.ext (by omega) (by omega)
theorem of_prD : ∀ {F : List D} {ps : List (Nat × Nat)}, (∀ d ∈ F, d ∈ ps.map prD) → ∃ qs : List (Nat × Nat), F = qs.map prD ∧ ∀ q ∈ qs, q ∈ ps
  | [], _, _ => ⟨[], rfl, fun _ h => (nomatch h)⟩
  | d :: F, ps, h => by
    obtain ⟨qs, rfl, h2⟩ := of_prD (F := F) (ps := ps) fun x hx => h x (List.mem_cons_of_mem _ hx)
    obtain ⟨q, hq, rfl⟩ := List.mem_map.mp (h d (List.mem_cons_self ..))
    exact ⟨q :: qs, rfl, fun x hx => by
      rcases List.mem_cons.mp hx with rfl | hx
      · exact hq
      · exact h2 x hx⟩
/-- _law_listed of pairs -/
theorem listed_pairs (k : Nat) (ps : List (Nat × Nat)) (hz : ps.length ≤ 2000) (p : List D) (hp : PoolOk p) : ∃ (qs : List (Nat × Nat)) (p' : List D), callF tab (k + 3) 28 [.lst (ps.map prD)] (some p) = some (.ow ((qs.map prD).map .im), some p') ∧ (∀ q, q ∈ qs ↔ q ∈ ps) ∧ qs.length ≤ 2 * ps.length ∧ PoolOk p' := by
  obtain ⟨F, p', e, h1, h2, h3⟩ := listed_ok k (ps.map prD) (by simpa using hz) p hp
  obtain ⟨qs, rfl, h4⟩ := of_prD fun d hd => (h1 d).mp hd
  refine ⟨qs, p', e, fun q => ⟨h4 q, fun hq => ?_⟩, by simpa using h2, h3⟩
  obtain ⟨r, hr, e⟩ := List.mem_map.mp ((h1 (prD q)).mpr (List.mem_map_of_mem hq))
  rw [← prD_inj e]; exact hr
/-! the great orders -/
theorem good_layers (n : Nat) (ps : List (Nat × Nat)) (f : Nat → Nat) (h1 : ∀ q ∈ ps, q.1 < n ∧ q.2 < n) (h2 : ∀ q ∈ ps, f q.1 < f q.2) : Good n ps := ⟨h1, f, h2⟩
end K04
namespace K04
open L2 Mi
def chn (m : Nat) : List (Nat × Nat) := (List.range m).map fun k => (k, k + 1)
/-- [(k, k + 1) for k in range(m)] -/
theorem chain_comp (cf : CF) (nm : PySem.Str) (s : Nat) (ρ : List Sl) (io : Option (List D)) (hs : s < ρ.length) (him : (ρ.getD s .no).isIm = true) (m : Nat) (hm : m ≤ 1000) (e : ME) (he : e = .tup (.cons (.var s) (.cons (.bin .Add (.var s) (.int 1)) .nil)))
    (x : ME) (hx : (evB cf x).v ⟨ρ, io⟩ = some (.own (.im (.int (m : Int))), ⟨ρ, io⟩)) :
    (evB cf (.comp [(nm, s)] e (.nm s) (.rng1 x) .nil)).v ⟨ρ, io⟩ = some (.own (.ow (((chn m).map prD).map .im)), ⟨ρ, io⟩) := by
  subst he
  obtain ⟨acc, S', h1, h2, h3, h4, h5⟩ := comp_nx (vs := [s]) (t := .nm s) (cond := (evsB cf .nil).t) (el := (evB cf (.tup (.cons (.var s) (.cons (.bin .Add (.var s) (.int 1)) .nil)))).v) (fun j S acc => acc = ((chn j).map prD).map .im ∧ S.io = io ∧ wipeS S.ρ [s] = wipeS ρ [s] ∧ S.ρ.length = ρ.length) 0 (rngD 0 (m : Int)) ⟨ρ, io⟩ [] 0 ⟨rfl, rfl, rfl, rfl⟩ (by rw [rng_lenN]; simp; omega) (fun j d S acc hd ⟨h1, h2, h3, h4⟩ => by
    obtain ⟨rfl, hj⟩ := rng_get hd
    refine ⟨_, rfl, true, ⟨(wipeS S.ρ [s]).set s (.c (.im (.int (j : Int)))), S.io⟩, rfl, ?_⟩
    rw [if_pos rfl]
    have hg : ((wipeS S.ρ [s]).set s (.c (.im (.int (j : Int)))))[s]? = some (.c (.im (.int (j : Int)))) := by
      rw [List.getElem?_set_self (by rw [wipeS_len]; omega)]
    refine ⟨.im (prD (j, j + 1)), ⟨(wipeS S.ρ [s]).set s (.c (.im (.int (j : Int)))), S.io⟩, by simp [hg, prD], ?_, h2, ?_, ?_⟩
    · subst h1
      unfold chn
      rw [Nat.zero_add, List.range_succ]
      simp
    · rw [← h3]
      simp [wipeS, List.set_set]
    · simp [wipeS_len, h4])
  rw [x_comp, x_mkV_v, i_rg1 (n := m) hx (by omega), Option.bind_some]
  have him' : (ρ[s]?.getD .no).isIm = true := by rw [← List.getD_eq_getElem?_getD]; exact him
  rw [if_neg (by simp [him'])]
  simp only [List.map_cons, List.map_nil]
  rw [h1]
  rw [Nat.zero_add, rng_lenN] at h2
  simp only [Option.map_some, back_self h4, h3, h2]
end K04
namespace K04
open L2 Mi
theorem layer_row (cf : CF) (x1 x3 : Sl) (c2 : Cell) (a : Nat) (ha : a < 32) (x5 x6 : Sl) (p : List D) :
    ∃ (acc : List Cell) (S' : Sta), compL [5] (.nm 5) (evsB cf c30_2).t (evB cf e30_2).v (rngD 0 (40 : Nat)) ⟨[.io, x1, .c c2, x3, .c (.im (.int (a : Int))), x5, x6], some p⟩ [] = some (acc, S') ∧
      ∃ (x5 : Sl) (sub : List (Nat × Nat)), S' = ⟨[.io, x1, .c c2, x3, .c (.im (.int (a : Int))), x5, x6], some p⟩ ∧ acc = (sub.map prD).map .im ∧ (∀ q ∈ sub, q.1 < 40 ∧ q.2 < 40 ∧ q.1 / 8 < q.2 / 8) ∧ sub.length ≤ 0 + (rngD 0 ((40 : Nat) : Int)).length := by
  refine comp_nx (fun j S acc => ∃ (x5 : Sl) (sub : List (Nat × Nat)), S = ⟨[.io, x1, .c c2, x3, .c (.im (.int (a : Int))), x5, x6], some p⟩ ∧ acc = (sub.map prD).map .im ∧ (∀ q ∈ sub, q.1 < 40 ∧ q.2 < 40 ∧ q.1 / 8 < q.2 / 8) ∧ sub.length ≤ j) 0 _ _ [] 0 ⟨_, [], rfl, rfl, fun _ h => (nomatch h), by simp⟩ (by rw [rng_lenN]; simp) (fun j d S acc hd ⟨y5, sub, h1, h2, h3, h4⟩ => ?_)
  subst h1 h2
  obtain ⟨rfl, hj⟩ := rng_get hd
  refine ⟨_, rfl, decide ((j : Int) / 8 = (a : Int) / 8 + 1), ⟨[.io, x1, .c c2, x3, .c (.im (.int (a : Int))), .c (.im (.int (j : Int))), x6], some p⟩, ?_, ?_⟩
  · simp [c30_2, wipeS, o_fdiv]
    by_cases hv : (j : Int) / 8 = (a : Int) / 8 + 1 <;> simp [hv]
  · by_cases hv : (j : Int) / 8 = (a : Int) / 8 + 1
    · rw [if_pos (by simpa using hv)]
      refine ⟨.im (prD (a, j)), ⟨[.io, x1, .c c2, x3, .c (.im (.int (a : Int))), .c (.im (.int (j : Int))), x6], some p⟩, by simp [e30_2, prD], _, sub ++ [(a, j)], rfl, by simp, fun q hq => ?_, by simp; omega⟩
      rcases List.mem_append.mp hq with w | w
      · exact h3 q w
      · have : q = (a, j) := by simpa using w
        subst this
        refine ⟨by show a < 40; omega, hj, ?_⟩
        show a / 8 < j / 8
        omega
    · rw [if_neg (by simpa using hv)]
      exact ⟨_, sub, rfl, rfl, h3, by omega⟩
theorem layer_loop (cf : CF) (x1 x3 x6 : Sl) (p : List D) :
    ∃ S', loopL (.nm 4) (runs cf l30_1) (rngD 0 ((32 : Nat) : Int)) ⟨[.io, x1, .c (.im (.lst [])), x3, .no, .no, x6], some p⟩ = some (.nx S') ∧
      ∃ (x4 : Sl) (qs : List (Nat × Nat)), S' = ⟨[.io, x1, .c (.im (.lst (qs.map prD))), x3, x4, .no, x6], some p⟩ ∧ (∀ q ∈ qs, q.1 < 40 ∧ q.2 < 40 ∧ q.1 / 8 < q.2 / 8) ∧ qs.length ≤ 40 * (0 + (rngD 0 ((32 : Nat) : Int)).length) := by
  refine loop_nx (fun i S => ∃ (x4 : Sl) (qs : List (Nat × Nat)), S = ⟨[.io, x1, .c (.im (.lst (qs.map prD))), x3, x4, .no, x6], some p⟩ ∧ (∀ q ∈ qs, q.1 < 40 ∧ q.2 < 40 ∧ q.1 / 8 < q.2 / 8) ∧ qs.length ≤ 40 * i) _ _ 0 ⟨_, [], rfl, fun _ h => (nomatch h), by simp⟩ (fun j d S hd hi => ?_)
  obtain ⟨x4, qs, rfl, h2, h3⟩ := hi
  obtain ⟨rfl, hj⟩ := rng_get hd
  obtain ⟨acc, S1, e1, y5, sub, rfl, rfl, g1, g2⟩ := layer_row cf x1 x3 (.im (.lst (qs.map prD))) j hj .no x6 p
  rw [rng_lenN, Nat.zero_add] at g2
  rw [Nat.zero_add] at h3 ⊢
  have hc := o_cat (a := .im (.lst (qs.map prD))) (b := .ow ((sub.map prD).map .im)) (xs := qs.map prD) (ys := sub.map prD) rfl (ims_map _) (by simp; omega)
  have hcomp : (evB cf (.comp [("b", 5)] e30_2 (.nm 5) (.rng1 (.int 40)) c30_2)).v ⟨[.io, x1, .c (.im (.lst (qs.map prD))), x3, .c (.im (.int (j : Int))), .no, x6], some p⟩ =
      some (.own (.ow ((sub.map prD).map .im)), ⟨[.io, x1, .c (.im (.lst (qs.map prD))), x3, .c (.im (.int (j : Int))), .no, x6], some p⟩) := by
    rw [x_comp, x_mkV_v, i_rg1 (n := 40) rfl (by omega), Option.bind_some]
    rw [if_neg (by simp [Sl.isIm])]
    simp only [List.map_cons, List.map_nil]
    rw [e1]
    simp [backS]
  have hadd := e_bin (cf := cf) (op := .Add) (a := .var 2) (ra := .own (.im (.lst (qs.map prD)))) (S := ⟨[.io, x1, .c (.im (.lst (qs.map prD))), x3, .c (.im (.int (j : Int))), .no, x6], some p⟩) rfl hcomp rfl hc
  refine ⟨_, rfl, ⟨[.io, x1, .c (.im (.lst ((qs ++ sub).map prD))), x3, .c (.im (.int (j : Int))), .no, x6], some p⟩, .inl ?_, _, qs ++ sub, rfl, fun q hq => ?_, by rw [List.length_append]; omega⟩
  · unfold l30_1
    refine r_seq (S1 := ⟨[.io, x1, .c (.ow ((qs.map prD ++ sub.map prD).map .im)), x3, .c (.im (.int (j : Int))), .no, x6], some p⟩) ?_ ?_
    · rw [r_asg]
      show (((evB cf (.bin .Add (.var 2) (.comp [("b", 5)] e30_2 (.nm 5) (.rng1 (.int 40)) c30_2))).v ⟨[.io, x1, .c (.im (.lst (qs.map prD))), x3, .c (.im (.int (j : Int))), .no, x6], some p⟩).bind _) = _
      rw [hadd]; rfl
    · rw [r_frz, r_nil, ← List.map_append]
      show some (Out.nx ⟨[.io, _, .c (.im (.lst (Cell.frzs (((qs ++ sub).map prD).map .im)))), _, _, _, _], _⟩) = _
      rw [x_frzs_map]
  · rcases List.mem_append.mp hq with z | z
    · exact h2 q z
    · exact g1 q z
end K04
namespace K04
open L2 Mi
theorem cut_le (xs : List D) (m : Nat) : (∀ d ∈ cutL xs none (some (m : Int)), d ∈ xs) ∧ (cutL xs none (some (m : Int))).length ≤ m := by
  unfold cutL
  refine ⟨fun d hd => List.mem_of_mem_drop (List.mem_of_mem_take hd), ?_⟩
  rw [List.length_take]
  have h1 : HT.sIx xs.length xs.length (some (m : Int)) = min m xs.length := HT.sIx_nat xs.length xs.length m
  have h2 : HT.sIx xs.length 0 none = 0 := HT.sIx_none _ _
  rw [h1, h2]
  omega
/-- the pairs ahead of the renaming -/
theorem great_pairs (k : Nat) (v : Nat) (hv : v < 3) (p : List D) (hp : PoolOk p) :
    ∃ (x4 : Sl) (ps : List (Nat × Nat)) (p' : List D), Good 40 ps ∧ ps.length ≤ 1600 ∧ PoolOk p' ∧
      ∀ (ss : MSs), runs (callF tab (k + 3)) (.cons (.ife (.cmp .Eq (.var 1) (.int 0)) (.cons (.asg (.nm 2) (.callIo 24 0 (.cons (.int 40) .nil))) (.frz [2] .nil)) .nil)
        (.cons (.ife (.cmp .Eq (.var 1) (.int 1)) (.cons (.asg (.nm 2) (.lst .nil)) (.frz [2] (.cons (.loop (.nm 4) (.rng1 (.int 32)) l30_1) .nil))) .nil) ss))
        ⟨[.io, .c (.im (.int (v : Int))), .c (.im (.lst ((chn 39).map prD))), .no, .no, .no, .no], some p⟩ = runs (callF tab (k + 3)) ss ⟨[.io, .c (.im (.int (v : Int))), .c (.im (.lst (ps.map prD))), .no, x4, .no, .no], some p'⟩ := by
  have hv' : v = 0 ∨ v = 1 ∨ v = 2 := by omega
  rcases hv' with rfl | rfl | rfl
  · obtain ⟨qs, p', e, h1, h2, h3⟩ := drawn_ok k 40 (by omega) p hp
    refine ⟨.no, qs, p', h1, by omega, h3, fun ss => ?_⟩
    have s1 := e_callIo (cf := callF tab (k + 3)) (f := 24) (i := 0) (es := .cons (.int 40) .nil) (S := ⟨[.io, .c (.im (.int ((0 : Nat) : Int))), .c (.im (.lst ((chn 39).map prD))), .no, .no, .no, .no], some p⟩) (S2 := ⟨[.io, .c (.im (.int ((0 : Nat) : Int))), .c (.im (.lst ((chn 39).map prD))), .no, .no, .no, .no], some p⟩) (rs := [.own (.im (.int 40))]) (cs := [.im (.int 40)]) (u := p) rfl rfl rfl rfl rfl rfl e
    have i1 : run (callF tab (k + 3)) (.ife (.cmp .Eq (.var 1) (.int 0)) (.cons (.asg (.nm 2) (.callIo 24 0 (.cons (.int 40) .nil))) (.frz [2] .nil)) .nil) ⟨[.io, .c (.im (.int ((0 : Nat) : Int))), .c (.im (.lst ((chn 39).map prD))), .no, .no, .no, .no], some p⟩ = some (.nx ⟨[.io, .c (.im (.int ((0 : Nat) : Int))), .c (.im (.lst (qs.map prD))), .no, .no, .no, .no], some p'⟩) := by
      rw [r_ife]
      show (some (true, (⟨[.io, .c (.im (.int ((0 : Nat) : Int))), .c (.im (.lst ((chn 39).map prD))), .no, .no, .no, .no], some p⟩ : Sta))).bind _ = _
      rw [Option.bind_some, if_pos rfl, r_cons, r_asg, s1]
      rfl
    rw [r_cons, i1]
    rfl
  · obtain ⟨S', e, x4, qs, rfl, h1, h2⟩ := layer_loop (callF tab (k + 3)) (.c (.im (.int ((1 : Nat) : Int)))) .no .no p
    rw [rng_lenN] at h2
    refine ⟨x4, qs, p, good_layers 40 qs (· / 8) (fun q hq => ⟨(h1 q hq).1, (h1 q hq).2.1⟩) (fun q hq => (h1 q hq).2.2), by omega, hp, fun ss => ?_⟩
    have i2 : run (callF tab (k + 3)) (.ife (.cmp .Eq (.var 1) (.int 1)) (.cons (.asg (.nm 2) (.lst .nil)) (.frz [2] (.cons (.loop (.nm 4) (.rng1 (.int 32)) l30_1) .nil))) .nil) ⟨[.io, .c (.im (.int ((1 : Nat) : Int))), .c (.im (.lst ((chn 39).map prD))), .no, .no, .no, .no], some p⟩ = some (.nx ⟨[.io, .c (.im (.int ((1 : Nat) : Int))), .c (.im (.lst (qs.map prD))), .no, x4, .no, .no], some p⟩) := by
      rw [r_ife]
      show (some (true, (⟨[.io, .c (.im (.int ((1 : Nat) : Int))), .c (.im (.lst ((chn 39).map prD))), .no, .no, .no, .no], some p⟩ : Sta))).bind _ = _
      rw [Option.bind_some, if_pos rfl]
      refine r_seq (S1 := ⟨[.io, .c (.im (.int ((1 : Nat) : Int))), .c (.ow []), .no, .no, .no, .no], some p⟩) rfl ?_
      rw [r_frz]
      exact r_seq (r_for (i_rg1 (n := 32) rfl (by omega)) e) rfl
    rw [r_cons]
    show (some (Out.nx (⟨[.io, .c (.im (.int ((1 : Nat) : Int))), .c (.im (.lst ((chn 39).map prD))), .no, .no, .no, .no], some p⟩ : Sta))).bind _ = _
    rw [Option.bind_some]
    show runs _ (.cons _ ss) _ = _
    rw [r_cons, i2]
    rfl
  · exact ⟨.no, chn 39, p, good_chain 40 39 (by omega) (by omega), by simp [chn], hp, fun ss => rfl⟩
end K04
namespace K04
open L2 Mi
theorem e_idiv (cf : CF) (S : Sta) (ds : List D) (h : S.ρ[6]? = some (.c (.im (.lst ds)))) (hz : ds.length ≤ 1600) :
    ∃ t : Nat, t ≤ 1601 ∧ (1 ≤ ds.length → ds.length * t ≤ 3200) ∧ (evB cf (.bin .Add (.int 1) (.bin .FloorDiv (.int 1600) (.blt "max" (.cons (.int 1) (.cons (.blt "len" (.cons (.var 6) .nil)) .nil)))))).v S = some (.own (.im (.int (t : Int))), S) := by
  have hl : (evB cf (.blt "max" (.cons (.int 1) (.cons (.blt "len" (.cons (.var 6) .nil)) .nil)))).v S = some (.own (.im (.int (if ((ds.length : Nat) : Int) > 1 then ((ds.length : Nat) : Int) else 1))), S) := by
    simp [h]
  have key : ∀ m : Nat, 1 ≤ m → m ≤ 1600 → (if ((ds.length : Nat) : Int) > 1 then ((ds.length : Nat) : Int) else 1) = (m : Int) → (evB cf (.bin .Add (.int 1) (.bin .FloorDiv (.int 1600) (.blt "max" (.cons (.int 1) (.cons (.blt "len" (.cons (.var 6) .nil)) .nil)))))).v S = some (.own (.im (.int ((1 + 1600 / m : Nat) : Int))), S) := fun m h1 h2 e => by
    rw [e] at hl
    have hd := e_bin (cf := cf) (op := .FloorDiv) (a := .int 1600) (S := S) (ra := .own (.im (.int 1600))) rfl hl rfl (o_fdiv (i := 1600) (j := (m : Int)) ⟨by omega, by omega⟩)
    have ha := e_bin (cf := cf) (op := .Add) (a := .int 1) (S := S) (ra := .own (.im (.int 1))) rfl hd rfl rfl
    rw [ha]
    have : (1 : Int) + 1600 / (m : Int) = ((1 + 1600 / m : Nat) : Int) := by simp
    rw [this]
  by_cases hc : ds.length ≤ 1
  · refine ⟨1 + 1600 / 1, by omega, fun _ => ?_, key 1 (by omega) (by omega) (by rw [if_neg (by omega)]; rfl)⟩
    have : ds.length = 1 := by omega
    rw [this]; omega
  · refine ⟨1 + 1600 / ds.length, ?_, fun _ => ?_, key ds.length (by omega) hz (by rw [if_pos (by omega)])⟩
    · have := Nat.div_le_self 1600 ds.length
      omega
    · have := Nat.mul_div_le 1600 ds.length
      rw [Nat.mul_add, Nat.mul_one]
      omega
end K04
namespace K04
open L2 Mi
/-- _law_great -/
theorem great_ok (k : Nat) (p : List D) (hp : PoolOk p) : ∃ (ps : List (Nat × Nat)) (p' : List D), callF tab (k + 4) 30 [] (some p) = some (.im (npD 40 ps), some p') ∧ Good 40 ps ∧ ps.length ≤ 1600 ∧ PoolOk p' := by
  obtain ⟨v, p1, hv, hp1, e1⟩ := asg_pick (k + 2) 1 3 (by omega) [.io, .no, .no, .no, .no, .no, .no] rfl (.int 3) (fun S => rfl) p hp
  obtain ⟨x4, ps, p2, g, hl, hp2, hss⟩ := great_pairs k v (by omega) p1 hp1
  obtain ⟨qs, p3, e3, g3, hl3, hp3⟩ := renamed_ok k 40 (by omega) ps (by omega) g p2 hp2
  have hch := chain_comp (callF tab (k + 3)) "k" 3 [.io, .no, .no, .no, .no, .no, .no] (some p1) (by simp) rfl 39 (by omega) e30_1 rfl (.int 39) rfl
  obtain ⟨t, ht1, ht2, e4⟩ := e_idiv (callF tab (k + 3)) ⟨[.io, .c (.im (.int (v : Int))), .c (.im (.lst (ps.map prD))), .no, x4, .no, .c (.im (.lst (qs.map prD)))], some p3⟩ (qs.map prD) rfl (by rw [List.length_map]; omega)
  rw [List.length_map] at ht2
  have hlt : qs.length * t ≤ 3200 := by
    rcases Nat.eq_zero_or_pos qs.length with z | z
    · rw [z]; omega
    · exact ht2 z
  have hrep := o_rep (a := .im (.lst (qs.map prD))) (k := (t : Int)) (xs := qs.map prD) rfl ⟨by omega, by omega, by rw [List.length_map, Int.toNat_natCast]; omega⟩
  have e5 := e_bin (cf := callF tab (k + 3)) (op := .Mult) (a := .var 6) (S := ⟨[.io, .c (.im (.int (v : Int))), .c (.im (.lst (ps.map prD))), .no, x4, .no, .c (.im (.lst (qs.map prD)))], some p3⟩) (ra := .own (.im (.lst (qs.map prD)))) rfl e4 rfl hrep
  have hsub : ∀ d ∈ cutL (List.replicate ((t : Int)).toNat (qs.map prD)).flatten none (some ((1600 : Nat) : Int)), d ∈ qs.map prD := fun d hd => by
    have := (cut_le _ 1600).1 d hd
    obtain ⟨l, hl, hd⟩ := List.mem_flatten.mp this
    rw [(List.mem_replicate.mp hl).2] at hd
    exact hd
  obtain ⟨rs, hrs, hmem⟩ := of_prD hsub
  have hlen : rs.length ≤ 1600 := by
    have := (cut_le (List.replicate ((t : Int)).toNat (qs.map prD)).flatten 1600).2
    rw [hrs, List.length_map] at this
    exact this
  obtain ⟨r, hr⟩ := g3.rk
  refine ⟨rs, p3, call_rt (ρ := [.io, .c (.im (.int (v : Int))), .c (.im (.lst (ps.map prD))), .no, x4, .no, .c (.im (.lst (qs.map prD)))]) rfl rfl rfl rfl ?_, ⟨fun q hq => g3.lt q (hmem q hq), r, fun q hq => hr q (hmem q hq)⟩, hlen, hp3⟩
  have e6 : (evB (callF tab (k + 3)) (.slc (.bin .Mult (.var 6) (.bin .Add (.int 1) (.bin .FloorDiv (.int 1600) (.blt "max" (.cons (.int 1) (.cons (.blt "len" (.cons (.var 6) .nil)) .nil)))))) .no (.int 1600))).v ⟨[.io, .c (.im (.int (v : Int))), .c (.im (.lst (ps.map prD))), .no, x4, .no, .c (.im (.lst (qs.map prD)))], some p3⟩ = some (.own (.ow ((rs.map prD).map .im)), ⟨[.io, .c (.im (.int (v : Int))), .c (.im (.lst (ps.map prD))), .no, x4, .no, .c (.im (.lst (qs.map prD)))], some p3⟩) := by
    rw [x_slc, x_mkV_v, e5, Option.bind_some]
    show ((Cell.ims ((List.replicate ((t : Int)).toNat (qs.map prD)).flatten.map .im)).map fun ds => (R.own (.ow ((cutL ds none (some 1600)).map .im)), _)) = _
    rw [ims_map]
    show some (R.own (.ow ((cutL (List.replicate ((t : Int)).toNat (qs.map prD)).flatten none (some ((1600 : Nat) : Int))).map .im)), _) = _
    rw [hrs]
  unfold f30
  refine r_seq (S1 := ⟨[.io, .c (.im (.int (v : Int))), .c (.ow (((chn 39).map prD).map .im)), .no, .no, .no, .no], some p1⟩) ?_ ?_
  · rw [r_par, x_cons_v]
    show (((evB (callF tab (k + 3)) (.callIo 17 0 (.cons (.int 3) .nil))).v ⟨[.io, .no, .no, .no, .no, .no, .no], some p⟩ |>.bind _) |>.bind _) = _
    rw [e1, Option.bind_some, x_cons_v]
    show ((((evB (callF tab (k + 3)) (.comp [("k", 3)] e30_1 (.nm 3) (.rng1 (.int 39)) .nil)).v ⟨[.io, .no, .no, .no, .no, .no, .no], some p1⟩ |>.bind _) |>.bind _) |>.bind _) = _
    rw [hch]
    rfl
  · rw [r_frz]
    show runs _ _ ⟨[.io, .c (.im (.int (v : Int))), .c (.im (.lst (Cell.frzs (((chn 39).map prD).map .im)))), .no, .no, .no, .no], some p1⟩ = _
    rw [x_frzs_map, hss]
    have s1 := e_callIo (cf := callF tab (k + 3)) (f := 21) (i := 0) (es := .cons (.int 40) (.cons (.var 2) .nil)) (S := ⟨[.io, .c (.im (.int (v : Int))), .c (.im (.lst (ps.map prD))), .no, x4, .no, .no], some p2⟩) (S2 := ⟨[.io, .c (.im (.int (v : Int))), .c (.im (.lst (ps.map prD))), .no, x4, .no, .no], some p2⟩) (rs := [.own (.im (.int 40)), .own (.im (.lst (ps.map prD)))]) (cs := [.im (.int 40), .im (.lst (ps.map prD))]) (u := p2) rfl rfl rfl rfl rfl rfl e3
    refine r_seq (S1 := ⟨[.io, .c (.im (.int (v : Int))), .c (.im (.lst (ps.map prD))), .no, x4, .no, .c (.ow ((qs.map prD).map .im))], some p3⟩) ?_ ?_
    · rw [r_asg, s1]; rfl
    · rw [r_frz]
      show runs _ _ ⟨[.io, .c (.im (.int (v : Int))), .c (.im (.lst (ps.map prD))), .no, x4, .no, .c (.im (.lst (Cell.frzs ((qs.map prD).map .im))))], some p3⟩ = _
      rw [x_frzs_map, r_cons, r_ret, x_tup, x_mkV_v, x_cons_v]
      show ((((some (R.own (.im (.int 40)), (⟨[.io, .c (.im (.int (v : Int))), .c (.im (.lst (ps.map prD))), .no, x4, .no, .c (.im (.lst (qs.map prD)))], some p3⟩ : Sta))).bind _).bind _).bind _).bind _ = _
      rw [Option.bind_some, x_cons_v, e6]
      show some (Out.rt (.im (.tup [.int 40, .lst (Cell.frzs ((rs.map prD).map .im))])) _) = _
      rw [x_frzs_map]
      rfl
end K04
namespace K04
open L2 Mi
theorem shps_nm (k : Nat) : ∀ row : List Nat, D.shps (k + 1) (row.map nmD) = true
  | [] => rfl
  | x :: row => by
    show ((nmD x).shp (k + 1) && D.shps (k + 1) (row.map nmD)) = true
    rw [shps_nm k row]; rfl
theorem notin_nat (x : Nat) (row : List Nat) : scmp .NotIn (.int (x : Int)) (.lst (row.map nmD)) = some (!decide (x ∈ row)) := by
  show (if (D.shp 60 (.int (x : Int)) && D.shps 59 (row.map nmD)) = true then some (!(row.map nmD).any fun z => z.eqv (.int (x : Int))) else none) = _
  rw [shps_nm 58 row]
  show some (!(row.map nmD).any fun z => z.eqv (.int (x : Int))) = _
  congr 2
  induction row with
  | nil => rfl
  | cons y row ih =>
    rw [List.map_cons, List.any_cons, ih]
    have : (nmD y).eqv (.int (x : Int)) = decide (x = y) := by
      show ((y : Int) == (x : Int)) = _
      by_cases h : x = y
      · subst h; simp
      · have h2 : ¬ ((y : Int) = (x : Int)) := by omega
        simp [h, h2]
    rw [this]
    by_cases h : x = y <;> simp [h]
/-- the places next to each place -/
def nxC (row : List Nat) : Cell := .ow (row.map fun i => .im (nmD i))
theorem nxC_frz (row : List Nat) : (nxC row).frz = .lst (row.map nmD) := by
  unfold nxC
  rw [x_frz_ow, x_frzs_map2]
theorem nxC_frzs : ∀ N : List (List Nat), Cell.frzs (N.map nxC) = N.map fun r => D.lst (r.map nmD)
  | [] => rfl
  | r :: N => by rw [List.map_cons, x_frzs_cons, nxC_frz, nxC_frzs N]; rfl
end K04
namespace K04
open L2 Mi
/-! orders put together: sizes, pairs, where each begins -/
structure Md (M L n : Nat) (ps : List (Nat × Nat)) : Prop where
  pos : 1 ≤ n
  le : n ≤ M
  good : Good n ps
  sz : ps.length ≤ L
abbrev Inn := List (Nat × List (Nat × Nat))
def At (I : Inn) (a : Nat) : Nat × List (Nat × Nat) := I.getD a (0, [])
structure Fst (I : Inn) (Fs : List Nat) : Prop where
  len : Fs.length = I.length + 1
  zero : Fs.getD 0 0 = 0
  step : ∀ k, k < I.length → Fs.getD (k + 1) 0 = Fs.getD k 0 + (At I k).1
theorem Fst.mono {I : Inn} {Fs : List Nat} (h : Fst I Fs) {a : Nat} : ∀ {b : Nat}, a ≤ b → b ≤ I.length → Fs.getD a 0 ≤ Fs.getD b 0
  | 0, h1, _ => by
    have : a = 0 := by omega
    rw [this]
    exact Nat.le_refl _
  | b + 1, h1, h2 => by
    by_cases e : a = b + 1
    · rw [e]; exact Nat.le_refl _
    · have h3 := h.mono (a := a) (b := b) (by omega) (by omega)
      have := h.step b (by omega)
      omega
theorem Fst.le {I : Inn} {Fs : List Nat} (h : Fst I Fs) {M : Nat} (hM : ∀ k, k < I.length → (At I k).1 ≤ M) : ∀ b, b ≤ I.length → Fs.getD b 0 ≤ b * M
  | 0, _ => by rw [h.zero]; exact Nat.zero_le _
  | b + 1, h2 => by
    have := h.le hM b (by omega)
    have := h.step b (by omega)
    have := hM b (by omega)
    rw [Nat.add_mul, Nat.one_mul]
    omega
theorem Fst.pos {I : Inn} {Fs : List Nat} (h : Fst I Fs) (hM : ∀ k, k < I.length → 1 ≤ (At I k).1) {b : Nat} (h1 : 1 ≤ b) (h2 : b ≤ I.length) : 1 ≤ Fs.getD b 0 := by
  have := h.mono (a := 1) h1 h2
  have := h.step 0 (by omega)
  have := hM 0 (by omega)
  have := h.zero
  simp only [Nat.zero_add] at *
  omega
theorem At_app {I : Inn} {x : Nat × List (Nat × Nat)} {k : Nat} (hk : k < I.length) : At (I ++ [x]) k = At I k := by
  unfold At
  rw [List.getD_eq_getElem?_getD, List.getElem?_append_left hk, ← List.getD_eq_getElem?_getD]
theorem At_last (I : Inn) (x : Nat × List (Nat × Nat)) : At (I ++ [x]) I.length = x := by
  unfold At
  rw [List.getD_eq_getElem?_getD, List.getElem?_append_right (Nat.le_refl _)]
  simp
theorem getD_app {Fs : List Nat} {v k : Nat} (hk : k < Fs.length) : (Fs ++ [v]).getD k 0 = Fs.getD k 0 := by
  rw [List.getD_eq_getElem?_getD, List.getElem?_append_left hk, ← List.getD_eq_getElem?_getD]
theorem getD_last (Fs : List Nat) (v : Nat) : (Fs ++ [v]).getD Fs.length 0 = v := by
  rw [List.getD_eq_getElem?_getD, List.getElem?_append_right (Nat.le_refl _)]
  simp
theorem Fst.app {I : Inn} {Fs : List Nat} (h : Fst I Fs) (x : Nat × List (Nat × Nat)) : Fst (I ++ [x]) (Fs ++ [Fs.getD I.length 0 + x.1]) := by
  have hl := h.len
  refine ⟨by rw [List.length_append, List.length_append, h.len]; rfl, ?_, fun k hk => ?_⟩
  · rw [getD_app (by omega), h.zero]
  · rw [List.length_append, List.length_singleton] at hk
    by_cases e : k = I.length
    · subst e
      rw [At_last, ← h.len, getD_last, getD_app (by omega)]
    · rw [At_app (by omega), getD_app (by omega), getD_app (by omega)]
      exact h.step k (by omega)
def InP (n0 : Nat) (ps0 : List (Nat × Nat)) (I : Inn) (Fs : List Nat) (q : Nat × Nat) : Prop :=
  (∃ a x y, a < n0 ∧ (x, y) ∈ (At I a).2 ∧ q = (Fs.getD a 0 + x, Fs.getD a 0 + y)) ∨
  (∃ a b, a < n0 ∧ b < n0 ∧ Pt ps0 a b ∧ Fs.getD a 0 ≤ q.1 ∧ q.1 < Fs.getD (a + 1) 0 ∧ Fs.getD b 0 ≤ q.2 ∧ q.2 < Fs.getD (b + 1) 0)
theorem bound1 (f : Nat → Nat) : ∀ n, ∃ W, ∀ x, x < n → f x < W
  | 0 => ⟨0, fun x h => absurd h (Nat.not_lt_zero _)⟩
  | n + 1 => by
    obtain ⟨W, h⟩ := bound1 f n
    refine ⟨W + f n + 1, fun x hx => ?_⟩
    by_cases e : x = n
    · subst e; omega
    · have := h x (by omega); omega
theorem bound2 (f : Nat → Nat → Nat) (m : Nat → Nat) : ∀ n, ∃ W, ∀ a, a < n → ∀ x, x < m a → f a x < W
  | 0 => ⟨0, fun x h => absurd h (Nat.not_lt_zero _)⟩
  | n + 1 => by
    obtain ⟨W, h⟩ := bound2 f m n
    obtain ⟨V, h'⟩ := bound1 (f n) (m n)
    refine ⟨W + V, fun a ha x hx => ?_⟩
    by_cases e : a = n
    · subst e; have := h' x hx; omega
    · have := h a (by omega) x hx; omega
theorem good_made {n0 : Nat} {ps0 : List (Nat × Nat)} {I : Inn} {Fs : List Nat} (g0 : Good n0 ps0) (hI : I.length = n0) (hF : Fst I Fs) (hg : ∀ a, a < n0 → Good (At I a).1 (At I a).2) {qs : List (Nat × Nat)} (h : ∀ q ∈ qs, InP n0 ps0 I Fs q) : Good (Fs.getD n0 0) qs := by
  obtain ⟨r0, hr0⟩ := g0.rk
  obtain ⟨R, hR⟩ := Classical.skolem.mp (fun a : Nat => show ∃ r : Nat → Nat, a < n0 → ∀ q ∈ (At I a).2, r q.1 < r q.2 from by
    by_cases ha : a < n0
    · obtain ⟨r, hr⟩ := (hg a ha).rk
      exact ⟨r, fun _ => hr⟩
    · exact ⟨id, fun z => absurd z ha⟩)
  obtain ⟨W, hW⟩ := bound2 R (fun a => (At I a).1) n0
  obtain ⟨blk, hb⟩ := Classical.skolem.mp (fun x : Nat => show ∃ c : Nat, ∀ a, a < n0 → Fs.getD a 0 ≤ x → x < Fs.getD (a + 1) 0 → c = a from by
    by_cases hx : ∃ a, a < n0 ∧ Fs.getD a 0 ≤ x ∧ x < Fs.getD (a + 1) 0
    · obtain ⟨c, h1, h2, h3⟩ := hx
      refine ⟨c, fun a ha h4 h5 => ?_⟩
      rcases Nat.lt_trichotomy c a with z | z | z
      · have := hF.mono (a := c + 1) (b := a) z (by omega); omega
      · exact z
      · have := hF.mono (a := a + 1) (b := c) z (by omega); omega
    · exact ⟨0, fun a h1 h2 h3 => absurd ⟨a, h1, h2, h3⟩ hx⟩)
  have htop : ∀ a, a < n0 → Fs.getD (a + 1) 0 ≤ Fs.getD n0 0 := fun a ha => hF.mono ha (by omega)
  refine ⟨fun q hq => ?_, fun x => r0 (blk x) * W + R (blk x) (x - Fs.getD (blk x) 0), fun q hq => ?_⟩
  · rcases h q hq with ⟨a, x, y, ha, hm, rfl⟩ | ⟨a, b, ha, hb, hp, h1, h2, h3, h4⟩
    · have := (hg a ha).lt _ hm
      have := hF.step a (by omega)
      have := htop a ha
      exact ⟨by show Fs.getD a 0 + x < _; simp only at *; omega, by show Fs.getD a 0 + y < _; simp only at *; omega⟩
    · have := htop a ha
      have := htop b hb
      exact ⟨by omega, by omega⟩
  · rcases h q hq with ⟨a, x, y, ha, hm, rfl⟩ | ⟨a, b, ha, hb', hp, h1, h2, h3, h4⟩
    · have hxy := (hg a ha).lt _ hm
      simp only at hxy
      have hs := hF.step a (by omega)
      have e1 := hb (Fs.getD a 0 + x) a ha (by omega) (by omega)
      have e2 := hb (Fs.getD a 0 + y) a ha (by omega) (by omega)
      have := hR a ha _ hm
      simp only [e1, e2, Nat.add_sub_cancel_left] at *
      omega
    · have e1 := hb q.1 a ha h1 h2
      have e2 := hb q.2 b hb' h3 h4
      have hr := hp.rank hr0
      have hs := hF.step a (by omega)
      have hw := hW a ha (q.1 - Fs.getD a 0) (by omega)
      simp only [e1, e2]
      have : (r0 a + 1) * W ≤ r0 b * W := Nat.mul_le_mul_right _ hr
      rw [Nat.add_mul, Nat.one_mul] at this
      omega
end K04
namespace K04
open L2 Mi
def outers : List (Nat × List (Nat × Nat)) := knots ++ [(2, []), (3, []), (2, chn 1), (3, chn 2)]
theorem outers_ok : ∀ q ∈ outers, 2 ≤ q.1 ∧ q.1 ≤ 6 ∧ Good q.1 q.2 ∧ (clo q.1 q.2).length ≤ 6 := by
  intro q hq
  simp only [outers, knots, List.cons_append, List.nil_append, List.mem_cons, List.not_mem_nil, or_false] at hq
  rcases hq with rfl | rfl | rfl | rfl | rfl | rfl | rfl | rfl | rfl
  · exact ⟨by decide, by decide, ⟨by decide, fun x => [0, 0, 1, 1].getD x 0, by decide⟩, by decide +kernel⟩
  · exact ⟨by decide, by decide, ⟨by decide, fun x => [0, 0, 1, 1, 0].getD x 0, by decide⟩, by decide +kernel⟩
  · exact ⟨by decide, by decide, ⟨by decide, fun x => [0, 0, 0, 1, 1, 1].getD x 0, by decide⟩, by decide +kernel⟩
  · exact ⟨by decide, by decide, ⟨by decide, fun x => [0, 0, 1, 1, 0, 1].getD x 0, by decide⟩, by decide +kernel⟩
  · exact ⟨by decide, by decide, ⟨by decide, fun x => [0, 1, 2, 0, 1].getD x 0, by decide⟩, by decide +kernel⟩
  · exact ⟨by decide, by decide, ⟨by decide, fun x => x, by decide⟩, by decide +kernel⟩
  · exact ⟨by decide, by decide, ⟨by decide, fun x => x, by decide⟩, by decide +kernel⟩
  · exact ⟨by decide, by decide, ⟨by decide, fun x => x, by decide⟩, by decide +kernel⟩
  · exact ⟨by decide, by decide, ⟨by decide, fun x => x, by decide⟩, by decide +kernel⟩
def mdS (deep v : Int) (n0 : Nat) (ps0 : List (Nat × Nat)) (x5 : Sl) (I : Inn) (qs : List (Nat × Nat)) (Fs : List Nat) (x9 x10 x11 x12 x13 x14 x15 : Sl) (p : List D) : Sta :=
  ⟨[.io, .c (.im (.int deep)), .c (.im (.int v)), .c (.im (.int (n0 : Int))), .c (.im (.lst (ps0.map prD))), x5, .c (.ow (I.map fun q => .im (npD q.1 q.2))), .c (.im (.lst (qs.map prD))), .c (nxC Fs), x9, x10, x11, x12, x13, x14, x15], some p⟩
theorem inner_step (k d M L : Nat) (hM : 1 ≤ M) (v : Int) (n0 : Nat) (ps0 : List (Nat × Nat)) (ih : ∀ p, PoolOk p → ∃ (n : Nat) (ps : List (Nat × Nat)) (p' : List D), callF tab (k + 2) 23 [.int (d : Int)] (some p) = some (.im (npD n ps), some p') ∧ Md M L n ps ∧ PoolOk p')
    (j : Nat) (hj : j ≤ 1000) (I : Inn) (Fs : List Nat) (hI : I.length = j) (hF : Fst I Fs) (x9 x10 : Sl) (p : List D) (hp : PoolOk p) :
    ∃ (m : Nat) (qs : List (Nat × Nat)) (y9 y10 : Sl) (p' : List D), runs (callF tab (k + 2)) l23_1 (mdS ((d + 1 : Nat) : Int) v n0 ps0 (.c (.im (.int (j : Int)))) I [] Fs x9 x10 .no .no .no .no .no p) =
      some (.nx (mdS ((d + 1 : Nat) : Int) v n0 ps0 (.c (.im (.int (j : Int)))) (I ++ [(m, qs)]) [] (Fs ++ [Fs.getD j 0 + m]) y9 y10 .no .no .no .no .no p')) ∧ Md M L m qs ∧ PoolOk p' := by
  have tail : ∀ (m : Nat) (qs : List (Nat × Nat)) (p : List D), runs (callF tab (k + 2)) (.cons (.app1 6 (.tup (.cons (.var 9) (.cons (.var 10) .nil)))) (.cons (.app1 8 (.bin .Add (.idx (.var 8) (.var 5)) (.var 9))) .nil)) (mdS ((d + 1 : Nat) : Int) v n0 ps0 (.c (.im (.int (j : Int)))) I [] Fs (.c (.im (.int (m : Int)))) (.c (.im (.lst (qs.map prD)))) .no .no .no .no .no p) =
      some (.nx (mdS ((d + 1 : Nat) : Int) v n0 ps0 (.c (.im (.int (j : Int)))) (I ++ [(m, qs)]) [] (Fs ++ [Fs.getD j 0 + m]) (.c (.im (.int (m : Int)))) (.c (.im (.lst (qs.map prD)))) .no .no .no .no .no p)) := fun m qs p => by
    refine r_seq (S1 := mdS ((d + 1 : Nat) : Int) v n0 ps0 (.c (.im (.int (j : Int)))) (I ++ [(m, qs)]) [] Fs (.c (.im (.int (m : Int)))) (.c (.im (.lst (qs.map prD)))) .no .no .no .no .no p) ?_ ?_
    · rw [r_app1]
      show ((if (I.map fun q => Cell.im (npD q.1 q.2)).length < 16777216 then some ((I.map fun q => Cell.im (npD q.1 q.2)) ++ [Cell.im (npD m qs)]) else none).map fun cs' => (⟨[.io, .c (.im (.int ((d + 1 : Nat) : Int))), .c (.im (.int v)), .c (.im (.int (n0 : Int))), .c (.im (.lst (ps0.map prD))), .c (.im (.int (j : Int))), .c (.ow cs'), .c (.im (.lst [])), .c (nxC Fs), .c (.im (.int (m : Int))), .c (.im (.lst (qs.map prD))), .no, .no, .no, .no, .no], some p⟩ : Sta)).map Out.nx = _
      rw [if_pos (by rw [List.length_map]; omega)]
      simp [mdS]
    · have g1 : Fs[j]? = some (Fs.getD j 0) := by rw [List.getD_eq_getElem?_getD, List.getElem?_eq_getElem (by rw [hF.len]; omega)]; rfl
      have a1 : atI (Fs.map fun i => Cell.im (nmD i)) (j : Int) = some (.im (nmD (Fs.getD j 0))) := by rw [Mi.atI_nat, List.getElem?_map, g1]; rfl
      have ei : ∀ S : Sta, S.ρ[8]? = some (.c (nxC Fs)) → S.ρ[5]? = some (.c (.im (.int (j : Int)))) → (evB (callF tab (k + 2)) (.idx (.var 8) (.var 5))).v S = some (.own (.im (nmD (Fs.getD j 0))), S) := fun S h8 h5 => by
        simp only [x_idx, x_mkV_v, x_var, x_rdV, h8, h5, nxC, Option.map_some, Option.bind_some, u_var, Bool.not_true, Bool.and_false, Bool.false_eq_true, if_false, i_bo, a1]
      refine r_seq (S1 := mdS ((d + 1 : Nat) : Int) v n0 ps0 (.c (.im (.int (j : Int)))) (I ++ [(m, qs)]) [] (Fs ++ [Fs.getD j 0 + m]) (.c (.im (.int (m : Int)))) (.c (.im (.lst (qs.map prD)))) .no .no .no .no .no p) ?_ rfl
      have ea := e_bin (cf := callF tab (k + 2)) (op := .Add) (b := .var 9) (S := mdS ((d + 1 : Nat) : Int) v n0 ps0 (.c (.im (.int (j : Int)))) (I ++ [(m, qs)]) [] Fs (.c (.im (.int (m : Int)))) (.c (.im (.lst (qs.map prD)))) .no .no .no .no .no p) (rb := .own (.im (.int (m : Int)))) (c := .im (nmD (Fs.getD j 0 + m))) (ei _ rfl rfl) rfl rfl rfl
      rw [r_app1, if_neg (by simp [mdS, nxC]), ea]
      show ((if (Fs.map fun i => Cell.im (nmD i)).length < 16777216 then some ((Fs.map fun i => Cell.im (nmD i)) ++ [Cell.im (nmD (Fs.getD j 0 + m))]) else none).map fun cs' => (⟨[.io, .c (.im (.int ((d + 1 : Nat) : Int))), .c (.im (.int v)), .c (.im (.int (n0 : Int))), .c (.im (.lst (ps0.map prD))), .c (.im (.int (j : Int))), .c (.ow ((I ++ [(m, qs)]).map fun q => .im (npD q.1 q.2))), .c (.im (.lst [])), .c (.ow cs'), .c (.im (.int (m : Int))), .c (.im (.lst (qs.map prD))), .no, .no, .no, .no, .no], some p⟩ : Sta)).map Out.nx = _
      rw [if_pos (by rw [List.length_map, hF.len]; omega)]
      simp [mdS, nxC]
  obtain ⟨w, p1, hw, hp1, e1⟩ := asg_pick (k + 1) 9 3 (by omega) (mdS ((d + 1 : Nat) : Int) v n0 ps0 (.c (.im (.int (j : Int)))) I [] Fs (.c (.im (.int 1))) (.c (.im (.lst []))) .no .no .no .no .no p).ρ rfl (.int 3) (fun S => rfl) p hp
  have hc : (evB (callF tab (k + 2)) (.cmp .Eq (.callIo 17 0 (.cons (.int 3) .nil)) (.int 0))).t (mdS ((d + 1 : Nat) : Int) v n0 ps0 (.c (.im (.int (j : Int)))) I [] Fs (.c (.im (.int 1))) (.c (.im (.lst []))) .no .no .no .no .no p) = some (((w : Int) == 0), mdS ((d + 1 : Nat) : Int) v n0 ps0 (.c (.im (.int (j : Int)))) I [] Fs (.c (.im (.int 1))) (.c (.im (.lst []))) .no .no .no .no .no p1) := by
    rw [x_cmp, x_mkV_t]
    show (((evB (callF tab (k + 2)) (.callIo 17 0 (.cons (.int 3) .nil))).v ⟨(mdS ((d + 1 : Nat) : Int) v n0 ps0 (.c (.im (.int (j : Int)))) I [] Fs (.c (.im (.int 1))) (.c (.im (.lst []))) .no .no .no .no .no p).ρ, some p⟩).bind _).bind _ = _
    rw [e1]
    rfl
  unfold l23_1
  by_cases hw0 : w = 0
  · obtain ⟨m, qs, p2, e2, hm, hp2⟩ := ih p1 hp1
    refine ⟨m, qs, .c (.im (.int (m : Int))), .c (.im (.lst (qs.map prD))), p2, r_seq (S1 := mdS ((d + 1 : Nat) : Int) v n0 ps0 (.c (.im (.int (j : Int)))) I [] Fs (.c (.im (.int 1))) (.c (.ow [])) .no .no .no .no .no p) rfl ?_, hm, hp2⟩
    rw [r_frz]
    refine r_seq (S1 := mdS ((d + 1 : Nat) : Int) v n0 ps0 (.c (.im (.int (j : Int)))) I [] Fs (.c (.im (.int (m : Int)))) (.c (.im (.lst (qs.map prD)))) .no .no .no .no .no p2) ?_ (tail m qs p2)
    rw [r_ife]
    show ((evB (callF tab (k + 2)) (.cmp .Eq (.callIo 17 0 (.cons (.int 3) .nil)) (.int 0))).t (mdS ((d + 1 : Nat) : Int) v n0 ps0 (.c (.im (.int (j : Int)))) I [] Fs (.c (.im (.int 1))) (.c (.im (.lst []))) .no .no .no .no .no p)).bind _ = _
    rw [hc, Option.bind_some, if_pos (by simp [hw0])]
    have s1 := e_callIo (cf := callF tab (k + 2)) (f := 23) (i := 0) (es := .cons (.bin .Sub (.var 1) (.int 1)) .nil) (S := mdS ((d + 1 : Nat) : Int) v n0 ps0 (.c (.im (.int (j : Int)))) I [] Fs (.c (.im (.int 1))) (.c (.im (.lst []))) .no .no .no .no .no p1) (S2 := mdS ((d + 1 : Nat) : Int) v n0 ps0 (.c (.im (.int (j : Int)))) I [] Fs (.c (.im (.int 1))) (.c (.im (.lst []))) .no .no .no .no .no p1) (rs := [.own (.im (.int (((d + 1 : Nat) : Int) - 1)))]) (cs := [.im (.int (((d + 1 : Nat) : Int) - 1))]) (u := p1) (w := p2) (c := .im (npD m qs)) rfl rfl rfl rfl rfl rfl (by
      show callF tab (k + 2) 23 [.int (((d + 1 : Nat) : Int) - 1)] (some p1) = _
      rw [show (((d + 1 : Nat) : Int) - 1) = (d : Int) by omega]
      exact e2)
    refine r_seq (S1 := mdS ((d + 1 : Nat) : Int) v n0 ps0 (.c (.im (.int (j : Int)))) I [] Fs (.c (.im (.int (m : Int)))) (.c (.im (.lst (qs.map prD)))) .no .no .no .no .no p2) ?_ rfl
    rw [r_asgT, s1]
    rfl
  · refine ⟨1, [], .c (.im (.int ((1 : Nat) : Int))), .c (.im (.lst (([] : List (Nat × Nat)).map prD))), p1, r_seq (S1 := mdS ((d + 1 : Nat) : Int) v n0 ps0 (.c (.im (.int (j : Int)))) I [] Fs (.c (.im (.int 1))) (.c (.ow [])) .no .no .no .no .no p) rfl ?_, ⟨Nat.le_refl _, hM, ⟨fun _ h => (nomatch h), id, fun _ h => (nomatch h)⟩, Nat.zero_le _⟩, hp1⟩
    rw [r_frz]
    refine r_seq (S1 := mdS ((d + 1 : Nat) : Int) v n0 ps0 (.c (.im (.int (j : Int)))) I [] Fs (.c (.im (.int 1))) (.c (.im (.lst []))) .no .no .no .no .no p1) ?_ (tail 1 [] p1)
    rw [r_ife]
    show ((evB (callF tab (k + 2)) (.cmp .Eq (.callIo 17 0 (.cons (.int 3) .nil)) (.int 0))).t (mdS ((d + 1 : Nat) : Int) v n0 ps0 (.c (.im (.int (j : Int)))) I [] Fs (.c (.im (.int 1))) (.c (.im (.lst []))) .no .no .no .no .no p)).bind _ = _
    rw [hc, Option.bind_some, if_neg (by simp; omega)]
    rfl
theorem inner_loop (k d M L : Nat) (hM : 1 ≤ M) (v : Int) (n0 : Nat) (hn0 : n0 ≤ 1000) (ps0 : List (Nat × Nat)) (ih : ∀ p, PoolOk p → ∃ (n : Nat) (ps : List (Nat × Nat)) (p' : List D), callF tab (k + 2) 23 [.int (d : Int)] (some p) = some (.im (npD n ps), some p') ∧ Md M L n ps ∧ PoolOk p')
    (x5 : Sl) (p : List D) (hp : PoolOk p) :
    ∃ S', loopL (.nm 5) (runs (callF tab (k + 2)) l23_1) (rngD 0 (n0 : Int)) (mdS ((d + 1 : Nat) : Int) v n0 ps0 x5 [] [] [0] .no .no .no .no .no .no .no p) = some (.nx S') ∧
      ∃ (x5 x9 x10 : Sl) (I : Inn) (Fs : List Nat) (p' : List D), S' = mdS ((d + 1 : Nat) : Int) v n0 ps0 x5 I [] Fs x9 x10 .no .no .no .no .no p' ∧ I.length = n0 ∧ Fst I Fs ∧ (∀ a, a < n0 → Md M L (At I a).1 (At I a).2) ∧ PoolOk p' := by
  obtain ⟨S', e, x5', x9', x10', I, Fs, p', h1, h2, h3, h4, h5⟩ := loop_nx (t := .nm 5) (b := runs (callF tab (k + 2)) l23_1) (fun i S => ∃ (x5 x9 x10 : Sl) (I : Inn) (Fs : List Nat) (p' : List D), S = mdS ((d + 1 : Nat) : Int) v n0 ps0 x5 I [] Fs x9 x10 .no .no .no .no .no p' ∧ I.length = i ∧ Fst I Fs ∧ (∀ a, a < i → Md M L (At I a).1 (At I a).2) ∧ PoolOk p')
    (rngD 0 (n0 : Int)) (mdS ((d + 1 : Nat) : Int) v n0 ps0 x5 [] [] [0] .no .no .no .no .no .no .no p) 0 ⟨x5, .no, .no, [], [0], p, rfl, rfl, ⟨rfl, rfl, fun k hk => absurd hk (Nat.not_lt_zero _)⟩, fun a ha => absurd ha (Nat.not_lt_zero _), hp⟩ (fun j dd S hd hi => by
    obtain ⟨x5, x9, x10, I, Fs, p', rfl, hI, hF, hmd, hp'⟩ := hi
    obtain ⟨rfl, hj⟩ := rng_get hd
    rw [Nat.zero_add] at hI hmd ⊢
    obtain ⟨m, qs, y9, y10, p2, e2, hm, hp2⟩ := inner_step k d M L hM v n0 ps0 ih j (by omega) I Fs hI hF x9 x10 p' hp'
    refine ⟨_, rfl, _, .inl e2, _, y9, y10, _, _, p2, rfl, by rw [List.length_append, hI]; rfl, by rw [← hI]; exact hF.app (m, qs), fun a ha => ?_, hp2⟩
    by_cases ea : a = j
    · subst ea
      rw [← hI, At_last]
      exact hm
    · rw [At_app (by omega)]
      exact hmd a (by omega))
  rw [Nat.zero_add, rng_lenN] at h2 h4
  exact ⟨S', e, x5', x9', x10', I, Fs, p', h1, h2, h3, h4, h5⟩
end K04
namespace K04
open L2 Mi
theorem mat_frzE (enc : Bool → D) (M : List (List Bool)) : (matC enc M).frz = .lst (M.map fun r => .lst (r.map enc)) := by
  unfold matC
  rw [x_frz_ow]
  congr 1
  induction M with
  | nil => rfl
  | cons r M ih =>
    rw [List.map_cons, x_frzs_cons, ih, List.map_cons]
    unfold rowC
    rw [x_frz_ow, x_frzs_map2]
def matB (M : List (List Bool)) : D := .lst (M.map fun r => .lst (r.map bitD))
section
variable {cf : CF} (deep v : Int) (n0 : Nat) (ps0 : List (Nat × Nat)) (x5 : Sl) (I : Inn) (Fs : List Nat) (x9 x10 : Sl)
def maS (qs : List (Nat × Nat)) (x12 x13 x14 x15 : Sl) (p : List D) : Sta := mdS deep v n0 ps0 x5 I qs Fs x9 x10 (.c (.im (matB (tabM n0 ps0)))) x12 x13 x14 x15 p
theorem grow {C : ME} {qs sub : List (Nat × Nat)} {x12 x13 x14 x15 : Sl} {p : List D} (hl : qs.length + sub.length ≤ 10000000)
    (h : (evB cf C).v (maS deep v n0 ps0 x5 I Fs x9 x10 qs x12 x13 x14 x15 p) = some (.own (.ow ((sub.map prD).map .im)), maS deep v n0 ps0 x5 I Fs x9 x10 qs x12 x13 x14 x15 p)) (ss : MSs) :
    runs cf (.cons (.asg (.nm 7) (.bin .Add (.var 7) C)) (.frz [7] ss)) (maS deep v n0 ps0 x5 I Fs x9 x10 qs x12 x13 x14 x15 p) = runs cf ss (maS deep v n0 ps0 x5 I Fs x9 x10 (qs ++ sub) x12 x13 x14 x15 p) := by
  have hc := o_cat (a := .im (.lst (qs.map prD))) (b := .ow ((sub.map prD).map .im)) (xs := qs.map prD) (ys := sub.map prD) rfl (ims_map _) (by rw [List.length_map, List.length_map]; omega)
  have hadd := e_bin (cf := cf) (op := .Add) (a := .var 7) (ra := .own (.im (.lst (qs.map prD)))) (S := maS deep v n0 ps0 x5 I Fs x9 x10 qs x12 x13 x14 x15 p) rfl h rfl hc
  rw [r_cons, r_asg, hadd, ← List.map_append]
  show runs cf (.frz [7] ss) ⟨[.io, .c (.im (.int deep)), .c (.im (.int v)), .c (.im (.int (n0 : Int))), .c (.im (.lst (ps0.map prD))), x5, .c (.ow (I.map fun q => .im (npD q.1 q.2))), .c (.ow (((qs ++ sub).map prD).map .im)), .c (nxC Fs), x9, x10, .c (.im (matB (tabM n0 ps0))), x12, x13, x14, x15], some p⟩ = _
  rw [r_frz]
  show runs cf ss ⟨[.io, .c (.im (.int deep)), .c (.im (.int v)), .c (.im (.int (n0 : Int))), .c (.im (.lst (ps0.map prD))), x5, .c (.ow (I.map fun q => .im (npD q.1 q.2))), .c (.im (.lst (Cell.frzs (((qs ++ sub).map prD).map .im)))), .c (nxC Fs), x9, x10, .c (.im (matB (tabM n0 ps0))), x12, x13, x14, x15], some p⟩ = _
  rw [x_frzs_map]
  rfl
theorem first_at {e : ME} {S : Sta} {b : Nat} (hb : b < Fs.length) (h8 : S.ρ[8]? = some (.c (nxC Fs))) (he : (evB cf e).v S = some (.own (.im (.int (b : Int))), S)) (hp : e.pure = true) : (evB cf (.idx (.var 8) e)).v S = some (.own (.im (.int ((Fs.getD b 0 : Nat) : Int))), S) := by
  have g1 : Fs[b]? = some (Fs.getD b 0) := by rw [List.getD_eq_getElem?_getD, List.getElem?_eq_getElem hb]; rfl
  have a1 : atI (Fs.map fun i => Cell.im (nmD i)) (b : Int) = some (.im (nmD (Fs.getD b 0))) := by rw [Mi.atI_nat, List.getElem?_map, g1]; rfl
  refine e_idx (S1 := S) (ra := .bor (nxC Fs)) (k := (b : Int)) ?_ he hp (by show ((atI (Fs.map fun i => Cell.im (nmD i)) (b : Int)).map _) = _; rw [a1]; rfl)
  simp [h8, nxC]
def yL (x b : Nat) : List (Nat × Nat) := (List.range (Fs.getD (b + 1) 0 - Fs.getD b 0)).map fun i => (x, Fs.getD b 0 + i)
theorem y_comp (hbig : ∀ i, Fs.getD i 0 ≤ 100000) (qs : List (Nat × Nat)) (x12 : Sl) (x : Nat) (x14 : Sl) (h14 : x14.isIm = true) (b : Nat) (hb : b + 1 < Fs.length) (p : List D) :
    (evB cf (.comp [("y", 14)] e23_3 (.nm 14) (.rng2 (.idx (.var 8) (.var 15)) (.idx (.var 8) (.bin .Add (.var 15) (.int 1)))) .nil)).v (maS deep v n0 ps0 x5 I Fs x9 x10 qs x12 (.c (.im (.int (x : Int)))) x14 (.c (.im (.int (b : Int)))) p) =
      some (.own (.ow (((yL Fs x b).map prD).map .im)), maS deep v n0 ps0 x5 I Fs x9 x10 qs x12 (.c (.im (.int (x : Int)))) x14 (.c (.im (.int (b : Int)))) p) := by
  have hb1 := hbig b
  have hb2 := hbig (b + 1)
  obtain ⟨acc, S1, c1, y14, rfl, h2⟩ := comp_nx (vs := [14]) (t := .nm 14) (cond := (evsB cf .nil).t) (el := (evB cf e23_3).v)
    (fun j S acc => ∃ (y14 : Sl), S = maS deep v n0 ps0 x5 I Fs x9 x10 qs x12 (.c (.im (.int (x : Int)))) y14 (.c (.im (.int (b : Int)))) p ∧ acc = (((List.range j).map fun i => (x, Fs.getD b 0 + i)).map prD).map .im) 0 (rngD ((Fs.getD b 0 : Nat) : Int) ((Fs.getD (b + 1) 0 : Nat) : Int))
    (maS deep v n0 ps0 x5 I Fs x9 x10 qs x12 (.c (.im (.int (x : Int)))) x14 (.c (.im (.int (b : Int)))) p) [] 0 ⟨x14, rfl, rfl⟩ (by rw [rng_len2, List.length_nil]; omega) (fun j d S acc hd ⟨y14, h1, h2⟩ => by
      subst h1 h2
      obtain ⟨rfl, hj⟩ := rng_get2 hd
      refine ⟨_, rfl, true, maS deep v n0 ps0 x5 I Fs x9 x10 qs x12 (.c (.im (.int (x : Int)))) (.c (.im (.int ((Fs.getD b 0 + j : Nat) : Int)))) (.c (.im (.int (b : Int)))) p, rfl, ?_⟩
      rw [if_pos rfl]
      refine ⟨.im (prD (x, Fs.getD b 0 + j)), maS deep v n0 ps0 x5 I Fs x9 x10 qs x12 (.c (.im (.int (x : Int)))) (.c (.im (.int ((Fs.getD b 0 + j : Nat) : Int)))) (.c (.im (.int (b : Int)))) p, rfl, _, rfl, ?_⟩
      rw [Nat.zero_add, List.range_succ]
      simp)
  have e1 := first_at (cf := cf) Fs (e := .var 15) (S := maS deep v n0 ps0 x5 I Fs x9 x10 qs x12 (.c (.im (.int (x : Int)))) x14 (.c (.im (.int (b : Int)))) p) (b := b) (by omega) rfl rfl rfl
  have e2 := first_at (cf := cf) Fs (e := .bin .Add (.var 15) (.int 1)) (S := maS deep v n0 ps0 x5 I Fs x9 x10 qs x12 (.c (.im (.int (x : Int)))) x14 (.c (.im (.int (b : Int)))) p) (b := b + 1) hb rfl rfl rfl
  rw [x_comp, x_mkV_v, i_rg2 e1 e2 (by omega) (by omega), Option.bind_some]
  rw [if_neg (by simp [maS, mdS, h14])]
  simp only [List.map_cons, List.map_nil]
  rw [c1]
  rw [Nat.zero_add, rng_len2] at h2
  rw [h2]
  simp [backS, maS, mdS, yL]
theorem x_loop (hbig : ∀ i, Fs.getD i 0 ≤ 100000) (qs : List (Nat × Nat)) (hq : qs.length ≤ 1000000) (x12 x13 x14 : Sl) (h13 : x13.isIm = true) (h14 : x14.isIm = true) (a b : Nat) (hb : b + 1 < Fs.length) (M : Nat) (hM : M ≤ 100) (ha1 : Fs.getD (a + 1) 0 - Fs.getD a 0 ≤ M) (hb1 : Fs.getD (b + 1) 0 - Fs.getD b 0 ≤ M) (p : List D) :
    ∃ S', loopL (.nm 13) (runs cf l23_4) (rngD ((Fs.getD a 0 : Nat) : Int) ((Fs.getD (a + 1) 0 : Nat) : Int)) (maS deep v n0 ps0 x5 I Fs x9 x10 qs x12 x13 x14 (.c (.im (.int (b : Int)))) p) = some (.nx S') ∧
      ∃ (x13 : Sl) (qs' : List (Nat × Nat)), S' = maS deep v n0 ps0 x5 I Fs x9 x10 qs' x12 x13 x14 (.c (.im (.int (b : Int)))) p ∧ (∀ q ∈ qs', q ∈ qs ∨ (Fs.getD a 0 ≤ q.1 ∧ q.1 < Fs.getD (a + 1) 0 ∧ Fs.getD b 0 ≤ q.2 ∧ q.2 < Fs.getD (b + 1) 0)) ∧ qs'.length ≤ qs.length + M * M ∧ x13.isIm = true := by
  obtain ⟨S', e, y13, qs', h1, h2, h3, h4⟩ := loop_nx (t := .nm 13) (b := runs cf l23_4) (fun i S => ∃ (x13 : Sl) (qs' : List (Nat × Nat)), S = maS deep v n0 ps0 x5 I Fs x9 x10 qs' x12 x13 x14 (.c (.im (.int (b : Int)))) p ∧ (∀ q ∈ qs', q ∈ qs ∨ (Fs.getD a 0 ≤ q.1 ∧ q.1 < Fs.getD (a + 1) 0 ∧ Fs.getD b 0 ≤ q.2 ∧ q.2 < Fs.getD (b + 1) 0)) ∧ qs'.length ≤ qs.length + i * M ∧ x13.isIm = true)
    (rngD ((Fs.getD a 0 : Nat) : Int) ((Fs.getD (a + 1) 0 : Nat) : Int)) (maS deep v n0 ps0 x5 I Fs x9 x10 qs x12 x13 x14 (.c (.im (.int (b : Int)))) p) 0 ⟨x13, qs, rfl, fun q hq => .inl hq, by omega, h13⟩ (fun j d S hd hi => by
    obtain ⟨x13, qs', rfl, h2, h3, _⟩ := hi
    obtain ⟨rfl, hj⟩ := rng_get2 hd
    rw [Nat.zero_add] at h3 ⊢
    have hjM : j * M ≤ 100 * 100 := Nat.mul_le_mul (by omega) hM
    have hyl : (yL Fs (Fs.getD a 0 + j) b).length ≤ M := by unfold yL; rw [List.length_map, List.length_range]; exact hb1
    have hy := y_comp (cf := cf) deep v n0 ps0 x5 I Fs x9 x10 hbig qs' x12 (Fs.getD a 0 + j) x14 h14 b hb p
    refine ⟨_, rfl, maS deep v n0 ps0 x5 I Fs x9 x10 (qs' ++ yL Fs (Fs.getD a 0 + j) b) x12 (.c (.im (.int ((Fs.getD a 0 + j : Nat) : Int)))) x14 (.c (.im (.int (b : Int)))) p, .inl (grow deep v n0 ps0 x5 I Fs x9 x10 (by omega) hy .nil), _, _, rfl, fun q hq => ?_, by rw [List.length_append, Nat.add_mul, Nat.one_mul]; omega, rfl⟩
    rcases List.mem_append.mp hq with z | z
    · exact h2 q z
    · unfold yL at z
      obtain ⟨i, hi, rfl⟩ := List.mem_map.mp z
      have := List.mem_range.mp hi
      exact .inr ⟨by show Fs.getD a 0 ≤ Fs.getD a 0 + j; omega, hj, by show Fs.getD b 0 ≤ Fs.getD b 0 + i; omega, by show Fs.getD b 0 + i < _; omega⟩)
  rw [Nat.zero_add, rng_len2] at h3
  have : (Fs.getD (a + 1) 0 - Fs.getD a 0) * M ≤ M * M := Nat.mul_le_mul_right _ ha1
  exact ⟨S', e, y13, qs', h1, h2, by omega, h4⟩
end
end K04
namespace K04
open L2 Mi
section
variable {cf : CF} (deep v : Int) (n0 : Nat) (ps0 : List (Nat × Nat)) (x5 : Sl) (I : Inn) (Fs : List Nat) (x9 x10 : Sl)
theorem b_loop (hn0 : n0 ≤ 6) (hps : ∀ q ∈ ps0, q.1 < n0 ∧ q.2 < n0) (hsq : Sq n0 (tabM n0 ps0)) (hlen : Fs.length = n0 + 1) (hbig : ∀ i, Fs.getD i 0 ≤ 100000) (M : Nat) (hM : M ≤ 100) (hw : ∀ i, i < n0 → Fs.getD (i + 1) 0 - Fs.getD i 0 ≤ M) (qs : List (Nat × Nat)) (hq : qs.length ≤ 900000) (x13 x14 x15 : Sl) (h13 : x13.isIm = true) (h14 : x14.isIm = true) (a : Nat) (ha : a < n0) (p : List D) :
    ∃ S', loopL (.nm 15) (runs cf l23_3) (rngD 0 (n0 : Int)) (maS deep v n0 ps0 x5 I Fs x9 x10 qs (.c (.im (.int (a : Int)))) x13 x14 x15 p) = some (.nx S') ∧
      ∃ (x13 x15 : Sl) (qs' : List (Nat × Nat)), S' = maS deep v n0 ps0 x5 I Fs x9 x10 qs' (.c (.im (.int (a : Int)))) x13 x14 x15 p ∧ (∀ q ∈ qs', q ∈ qs ∨ InP n0 ps0 I Fs q) ∧ qs'.length ≤ qs.length + (rowL (tabM n0 ps0) a n0).length * (M * M) ∧ x13.isIm = true := by
  obtain ⟨S', e, y13, y15, qs', h1, h2, h3, h4⟩ := loop_nx (t := .nm 15) (b := runs cf l23_3) (fun i S => ∃ (x13 x15 : Sl) (qs' : List (Nat × Nat)), S = maS deep v n0 ps0 x5 I Fs x9 x10 qs' (.c (.im (.int (a : Int)))) x13 x14 x15 p ∧ (∀ q ∈ qs', q ∈ qs ∨ InP n0 ps0 I Fs q) ∧ qs'.length ≤ qs.length + (rowL (tabM n0 ps0) a i).length * (M * M) ∧ x13.isIm = true)
    (rngD 0 (n0 : Int)) (maS deep v n0 ps0 x5 I Fs x9 x10 qs (.c (.im (.int (a : Int)))) x13 x14 x15 p) 0 ⟨x13, x15, qs, rfl, fun q hq => .inl hq, by omega, h13⟩ (fun j d S hd hi => by
    obtain ⟨x13, x15, qs', rfl, h2, h3, h13⟩ := hi
    obtain ⟨rfl, hj⟩ := rng_get hd
    rw [Nat.zero_add] at h3 ⊢
    rw [rowL_succ]
    obtain ⟨r, g1, g2, g3⟩ := hsq.get' ha
    have hb : r[j]? = some (bitM (tabM n0 ps0) a j) := by
      unfold bitM
      rw [g3, List.getD_eq_getElem?_getD, List.getElem?_eq_getElem (by omega)]; rfl
    have a1 : atI ((tabM n0 ps0).map fun r => D.lst (r.map bitD)) (a : Int) = some (.lst (r.map bitD)) := by rw [Mi.atI_nat, List.getElem?_map, g1]; rfl
    have a2 : atI (r.map bitD) (j : Int) = some (bitD (bitM (tabM n0 ps0) a j)) := by rw [Mi.atI_nat, List.getElem?_map, hb]; rfl
    have hc : (evB cf (.cmp .Eq (.idx (.idx (.var 11) (.var 12)) (.var 15)) (.int 1))).t (maS deep v n0 ps0 x5 I Fs x9 x10 qs' (.c (.im (.int (a : Int)))) x13 x14 (.c (.im (.int (j : Int)))) p) = some (bitM (tabM n0 ps0) a j, maS deep v n0 ps0 x5 I Fs x9 x10 qs' (.c (.im (.int (a : Int)))) x13 x14 (.c (.im (.int (j : Int)))) p) := by
      have i1 := e_idx (cf := cf) (a := .var 11) (b := .var 12) (S := maS deep v n0 ps0 x5 I Fs x9 x10 qs' (.c (.im (.int (a : Int)))) x13 x14 (.c (.im (.int (j : Int)))) p) (ra := .own (.im (matB (tabM n0 ps0)))) rfl rfl rfl (r := .own (.im (.lst (r.map bitD)))) (k := (a : Int)) (by show (atI ((tabM n0 ps0).map fun r => D.lst (r.map bitD)) (a : Int)).map _ = _; rw [a1]; rfl)
      have i2 := e_idx (cf := cf) (b := .var 15) i1 (k := (j : Int)) rfl rfl (r := .own (.im (bitD (bitM (tabM n0 ps0) a j)))) (by show (atI (r.map bitD) (j : Int)).map _ = _; rw [a2]; rfl)
      refine e_cmpT (cf := cf) i2 (b := .int 1) rfl rfl ?_
      cases bitM (tabM n0 ps0) a j <;> rfl
    have hrl := rowL_len (tabM n0 ps0) a j
    have hMM : M * M ≤ 100 * 100 := Nat.mul_le_mul hM hM
    have hrM : (rowL (tabM n0 ps0) a j).length * (M * M) ≤ 6 * (100 * 100) := Nat.mul_le_mul (by omega) hMM
    cases hbit : bitM (tabM n0 ps0) a j with
    | true =>
      rw [hbit] at hc
      obtain ⟨S2, e2, y13, qs2, rfl, k2, k3, k4⟩ := x_loop (cf := cf) deep v n0 ps0 x5 I Fs x9 x10 hbig qs' (by omega) (.c (.im (.int (a : Int)))) x13 x14 h13 h14 a j (by omega) M hM (hw a ha) (hw j hj) p
      refine ⟨_, rfl, maS deep v n0 ps0 x5 I Fs x9 x10 qs2 (.c (.im (.int (a : Int)))) y13 x14 (.c (.im (.int (j : Int)))) p, .inl ?_, _, _, _, rfl, fun q hq => ?_, ?_, k4⟩
      · unfold l23_3
        refine r_seq (S1 := maS deep v n0 ps0 x5 I Fs x9 x10 qs2 (.c (.im (.int (a : Int)))) y13 x14 (.c (.im (.int (j : Int)))) p) ?_ rfl
        rw [r_ife]
        show ((evB cf (.cmp .Eq (.idx (.idx (.var 11) (.var 12)) (.var 15)) (.int 1))).t (maS deep v n0 ps0 x5 I Fs x9 x10 qs' (.c (.im (.int (a : Int)))) x13 x14 (.c (.im (.int (j : Int)))) p)).bind _ = _
        rw [hc, Option.bind_some, if_pos (by rfl)]
        have f1 := first_at (cf := cf) Fs (e := .var 12) (S := maS deep v n0 ps0 x5 I Fs x9 x10 qs' (.c (.im (.int (a : Int)))) x13 x14 (.c (.im (.int (j : Int)))) p) (b := a) (by omega) rfl rfl rfl
        have f2 := first_at (cf := cf) Fs (e := .bin .Add (.var 12) (.int 1)) (S := maS deep v n0 ps0 x5 I Fs x9 x10 qs' (.c (.im (.int (a : Int)))) x13 x14 (.c (.im (.int (j : Int)))) p) (b := a + 1) (by omega) rfl rfl rfl
        have hb1 := hbig a
        have hb2 := hbig (a + 1)
        exact r_seq (r_for (i_rg2 f1 f2 (by omega) (by omega)) e2) rfl
      · rcases k2 q hq with z | z
        · exact h2 q z
        · exact .inr (.inr ⟨a, j, ha, hj, (tab_pt hps ha hj).mp hbit, z⟩)
      · rw [if_pos rfl, List.length_append, List.length_singleton, Nat.add_mul, Nat.one_mul]
        omega
    | false =>
      rw [hbit] at hc
      refine ⟨_, rfl, maS deep v n0 ps0 x5 I Fs x9 x10 qs' (.c (.im (.int (a : Int)))) x13 x14 (.c (.im (.int (j : Int)))) p, .inl ?_, _, _, _, rfl, h2, ?_, h13⟩
      · unfold l23_3
        refine r_seq (S1 := maS deep v n0 ps0 x5 I Fs x9 x10 qs' (.c (.im (.int (a : Int)))) x13 x14 (.c (.im (.int (j : Int)))) p) ?_ rfl
        rw [r_ife]
        show ((evB cf (.cmp .Eq (.idx (.idx (.var 11) (.var 12)) (.var 15)) (.int 1))).t (maS deep v n0 ps0 x5 I Fs x9 x10 qs' (.c (.im (.int (a : Int)))) x13 x14 (.c (.im (.int (j : Int)))) p)).bind _ = _
        rw [hc]
        rfl
      · rw [if_neg (by simp), List.append_nil]
        exact h3)
  rw [Nat.zero_add, rng_lenN] at h3
  exact ⟨S', e, y13, y15, qs', h1, h2, h3, h4⟩
/-- the pairs within a part -/
theorem in_comp (qs : List (Nat × Nat)) (a : Nat) (haI : a < I.length) (ha : a < Fs.length) (hz : (At I a).2.length ≤ 100000) (x13 x14 x15 : Sl) (h13 : x13.isIm = true) (h14 : x14.isIm = true) (p : List D) :
    (evB cf (.comp [("x", 13), ("y", 14)] e23_2 (.tp (.cons (.nm 13) (.cons (.nm 14) .nil))) (.ex (.idx (.idx (.var 6) (.var 12)) (.int 1))) .nil)).v (maS deep v n0 ps0 x5 I Fs x9 x10 qs (.c (.im (.int (a : Int)))) x13 x14 x15 p) =
      some (.own (.ow ((((At I a).2.map fun q => (Fs.getD a 0 + q.1, Fs.getD a 0 + q.2)).map prD).map .im)), maS deep v n0 ps0 x5 I Fs x9 x10 qs (.c (.im (.int (a : Int)))) x13 x14 x15 p) := by
  have gI : I[a]? = some (At I a) := by unfold At; rw [List.getD_eq_getElem?_getD, List.getElem?_eq_getElem haI]; rfl
  have a1 : atI (I.map fun q => Cell.im (npD q.1 q.2)) (a : Int) = some (.im (npD (At I a).1 (At I a).2)) := by rw [Mi.atI_nat, List.getElem?_map, gI]; rfl
  have i1 := e_idx (cf := cf) (a := .var 6) (b := .var 12) (S := maS deep v n0 ps0 x5 I Fs x9 x10 qs (.c (.im (.int (a : Int)))) x13 x14 x15 p) (ra := .bor (.ow (I.map fun q => .im (npD q.1 q.2)))) rfl rfl rfl (r := .own (.im (npD (At I a).1 (At I a).2))) (k := (a : Int)) (by show (atI (I.map fun q => Cell.im (npD q.1 q.2)) (a : Int)).map _ = _; rw [a1]; rfl)
  have i2 := e_idx (cf := cf) (b := .int 1) i1 (k := 1) rfl rfl (r := .own (.im (.lst ((At I a).2.map prD)))) rfl
  obtain ⟨acc, S1, c1, y13, y14, rfl, h2⟩ := comp_nx (vs := [13, 14]) (t := .tp (.cons (.nm 13) (.cons (.nm 14) .nil))) (cond := (evsB cf .nil).t) (el := (evB cf e23_2).v)
    (fun j S acc => ∃ (y13 y14 : Sl), S = maS deep v n0 ps0 x5 I Fs x9 x10 qs (.c (.im (.int (a : Int)))) y13 y14 x15 p ∧ acc = ((((At I a).2.take j).map fun q => (Fs.getD a 0 + q.1, Fs.getD a 0 + q.2)).map prD).map .im) 0 ((At I a).2.map prD)
    (maS deep v n0 ps0 x5 I Fs x9 x10 qs (.c (.im (.int (a : Int)))) x13 x14 x15 p) [] 0 ⟨x13, x14, rfl, rfl⟩ (by rw [List.length_map, List.length_nil]; omega) (fun j d S acc hd ⟨y13, y14, h1, h2⟩ => by
      subst h1 h2
      rw [List.getElem?_map] at hd
      simp only [Option.map_eq_some_iff] at hd
      obtain ⟨q, hq, rfl⟩ := hd
      refine ⟨_, rfl, true, maS deep v n0 ps0 x5 I Fs x9 x10 qs (.c (.im (.int (a : Int)))) (.c (.im (.int (q.1 : Int)))) (.c (.im (.int (q.2 : Int)))) x15 p, rfl, ?_⟩
      rw [if_pos rfl]
      refine ⟨.im (prD (Fs.getD a 0 + q.1, Fs.getD a 0 + q.2)), maS deep v n0 ps0 x5 I Fs x9 x10 qs (.c (.im (.int (a : Int)))) (.c (.im (.int (q.1 : Int)))) (.c (.im (.int (q.2 : Int)))) x15 p, ?_, _, _, rfl, ?_⟩
      · have f1 := first_at (cf := cf) Fs (e := .var 12) (S := maS deep v n0 ps0 x5 I Fs x9 x10 qs (.c (.im (.int (a : Int)))) (.c (.im (.int (q.1 : Int)))) (.c (.im (.int (q.2 : Int)))) x15 p) (b := a) ha rfl rfl rfl
        have b1 := e_bin (cf := cf) (op := .Add) (b := .var 13) (rb := .own (.im (.int (q.1 : Int)))) (c := .im (.int ((Fs.getD a 0 + q.1 : Nat) : Int))) f1 rfl rfl rfl
        have b2 := e_bin (cf := cf) (op := .Add) (b := .var 14) (rb := .own (.im (.int (q.2 : Int)))) (c := .im (.int ((Fs.getD a 0 + q.2 : Nat) : Int))) f1 rfl rfl rfl
        unfold e23_2
        rw [x_tup, x_mkV_v, x_cons_v, b1, Option.bind_some, x_cons_v, b2]
        rfl
      · rw [Nat.zero_add, List.take_add_one, hq]
        simp)
  rw [x_comp, x_mkV_v, x_iex, i2]
  show (if (false && _ || _) = true then none else _) = _
  rw [if_neg (by simp [maS, mdS, h13, h14])]
  simp only [List.map_cons, List.map_nil]
  show (compL [13, 14] _ _ _ ((At I a).2.map prD) _ []).map _ = _
  rw [c1]
  rw [Nat.zero_add, List.length_map, List.take_length] at h2
  rw [h2]
  simp [backS, maS, mdS]
theorem a_loop (hn0 : n0 ≤ 6) (hps : ∀ q ∈ ps0, q.1 < n0 ∧ q.2 < n0) (hsq : Sq n0 (tabM n0 ps0)) (hI : I.length = n0) (hlen : Fs.length = n0 + 1) (hbig : ∀ i, Fs.getD i 0 ≤ 100000) (M L : Nat) (hM : M ≤ 100) (hL : L ≤ 10000) (hw : ∀ i, i < n0 → Fs.getD (i + 1) 0 - Fs.getD i 0 ≤ M) (hsz : ∀ i, i < n0 → (At I i).2.length ≤ L) (x12 : Sl) (p : List D) :
    ∃ S', loopL (.nm 12) (runs cf l23_2) (rngD 0 (n0 : Int)) (maS deep v n0 ps0 x5 I Fs x9 x10 [] x12 .no .no .no p) = some (.nx S') ∧
      ∃ (x12 x13 x14 x15 : Sl) (qs' : List (Nat × Nat)), S' = maS deep v n0 ps0 x5 I Fs x9 x10 qs' x12 x13 x14 x15 p ∧ (∀ q ∈ qs', InP n0 ps0 I Fs q) ∧ qs'.length ≤ n0 * L + (clo n0 ps0).length * (M * M) := by
  obtain ⟨S', e, y12, y13, y14, y15, qs', h1, h2, h3, _⟩ := loop_nx (t := .nm 12) (b := runs cf l23_2) (fun i S => ∃ (x12 x13 x14 x15 : Sl) (qs' : List (Nat × Nat)), S = maS deep v n0 ps0 x5 I Fs x9 x10 qs' x12 x13 x14 x15 p ∧ (∀ q ∈ qs', InP n0 ps0 I Fs q) ∧ qs'.length ≤ i * L + (tabL (tabM n0 ps0) n0 i).length * (M * M) ∧ x13.isIm = true ∧ x14.isIm = true)
    (rngD 0 (n0 : Int)) (maS deep v n0 ps0 x5 I Fs x9 x10 [] x12 .no .no .no p) 0 ⟨x12, .no, .no, .no, [], rfl, fun q hq => (nomatch hq), Nat.zero_le _, rfl, rfl⟩ (fun j d S hd hi => by
    obtain ⟨x12, x13, x14, x15, qs', rfl, h2, h3, h13, h14⟩ := hi
    obtain ⟨rfl, hj⟩ := rng_get hd
    rw [Nat.zero_add] at h3 ⊢
    rw [tabL_succ]
    have hMM : M * M ≤ 100 * 100 := Nat.mul_le_mul hM hM
    have hjL : j * L ≤ 6 * 10000 := Nat.mul_le_mul (by omega) hL
    have htl := tabL_len (tabM n0 ps0) n0 j
    have hjn : j * n0 ≤ 6 * 6 := Nat.mul_le_mul (by omega) hn0
    have htM : (tabL (tabM n0 ps0) n0 j).length * (M * M) ≤ 36 * (100 * 100) := Nat.mul_le_mul (by omega) hMM
    have hsj := hsz j hj
    have hin := in_comp (cf := cf) deep v n0 ps0 x5 I Fs x9 x10 qs' j (by omega) (by omega) (by omega) x13 x14 x15 h13 h14 p
    obtain ⟨S2, e2, y13, y15, qs2, rfl, k2, k3, k4⟩ := b_loop (cf := cf) deep v n0 ps0 x5 I Fs x9 x10 hn0 hps hsq hlen hbig M hM hw (qs' ++ (At I j).2.map fun q => (Fs.getD j 0 + q.1, Fs.getD j 0 + q.2)) (by rw [List.length_append, List.length_map]; omega) x13 x14 x15 h13 h14 j hj p
    rw [List.length_append, List.length_map] at k3
    refine ⟨_, rfl, _, .inl ?_, .c (.im (.int (j : Int))), y13, x14, y15, qs2, rfl, fun q hq => ?_, ?_, k4, h14⟩
    · unfold l23_2
      show runs cf _ (maS deep v n0 ps0 x5 I Fs x9 x10 qs' (.c (.im (.int (j : Int)))) x13 x14 x15 p) = _
      rw [grow deep v n0 ps0 x5 I Fs x9 x10 (by rw [List.length_map]; omega) hin]
      exact r_seq (r_for (i_rg1 (n := n0) rfl (by omega)) e2) rfl
    · rcases k2 q hq with z | z
      · rcases List.mem_append.mp z with z | z
        · exact h2 q z
        · obtain ⟨w, hw, rfl⟩ := List.mem_map.mp z
          exact .inl ⟨j, w.1, w.2, hj, hw, rfl⟩
      · exact z
    · rw [List.length_append, Nat.add_mul, Nat.add_mul, Nat.one_mul]
      omega)
  rw [Nat.zero_add, rng_lenN] at h3
  exact ⟨S', e, y12, y13, y14, y15, qs', h1, h2, h3⟩
end
end K04
namespace K04
open L2 Mi
def mdO (deep v : Int) (x3 x4 : Sl) (p : List D) : Sta := ⟨[.io, .c (.im (.int deep)), .c (.im (.int v)), x3, x4, .no, .no, .no, .no, .no, .no, .no, .no, .no, .no, .no], some p⟩
theorem outer_ok (k : Nat) (deep : Int) (v : Nat) (hv1 : 1 ≤ v) (hv6 : v < 6) (p : List D) (hp : PoolOk p) :
    ∃ (n0 : Nat) (ps0 : List (Nat × Nat)) (p' : List D), (n0, ps0) ∈ outers ∧ PoolOk p' ∧ run (callF tab (k + 2)) (.ife (.cmp .Eq (.var 2) (.int 1)) (.cons (.asg (.tp (.cons (.nm 3) (.cons (.nm 4) .nil))) (.callIo 22 0 .nil))
    .nil) (.cons (.asg (.nm 3) (.bin .Add (.int 2) (.callIo 17 0 (.cons (.int 2) .nil))))
    (.cons (.asg (.nm 4) (.comp [("k", 5)] e23_1 (.nm 5) (.rng1 (.bin .Mult (.bin .Sub (.var 3) (.int 1)) (.blt "int" (.cons (.cmp .Gt (.var 2) (.int 3)) .nil)))) .nil))
    (.frz [4] .nil)))) (mdO deep (v : Int) .no .no p) = some (.nx (mdO deep (v : Int) (.c (.im (.int (n0 : Int)))) (.c (.im (.lst (ps0.map prD)))) p')) := by
  have hcd : (evB (callF tab (k + 2)) (.cmp .Eq (.var 2) (.int 1))).t (mdO deep (v : Int) .no .no p) = some (((v : Int) == 1), mdO deep (v : Int) .no .no p) := e_cmpT (ra := .own (.im (.int (v : Int)))) (rb := .own (.im (.int 1))) rfl rfl rfl rfl
  by_cases h1 : v = 1
  · subst h1
    obtain ⟨q, p', e, hq, hp'⟩ := knot_ok k p hp
    refine ⟨q.1, q.2, p', List.mem_append_left _ hq, hp', ?_⟩
    have s1 := e_callIo (cf := callF tab (k + 2)) (f := 22) (i := 0) (es := .nil) (S := mdO deep ((1 : Nat) : Int) .no .no p) (S2 := mdO deep ((1 : Nat) : Int) .no .no p) (rs := []) (cs := []) (u := p) rfl rfl rfl rfl rfl rfl e
    rw [r_ife, hcd, Option.bind_some, if_pos (by rfl)]
    refine r_seq (S1 := mdO deep ((1 : Nat) : Int) (.c (.im (.int (q.1 : Int)))) (.c (.im (.lst (q.2.map prD)))) p') ?_ rfl
    rw [r_asgT, s1]
    rfl
  · obtain ⟨w, p1, hw, hp1, e1⟩ := asg_pick (k + 1) 3 2 (by omega) (mdO deep (v : Int) .no .no p).ρ rfl (.int 2) (fun S => rfl) p hp
    have hw2 : w < 2 := by omega
    have hmem : (2 + w, chn (if 3 < v then 1 + w else 0)) ∈ outers := by
      have hw' : w = 0 ∨ w = 1 := by omega
      rcases hw' with rfl | rfl
      · split
        · exact List.mem_append_right _ (.tail _ (.tail _ (.head _)))
        · exact List.mem_append_right _ (.head _)
      · split
        · exact List.mem_append_right _ (.tail _ (.tail _ (.tail _ (.head _))))
        · exact List.mem_append_right _ (.tail _ (.head _))
    refine ⟨2 + w, chn (if 3 < v then 1 + w else 0), p1, hmem, hp1, ?_⟩
    rw [r_ife, hcd, Option.bind_some, if_neg (by simp; omega)]
    have s2 := e_bin (cf := callF tab (k + 2)) (op := .Add) (a := .int 2) (ra := .own (.im (.int 2))) (c := .im (.int ((2 + w : Nat) : Int))) rfl e1 rfl rfl
    refine r_seq (S1 := mdO deep (v : Int) (.c (.im (.int ((2 + w : Nat) : Int)))) .no p1) (by
      rw [r_asg]
      show ((evB (callF tab (k + 2)) (.bin .Add (.int 2) (.callIo 17 0 (.cons (.int 2) .nil)))).v ⟨(mdO deep (v : Int) .no .no p).ρ, some p⟩).bind _ = _
      rw [s2]; rfl) ?_
    have hsub := e_bin (cf := callF tab (k + 2)) (op := .Sub) (a := .var 3) (b := .int 1) (S := mdO deep (v : Int) (.c (.im (.int ((2 + w : Nat) : Int)))) .no p1) (ra := .own (.im (.int ((2 + w : Nat) : Int)))) (rb := .own (.im (.int 1))) (c := .im (.int (((2 + w : Nat) : Int) - 1))) rfl rfl rfl rfl
    have hint : (evB (callF tab (k + 2)) (.blt "int" (.cons (.cmp .Gt (.var 2) (.int 3)) .nil))).v (mdO deep (v : Int) (.c (.im (.int ((2 + w : Nat) : Int)))) .no p1) = some (.own (.im (.int (if decide ((3 : Int) < (v : Int)) = true then 1 else 0))), mdO deep (v : Int) (.c (.im (.int ((2 + w : Nat) : Int)))) .no p1) := rfl
    have hmul := e_bin (cf := callF tab (k + 2)) (op := .Mult) hsub hint rfl (o_mul (i := ((2 + w : Nat) : Int) - 1) (j := if decide ((3 : Int) < (v : Int)) = true then 1 else 0) (by split <;> omega))
    have hval : (((2 + w : Nat) : Int) - 1) * (if decide ((3 : Int) < (v : Int)) = true then 1 else 0) = ((if 3 < v then 1 + w else 0 : Nat) : Int) := by
      by_cases h3 : 3 < v
      · rw [if_pos h3, if_pos (by rw [decide_eq_true_eq]; omega)]; omega
      · rw [if_neg h3, if_neg (by rw [decide_eq_true_eq]; omega)]; omega
    rw [hval] at hmul
    have hch := chain_comp (callF tab (k + 2)) "k" 5 (mdO deep (v : Int) (.c (.im (.int ((2 + w : Nat) : Int)))) .no p1).ρ (some p1) (by simp [mdO]) rfl (if 3 < v then 1 + w else 0) (by split <;> omega) e23_1 rfl _ hmul
    refine r_seq (S1 := ⟨[.io, .c (.im (.int deep)), .c (.im (.int (v : Int))), .c (.im (.int ((2 + w : Nat) : Int))), .c (.ow (((chn (if 3 < v then 1 + w else 0)).map prD).map .im)), .no, .no, .no, .no, .no, .no, .no, .no, .no, .no, .no], some p1⟩) ?_ ?_
    · rw [r_asg]
      show ((evB (callF tab (k + 2)) (.comp [("k", 5)] e23_1 (.nm 5) (.rng1 (.bin .Mult (.bin .Sub (.var 3) (.int 1)) (.blt "int" (.cons (.cmp .Gt (.var 2) (.int 3)) .nil)))) .nil)).v ⟨(mdO deep (v : Int) (.c (.im (.int ((2 + w : Nat) : Int)))) .no p1).ρ, some p1⟩).bind _ = _
      rw [hch]; rfl
    · rw [r_frz]
      show runs _ _ ⟨[.io, .c (.im (.int deep)), .c (.im (.int (v : Int))), .c (.im (.int ((2 + w : Nat) : Int))), .c (.im (.lst (Cell.frzs (((chn (if 3 < v then 1 + w else 0)).map prD).map .im)))), .no, .no, .no, .no, .no, .no, .no, .no, .no, .no, .no], some p1⟩ = _
      rw [x_frzs_map]
      rfl
def MadeAt (K d M L : Nat) : Prop := ∀ p, PoolOk p → ∃ (n : Nat) (ps : List (Nat × Nat)) (p' : List D), callF tab K 23 [.int (d : Int)] (some p) = some (.im (npD n ps), some p') ∧ Md M L n ps ∧ PoolOk p'
/-- the picked kind, and the end of a single place -/
theorem made_head (k d : Nat) (p : List D) (hp : PoolOk p) : ∃ (v : Nat) (p' : List D), v < 6 ∧ PoolOk p' ∧ run (callF tab (k + 1)) (.asg (.nm 2) (.callIo 17 0 (.cons (.int 6) .nil))) ⟨[.io, .c (.im (.int (d : Int))), .no, .no, .no, .no, .no, .no, .no, .no, .no, .no, .no, .no, .no, .no], some p⟩ = some (.nx (mdO (d : Int) (v : Int) .no .no p')) := by
  obtain ⟨v, p', h1, h2, e⟩ := asg_pick k 2 6 (by omega) [.io, .c (.im (.int (d : Int))), .no, .no, .no, .no, .no, .no, .no, .no, .no, .no, .no, .no, .no, .no] rfl (.int 6) (fun S => rfl) p hp
  exact ⟨v, p', by omega, h2, by rw [r_asg, e]; rfl⟩
theorem md_one {M L : Nat} (hM : 1 ≤ M) : Md M L 1 [] := ⟨Nat.le_refl _, hM, ⟨fun _ h => (nomatch h), id, fun _ h => (nomatch h)⟩, Nat.zero_le _⟩
theorem made_zero (k : Nat) : MadeAt (k + 2) 0 1 0 := fun p hp => by
  obtain ⟨v, p', hv, hp', e⟩ := made_head k 0 p hp
  refine ⟨1, [], p', call_rt (ρ := (mdO ((0 : Nat) : Int) (v : Int) .no .no p').ρ) rfl rfl rfl rfl ?_, md_one (Nat.le_refl _), hp'⟩
  unfold f23
  refine r_seq e ?_
  rw [r_cons]
  rfl
theorem made_step (k d M L : Nat) (hM1 : 1 ≤ M) (hM : M ≤ 100) (hL : L ≤ 10000) (ih : MadeAt (k + 2) d M L) : MadeAt (k + 3) (d + 1) (6 * M) (6 * L + 6 * (M * M)) := fun p hp => by
  obtain ⟨v, p1, hv, hp1, e1⟩ := made_head (k + 1) (d + 1) p hp
  have hor : (evB (callF tab (k + 2)) (.or (.cmp .Eq (.var 1) (.int 0)) (.one (.cmp .Eq (.var 2) (.int 0))))).t (mdO ((d + 1 : Nat) : Int) (v : Int) .no .no p1) = some (((v : Int) == 0), mdO ((d + 1 : Nat) : Int) (v : Int) .no .no p1) := by
    have c1 : (evB (callF tab (k + 2)) (.cmp .Eq (.var 1) (.int 0))).t (mdO ((d + 1 : Nat) : Int) (v : Int) .no .no p1) = some (false, mdO ((d + 1 : Nat) : Int) (v : Int) .no .no p1) := e_cmpT (ra := .own (.im (.int ((d + 1 : Nat) : Int)))) (rb := .own (.im (.int 0))) rfl rfl rfl (by show some (((d + 1 : Nat) : Int) == 0) = _; congr 1)
    have c2 : (evB (callF tab (k + 2)) (.cmp .Eq (.var 2) (.int 0))).t (mdO ((d + 1 : Nat) : Int) (v : Int) .no .no p1) = some (((v : Int) == 0), mdO ((d + 1 : Nat) : Int) (v : Int) .no .no p1) := e_cmpT (ra := .own (.im (.int (v : Int)))) (rb := .own (.im (.int 0))) rfl rfl rfl rfl
    rw [x_or_t, c1, Option.bind_some]
    show (evB (callF tab (k + 2)) (.one (.cmp .Eq (.var 2) (.int 0)))).t _ = _
    rw [x_one, c2]
  by_cases hv0 : v = 0
  · refine ⟨1, [], p1, call_rt (ρ := (mdO ((d + 1 : Nat) : Int) (v : Int) .no .no p1).ρ) rfl rfl rfl rfl ?_, md_one (by omega), hp1⟩
    unfold f23
    refine r_seq e1 ?_
    rw [r_cons, r_ife, hor, Option.bind_some, if_pos (by simp [hv0])]
    rfl
  · obtain ⟨n0, ps0, p2, hmem, hp2, e2⟩ := outer_ok k ((d + 1 : Nat) : Int) v (by omega) hv p1 hp1
    obtain ⟨hn2, hn6, g0, hclo⟩ := outers_ok (n0, ps0) hmem
    simp only at hn2 hn6 g0 hclo
    obtain ⟨S3, e3, x5, x9, x10, I, Fs, p3, rfl, hI, hF, hmd, hp3⟩ := inner_loop k d M L hM1 (v : Int) n0 (by omega) ps0 ih .no p2 hp2
    obtain ⟨e4, hsq⟩ := rows_ok (k + 1) n0 (by omega) ps0 g0.lt
    have hlen : Fs.length = n0 + 1 := by rw [hF.len, hI]
    have hFle : ∀ b, b ≤ I.length → Fs.getD b 0 ≤ b * M := hF.le fun a ha => (hmd a (by omega)).le
    have hbig : ∀ i, Fs.getD i 0 ≤ 100000 := fun i => by
      by_cases hi : i ≤ I.length
      · have h1 := hFle i hi
        have h2 : i * M ≤ 6 * 100 := Nat.mul_le_mul (by omega) hM
        omega
      · rw [List.getD_eq_getElem?_getD, List.getElem?_eq_none (by omega)]
        exact Nat.zero_le _
    have hw : ∀ i, i < n0 → Fs.getD (i + 1) 0 - Fs.getD i 0 ≤ M := fun i hi => by
      have := hF.step i (by omega)
      have := (hmd i hi).le
      omega
    obtain ⟨S5, e5, x12, x13, x14, x15, qs, rfl, h5, h6⟩ := a_loop (cf := callF tab (k + 2)) ((d + 1 : Nat) : Int) (v : Int) n0 ps0 x5 I Fs x9 x10 hn6 g0.lt hsq hI hlen hbig M L hM hL hw (fun i hi => (hmd i hi).sz) .no p3
    have hgood : Good (Fs.getD n0 0) qs := good_made g0 hI hF (fun a ha => (hmd a ha).good) h5
    have hpos : 1 ≤ Fs.getD n0 0 := hF.pos (fun a ha => (hmd a (by omega)).pos) (by omega) (by omega)
    have hle : Fs.getD n0 0 ≤ 6 * M := Nat.le_trans (hFle n0 (by omega)) (Nat.mul_le_mul_right _ hn6)
    have hn0L : n0 * L ≤ 6 * L := Nat.mul_le_mul_right _ hn6
    have hcM : (clo n0 ps0).length * (M * M) ≤ 6 * (M * M) := Nat.mul_le_mul_right _ hclo
    refine ⟨Fs.getD n0 0, qs, p3, call_rt (ρ := (maS ((d + 1 : Nat) : Int) (v : Int) n0 ps0 x5 I Fs x9 x10 qs x12 x13 x14 x15 p3).ρ) rfl rfl rfl rfl ?_, ⟨hpos, hle, hgood, by omega⟩, hp3⟩
    unfold f23
    refine r_seq e1 (r_seq (S1 := mdO ((d + 1 : Nat) : Int) (v : Int) .no .no p1) ?_ (r_seq e2 ?_))
    · rw [r_ife, hor, Option.bind_some, if_neg (by simp; omega)]
      rfl
    · refine r_seq (S1 := ⟨[.io, .c (.im (.int ((d + 1 : Nat) : Int))), .c (.im (.int (v : Int))), .c (.im (.int (n0 : Int))), .c (.im (.lst (ps0.map prD))), .no, .c (.ow []), .c (.ow []), .c (nxC [0]), .no, .no, .no, .no, .no, .no, .no], some p2⟩) rfl ?_
      rw [r_frz]
      refine r_seq (r_for (S1 := mdS ((d + 1 : Nat) : Int) (v : Int) n0 ps0 .no [] [] [0] .no .no .no .no .no .no .no p2) (i_rg1 (n := n0) rfl (by omega)) e3) ?_
      refine r_seq (S1 := mdS ((d + 1 : Nat) : Int) (v : Int) n0 ps0 x5 I [] Fs x9 x10 (.c (matC bitD (tabM n0 ps0))) .no .no .no .no p3) (by
        rw [r_asg, e_call (cf := callF tab (k + 2)) (f := 19) (es := .cons (.var 3) (.cons (.var 4) .nil)) (S2 := mdS ((d + 1 : Nat) : Int) (v : Int) n0 ps0 x5 I [] Fs x9 x10 .no .no .no .no .no p3) (rs := [.own (.im (.int (n0 : Int))), .own (.im (.lst (ps0.map prD)))]) rfl rfl e4]; rfl) ?_
      rw [r_frz]
      show runs _ _ (mdS ((d + 1 : Nat) : Int) (v : Int) n0 ps0 x5 I [] Fs x9 x10 (.c (.im (matC bitD (tabM n0 ps0)).frz)) .no .no .no .no p3) = _
      rw [mat_frzE]
      refine r_seq (r_for (S1 := maS ((d + 1 : Nat) : Int) (v : Int) n0 ps0 x5 I Fs x9 x10 [] .no .no .no .no p3) (i_rg1 (n := n0) rfl (by omega)) e5) ?_
      have f1 := first_at (cf := callF tab (k + 2)) Fs (e := .var 3) (S := maS ((d + 1 : Nat) : Int) (v : Int) n0 ps0 x5 I Fs x9 x10 qs x12 x13 x14 x15 p3) (b := n0) (by omega) rfl rfl rfl
      rw [r_cons, r_ret, x_tup, x_mkV_v, x_cons_v, f1]
      rfl
theorem made0 (k : Nat) : MadeAt (k + 2) 0 1 0 := made_zero k
theorem made1 (k : Nat) : MadeAt (k + 3) 1 6 6 := made_step k 0 1 0 (by omega) (by omega) (by omega) (made_zero k)
theorem made2 (k : Nat) : MadeAt (k + 4) 2 36 252 := made_step (k + 1) 1 6 6 (by omega) (by omega) (by omega) (made1 k)
end K04
namespace K04
open L2 Mi
def anS (v : Int) (n : Nat) (ps : List (Nat × Nat)) (p : List D) : Sta := ⟨[.io, .c (.im (.int v)), .c (.im (.int (n : Int))), .c (.im (.lst (ps.map prD))), .no], some p⟩
theorem any_mid (k v w : Nat) (hv : v < 6) (hw : w < 12) (p : List D) (hp : PoolOk p) :
    ∃ (n : Nat) (ps : List (Nat × Nat)) (p' : List D), Good n ps ∧ 1 ≤ n ∧ n ≤ 36 ∧ ps.length ≤ 800 ∧ PoolOk p' ∧ ∀ ss, runs (callF tab (k + 4)) (.cons (.ife (.cmp .Lt (.var 1) (.int 3)) (.cons (.asg (.tp (.cons (.nm 2) (.cons (.nm 3) .nil))) (.callIo 23 0 (.cons (.int 2) .nil)))
    .nil) .nil)
    (.cons (.ife (.cmp .Eq (.var 1) (.int 3)) (.cons (.asg (.nm 3) (.callIo 24 0 (.cons (.var 2) .nil)))
    (.frz [3] .nil)) .nil)
    (.cons (.ife (.cmp .Eq (.var 1) (.int 4)) (.cons (.asg (.nm 3) (.comp [("k", 4)] e29_1 (.nm 4) (.rng1 (.bin .Sub (.var 2) (.int 1))) .nil))
    (.frz [3] .nil)) .nil) ss))) (anS (v : Int) (1 + w) [] p) = runs (callF tab (k + 4)) ss (anS (v : Int) n ps p') := by
  have gnil : Good (1 + w) [] := ⟨fun _ h => (nomatch h), id, fun _ h => (nomatch h)⟩
  by_cases h3 : v < 3
  · obtain ⟨n, ps, p', e, hm, hp'⟩ := made2 k p hp
    refine ⟨n, ps, p', hm.good, hm.pos, hm.le, Nat.le_trans hm.sz (by omega), hp', fun ss => ?_⟩
    have s1 := e_callIo (cf := callF tab (k + 4)) (f := 23) (i := 0) (es := .cons (.int 2) .nil) (S := anS (v : Int) (1 + w) [] p) (S2 := anS (v : Int) (1 + w) [] p) (rs := [.own (.im (.int 2))]) (cs := [.im (.int 2)]) (u := p) rfl rfl rfl rfl rfl rfl e
    have c1 : (evB (callF tab (k + 4)) (.cmp .Lt (.var 1) (.int 3))).t (anS (v : Int) (1 + w) [] p) = some (true, anS (v : Int) (1 + w) [] p) := e_cmpT (ra := .own (.im (.int (v : Int)))) (rb := .own (.im (.int 3))) rfl rfl rfl (by show some (decide ((v : Int) < 3)) = _; rw [decide_eq_true (by omega)])
    rw [r_cons, r_ife, c1, Option.bind_some, if_pos (by rfl), r_cons, r_asgT, s1]
    show runs _ _ (anS (v : Int) n ps p') = _
    have hv' : v = 0 ∨ v = 1 ∨ v = 2 := by omega
    rcases hv' with rfl | rfl | rfl <;> rfl
  · have hv' : v = 3 ∨ v = 4 ∨ v = 5 := by omega
    rcases hv' with rfl | rfl | rfl
    · obtain ⟨qs, p', e, h1, h2, hp'⟩ := drawn_ok (k + 1) (1 + w) (by omega) p hp
      have hnn : (1 + w) * (1 + w) ≤ 12 * 12 := Nat.mul_le_mul (by omega) (by omega)
      refine ⟨1 + w, qs, p', h1, by omega, by omega, by omega, hp', fun ss => ?_⟩
      have s1 := e_callIo (cf := callF tab (k + 4)) (f := 24) (i := 0) (es := .cons (.var 2) .nil) (S := anS ((3 : Nat) : Int) (1 + w) [] p) (S2 := anS ((3 : Nat) : Int) (1 + w) [] p) (rs := [.own (.im (.int ((1 + w : Nat) : Int)))]) (cs := [.im (.int ((1 + w : Nat) : Int))]) (u := p) rfl rfl rfl rfl rfl rfl e
      have c1 : (evB (callF tab (k + 4)) (.cmp .Eq (.var 1) (.int 3))).t (anS ((3 : Nat) : Int) (1 + w) [] p) = some (true, anS ((3 : Nat) : Int) (1 + w) [] p) := rfl
      have i0 : run (callF tab (k + 4)) (.ife (.cmp .Lt (.var 1) (.int 3)) (.cons (.asg (.tp (.cons (.nm 2) (.cons (.nm 3) .nil))) (.callIo 23 0 (.cons (.int 2) .nil))) .nil) .nil) (anS ((3 : Nat) : Int) (1 + w) [] p) = some (.nx (anS ((3 : Nat) : Int) (1 + w) [] p)) := rfl
      have i1 : run (callF tab (k + 4)) (.ife (.cmp .Eq (.var 1) (.int 3)) (.cons (.asg (.nm 3) (.callIo 24 0 (.cons (.var 2) .nil))) (.frz [3] .nil)) .nil) (anS ((3 : Nat) : Int) (1 + w) [] p) = some (.nx (anS ((3 : Nat) : Int) (1 + w) qs p')) := by
        rw [r_ife, c1, Option.bind_some, if_pos (by rfl), r_cons, r_asg, s1]
        rfl
      rw [r_cons, i0, Option.bind_some]
      show runs _ (.cons _ (.cons _ ss)) (anS ((3 : Nat) : Int) (1 + w) [] p) = _
      rw [r_cons, i1, Option.bind_some]
      rfl
    · have hch := chain_comp (callF tab (k + 4)) "k" 4 (anS ((4 : Nat) : Int) (1 + w) [] p).ρ (some p) (by simp [anS]) rfl w (by omega) e29_1 rfl (.bin .Sub (.var 2) (.int 1)) (by
        have := e_bin (cf := callF tab (k + 4)) (op := .Sub) (a := .var 2) (b := .int 1) (S := anS ((4 : Nat) : Int) (1 + w) [] p) (ra := .own (.im (.int ((1 + w : Nat) : Int)))) (rb := .own (.im (.int 1))) (c := .im (.int (((1 + w : Nat) : Int) - 1))) rfl rfl rfl rfl
        rw [show (((1 + w : Nat) : Int) - 1) = (w : Int) by omega] at this
        exact this)
      refine ⟨1 + w, chn w, p, good_chain (1 + w) w (by omega) (by omega), by omega, by omega, by simp [chn]; omega, hp, fun ss => ?_⟩
      have c1 : (evB (callF tab (k + 4)) (.cmp .Eq (.var 1) (.int 4))).t (anS ((4 : Nat) : Int) (1 + w) [] p) = some (true, anS ((4 : Nat) : Int) (1 + w) [] p) := rfl
      have i0 : run (callF tab (k + 4)) (.ife (.cmp .Lt (.var 1) (.int 3)) (.cons (.asg (.tp (.cons (.nm 2) (.cons (.nm 3) .nil))) (.callIo 23 0 (.cons (.int 2) .nil))) .nil) .nil) (anS ((4 : Nat) : Int) (1 + w) [] p) = some (.nx (anS ((4 : Nat) : Int) (1 + w) [] p)) := rfl
      have i1 : run (callF tab (k + 4)) (.ife (.cmp .Eq (.var 1) (.int 3)) (.cons (.asg (.nm 3) (.callIo 24 0 (.cons (.var 2) .nil))) (.frz [3] .nil)) .nil) (anS ((4 : Nat) : Int) (1 + w) [] p) = some (.nx (anS ((4 : Nat) : Int) (1 + w) [] p)) := rfl
      have i2 : run (callF tab (k + 4)) (.ife (.cmp .Eq (.var 1) (.int 4)) (.cons (.asg (.nm 3) (.comp [("k", 4)] e29_1 (.nm 4) (.rng1 (.bin .Sub (.var 2) (.int 1))) .nil)) (.frz [3] .nil)) .nil) (anS ((4 : Nat) : Int) (1 + w) [] p) = some (.nx (anS ((4 : Nat) : Int) (1 + w) (chn w) p)) := by
        rw [r_ife, c1, Option.bind_some, if_pos (by rfl), r_cons, r_asg]
        show (((evB (callF tab (k + 4)) (.comp [("k", 4)] e29_1 (.nm 4) (.rng1 (.bin .Sub (.var 2) (.int 1))) .nil)).v ⟨(anS ((4 : Nat) : Int) (1 + w) [] p).ρ, some p⟩).bind _).bind _ = _
        rw [hch]
        show some (Out.nx ⟨[.io, _, _, .c (.im (.lst (Cell.frzs (((chn w).map prD).map .im)))), _], some p⟩) = _
        rw [x_frzs_map]
        rfl
      rw [r_cons, i0, Option.bind_some]
      show runs _ (.cons _ (.cons _ ss)) (anS ((4 : Nat) : Int) (1 + w) [] p) = _
      rw [r_cons, i1, Option.bind_some]
      show runs _ (.cons _ ss) (anS ((4 : Nat) : Int) (1 + w) [] p) = _
      rw [r_cons, i2, Option.bind_some]
    · exact ⟨1 + w, [], p, gnil, by omega, by omega, Nat.zero_le _, hp, fun ss => rfl⟩
/-- _law_any -/
theorem any_ok (k : Nat) (p : List D) (hp : PoolOk p) : ∃ (n : Nat) (ps : List (Nat × Nat)) (p' : List D), callF tab (k + 5) 29 [] (some p) = some (.im (npD n ps), some p') ∧ Good n ps ∧ 1 ≤ n ∧ n ≤ 36 ∧ ps.length ≤ 800 ∧ PoolOk p' := by
  obtain ⟨v, p1, hv, hp1, e1⟩ := asg_pick (k + 3) 1 6 (by omega) [.io, .no, .no, .no, .no] rfl (.int 6) (fun S => rfl) p hp
  obtain ⟨w, p2, hw, hp2, e2⟩ := asg_pick (k + 3) 1 12 (by omega) [.io, .no, .no, .no, .no] rfl (.int 12) (fun S => rfl) p1 hp1
  obtain ⟨n, ps, p3, g, hn1, hn2, hz, hp3, hss⟩ := any_mid k v w (by omega) (by omega) p2 hp2
  obtain ⟨qs, p4, e4, g4, hl, hp4⟩ := renamed_ok (k + 1) n (by omega) ps (by omega) g p3 hp3
  refine ⟨n, qs, p4, call_rt (ρ := (anS (v : Int) n ps p4).ρ) rfl rfl rfl rfl ?_, g4, hn1, hn2, by omega, hp4⟩
  have s2 := e_bin (cf := callF tab (k + 4)) (op := .Add) (a := .int 1) (ra := .own (.im (.int 1))) (c := .im (.int ((1 + w : Nat) : Int))) rfl e2 rfl rfl
  unfold f29
  refine r_seq (S1 := ⟨[.io, .c (.im (.int (v : Int))), .c (.im (.int ((1 + w : Nat) : Int))), .c (.ow []), .no], some p2⟩) ?_ ?_
  · rw [r_par, x_cons_v]
    show (((evB (callF tab (k + 4)) (.callIo 17 0 (.cons (.int 6) .nil))).v ⟨[.io, .no, .no, .no, .no], some p⟩ |>.bind _) |>.bind _) = _
    rw [e1, Option.bind_some, x_cons_v]
    show ((((evB (callF tab (k + 4)) (.bin .Add (.int 1) (.callIo 17 0 (.cons (.int 12) .nil)))).v ⟨[.io, .no, .no, .no, .no], some p1⟩ |>.bind _) |>.bind _) |>.bind _) = _
    rw [s2]
    rfl
  · rw [r_frz]
    show runs _ _ (anS (v : Int) (1 + w) [] p2) = _
    rw [hss]
    have s1 := e_callIo (cf := callF tab (k + 4)) (f := 21) (i := 0) (es := .cons (.var 2) (.cons (.var 3) .nil)) (S := anS (v : Int) n ps p3) (S2 := anS (v : Int) n ps p3) (rs := [.own (.im (.int (n : Int))), .own (.im (.lst (ps.map prD)))]) (cs := [.im (.int (n : Int)), .im (.lst (ps.map prD))]) (u := p3) rfl rfl rfl rfl rfl rfl e4
    rw [r_cons, r_ret, x_tup, x_mkV_v, x_cons_v]
    show ((((some (R.own (.im (.int (n : Int))), anS (v : Int) n ps p3)).bind _).bind _).bind _).bind _ = _
    rw [Option.bind_some, x_cons_v, s1]
    show some (Out.rt (.im (.tup [.int (n : Int), .lst (Cell.frzs ((qs.map prD).map .im))])) _) = _
    rw [x_frzs_map]
    rfl
end K04
namespace K04
open L2 Mi
/-- a table's bit -/
theorem e_bit {cf : CF} {enc : Bool → D} {n : Nat} {M : List (List Bool)} (hs : Sq n M) {S : Sta} {t i j a b : Nat} (h0 : S.ρ[t]? = some (.c (.im (.lst (M.map fun r => .lst (r.map enc)))))) (hi : S.ρ[i]? = some (.c (.im (.int (a : Int))))) (hj : S.ρ[j]? = some (.c (.im (.int (b : Int))))) (ha : a < n) (hb : b < n) :
    (evB cf (.idx (.idx (.var t) (.var i)) (.var j))).v S = some (.own (.im (enc (bitM M a b))), S) := by
  obtain ⟨r, g1, g2, g3⟩ := hs.get' ha
  have hbit : r[b]? = some (bitM M a b) := by
    unfold bitM
    rw [g3, List.getD_eq_getElem?_getD, List.getElem?_eq_getElem (by omega)]; rfl
  have v0 : (evB cf (.var t)).v S = some (.own (.im (.lst (M.map fun r => .lst (r.map enc)))), S) := by rw [x_var, x_mkV_v, x_rdV, h0]; rfl
  have vi : (evB cf (.var i)).v S = some (.own (.im (.int (a : Int))), S) := by rw [x_var, x_mkV_v, x_rdV, hi]; rfl
  have vj : (evB cf (.var j)).v S = some (.own (.im (.int (b : Int))), S) := by rw [x_var, x_mkV_v, x_rdV, hj]; rfl
  have i1 := e_idx v0 vi rfl (r := .own (.im (.lst (r.map enc)))) (by show (atI (M.map fun r => D.lst (r.map enc)) (a : Int)).map _ = _; rw [Mi.atI_nat, List.getElem?_map, g1]; rfl)
  exact e_idx i1 vj rfl (by show (atI (r.map enc) (b : Int)).map _ = _; rw [Mi.atI_nat, List.getElem?_map, hbit]; rfl)
def lpS (M : List (List Bool)) (qs : List (Nat × Nat)) (x2 x3 : Sl) : Sta := ⟨[.c (.im (matB M)), .c (.im (.lst (qs.map prD))), x2, x3], none⟩
theorem lp_comp (cf : CF) {n : Nat} (hn : n ≤ 1000) {M : List (List Bool)} (hs : Sq n M) (qs : List (Nat × Nat)) {a : Nat} (ha : a < n) (x3 : Sl) (h3 : x3.isIm = true) :
    (evB cf (.comp [("b", 3)] e20_1 (.nm 3) (.rng1 (.blt "len" (.cons (.var 0) .nil))) c20_1)).v (lpS M qs (.c (.im (.int (a : Int)))) x3) = some (.own (.ow (((rowL M a n).map prD).map .im)), lpS M qs (.c (.im (.int (a : Int)))) x3) := by
  obtain ⟨acc, S1, c1, y3, rfl, h2⟩ := comp_nx (vs := [3]) (t := .nm 3) (cond := (evsB cf c20_1).t) (el := (evB cf e20_1).v)
    (fun j S acc => ∃ (y3 : Sl), S = lpS M qs (.c (.im (.int (a : Int)))) y3 ∧ acc = ((rowL M a j).map prD).map .im) 0 (rngD 0 (n : Int))
    (lpS M qs (.c (.im (.int (a : Int)))) x3) [] 0 ⟨x3, rfl, by simp [rowL]⟩ (by rw [rng_lenN, List.length_nil]; omega) (fun j d S acc hd ⟨y3, h1, h2⟩ => by
      subst h1 h2
      obtain ⟨rfl, hj⟩ := rng_get hd
      have hb := e_bit (cf := cf) (enc := bitD) hs (S := lpS M qs (.c (.im (.int (a : Int)))) (.c (.im (.int (j : Int))))) (t := 0) (i := 2) (j := 3) rfl rfl rfl ha hj
      refine ⟨_, rfl, bitM M a j, lpS M qs (.c (.im (.int (a : Int)))) (.c (.im (.int (j : Int)))), ?_, ?_⟩
      · refine e_cmpT hb (b := .int 1) rfl rfl ?_
        cases bitM M a j <;> rfl
      · rw [Nat.zero_add, rowL_succ]
        cases bitM M a j with
        | true =>
          rw [if_pos rfl, if_pos rfl]
          exact ⟨.im (prD (a, j)), lpS M qs (.c (.im (.int (a : Int)))) (.c (.im (.int (j : Int)))), rfl, _, rfl, by simp⟩
        | false =>
          rw [if_neg (by simp), if_neg (by simp)]
          exact ⟨_, rfl, by simp⟩)
  have el := e_len (cf := cf) (a := .var 0) (S := lpS M qs (.c (.im (.int (a : Int)))) x3) (ds := M.map fun r => .lst (r.map bitD)) rfl rfl
  rw [List.length_map, hs.len] at el
  rw [x_comp, x_mkV_v, i_rg1 (n := n) el (by omega), Option.bind_some]
  rw [if_neg (by simp [lpS, h3])]
  simp only [List.map_cons, List.map_nil]
  rw [c1]
  rw [Nat.zero_add, rng_lenN] at h2
  rw [h2]
  simp [backS, lpS]
/-- _law_pairs -/
theorem lpairs_ok (k n : Nat) (hn : n ≤ 1000) (M : List (List Bool)) (hs : Sq n M) : callF tab (k + 1) 20 [matB M] none = some (.im (.lst ((tabL M n n).map prD)), none) := by
  have el : ∀ x1 x2 x3, (evB (callF tab k) (.blt "len" (.cons (.var 0) .nil))).v ⟨[.c (.im (matB M)), x1, x2, x3], none⟩ = some (.own (.im (.int (n : Int))), ⟨[.c (.im (matB M)), x1, x2, x3], none⟩) := fun x1 x2 x3 => by
    have el := e_len (cf := callF tab k) (a := .var 0) (S := ⟨[.c (.im (matB M)), x1, x2, x3], none⟩) (ds := M.map fun r => .lst (r.map bitD)) rfl rfl
    rw [List.length_map, hs.len] at el
    exact el
  obtain ⟨S', e, x2, x3, h1, _⟩ := loop_nx (t := .nm 2) (b := runs (callF tab k) l20_1) (fun i S => ∃ x2 x3, S = lpS M (tabL M n i) x2 x3 ∧ x3.isIm = true) (rngD 0 (n : Int)) (lpS M [] .no .no) 0 ⟨.no, .no, rfl, rfl⟩ (fun j d S hd hi => by
    obtain ⟨x2, x3, rfl, h3⟩ := hi
    obtain ⟨rfl, hj⟩ := rng_get hd
    rw [Nat.zero_add, tabL_succ]
    have hlen := tabL_len M n j
    have hjn : j * n ≤ 1000 * 1000 := Nat.mul_le_mul (by omega) hn
    have hrl := rowL_len M j n
    generalize tabL M n j = qs at hlen
    have hcomp := lp_comp (callF tab k) hn hs qs hj x3 h3
    have hc := o_cat (a := .im (.lst (qs.map prD))) (b := .ow (((rowL M j n).map prD).map .im)) (xs := qs.map prD) (ys := (rowL M j n).map prD) rfl (ims_map _) (by rw [List.length_map, List.length_map]; omega)
    have hadd := e_bin (cf := callF tab k) (op := .Add) (a := .var 1) (ra := .own (.im (.lst (qs.map prD)))) (S := lpS M qs (.c (.im (.int (j : Int)))) x3) rfl hcomp rfl hc
    refine ⟨_, rfl, lpS M (qs ++ rowL M j n) (.c (.im (.int (j : Int)))) x3, .inl ?_, _, _, rfl, h3⟩
    unfold l20_1
    refine r_seq (S1 := ⟨[.c (.im (matB M)), .c (.ow ((qs.map prD ++ (rowL M j n).map prD).map .im)), .c (.im (.int (j : Int))), x3], none⟩) ?_ ?_
    · rw [r_asg]
      show ((evB (callF tab k) (.bin .Add (.var 1) (.comp [("b", 3)] e20_1 (.nm 3) (.rng1 (.blt "len" (.cons (.var 0) .nil))) c20_1))).v (lpS M qs (.c (.im (.int (j : Int)))) x3)).bind _ = _
      rw [hadd]; rfl
    · rw [r_frz, r_nil, ← List.map_append]
      show some (Out.nx ⟨[_, .c (.im (.lst (Cell.frzs (((qs ++ rowL M j n).map prD).map .im)))), _, _], _⟩) = _
      rw [x_frzs_map]
      rfl)
  rw [Nat.zero_add, rng_lenN] at h1
  subst h1
  refine call_rt (ρ := (lpS M (tabL M n n) x2 x3).ρ) rfl rfl rfl rfl ?_
  unfold f20
  refine r_seq (S1 := ⟨[.c (.im (matB M)), .c (.ow []), .no, .no], none⟩) rfl ?_
  rw [r_frz]
  exact r_seq (r_for (S1 := lpS M [] .no .no) (i_rg1 (n := n) (el _ _ _) (by omega)) e) rfl
/-! ascending -/
def ltN (q r : Nat × Nat) : Prop := q.1 < r.1 ∨ (q.1 = r.1 ∧ q.2 < r.2)
theorem rowL_pw (M : List (List Bool)) (a m : Nat) : (rowL M a m).Pairwise ltN := by
  unfold rowL
  refine List.pairwise_map.mpr ((List.pairwise_lt_range.filter _).imp fun h => .inr ⟨rfl, h⟩)
theorem tabL_pw (M : List (List Bool)) (n : Nat) : ∀ m, (tabL M n m).Pairwise ltN ∧ ∀ q ∈ tabL M n m, q.1 < m
  | 0 => ⟨.nil, fun _ h => (nomatch h)⟩
  | m + 1 => by
    obtain ⟨h1, h2⟩ := tabL_pw M n m
    rw [tabL_succ]
    refine ⟨List.pairwise_append.mpr ⟨h1, rowL_pw M m n, fun q hq r hr => ?_⟩, fun q hq => ?_⟩
    · have := (mem_rowL.mp (show (r.1, r.2) ∈ rowL M m n from hr)).1
      exact .inl (by rw [this]; exact h2 q hq)
    · rcases List.mem_append.mp hq with z | z
      · exact Nat.lt_succ_of_lt (h2 q z)
      · have := (mem_rowL.mp (show (q.1, q.2) ∈ rowL M m n from z)).1
        omega
theorem ltN_nodup {l : List (Nat × Nat)} (h : l.Pairwise ltN) : l.Nodup := h.imp fun h e => by
  subst e
  rcases h with h | h
  · exact Nat.lt_irrefl _ h
  · exact Nat.lt_irrefl _ h.2
/-! turned -/
def swp (q : Nat × Nat) : Nat × Nat := (q.2, q.1)
theorem swp_inj {q r : Nat × Nat} (h : swp q = swp r) : q = r := by
  unfold swp at h
  simp only [Prod.mk.injEq] at h
  exact Prod.ext h.2 h.1
theorem mem_swp {l : List (Nat × Nat)} {a b : Nat} : (a, b) ∈ l.map swp ↔ (b, a) ∈ l := by
  rw [List.mem_map]
  refine ⟨fun ⟨q, hq, e⟩ => ?_, fun h => ⟨(b, a), h, rfl⟩⟩
  unfold swp at e
  simp only [Prod.mk.injEq] at e
  rw [← e.1, ← e.2]; exact hq
theorem pt_swp {l : List (Nat × Nat)} {a b : Nat} (h : Pt l a b) : Pt (l.map swp) b a := by
  induction h with
  | one h => exact .one (mem_swp.mpr h)
  | step h _ ih => exact ih.trans (.one (mem_swp.mpr h))
theorem swp_swp (l : List (Nat × Nat)) : (l.map swp).map swp = l := by
  rw [List.map_map]
  have : swp ∘ swp = id := funext fun q => rfl
  rw [this, List.map_id]
theorem pt_swp_iff {l : List (Nat × Nat)} {a b : Nat} : Pt (l.map swp) a b ↔ Pt l b a := ⟨fun h => by have := pt_swp h; rwa [swp_swp] at this, pt_swp⟩
theorem good_swp {n : Nat} {ps : List (Nat × Nat)} (g : Good n ps) : Good n (ps.map swp) := by
  obtain ⟨r, hr⟩ := g.rk
  obtain ⟨W, hW⟩ : ∃ W, ∀ x, x < n → r x < W := bound1 r n
  refine ⟨fun q hq => ?_, fun x => W - r x, fun q hq => ?_⟩
  · have := g.lt _ (mem_swp.mp (show (q.1, q.2) ∈ _ from hq))
    exact ⟨this.2, this.1⟩
  · have hm := mem_swp.mp (show (q.1, q.2) ∈ _ from hq)
    have h1 := hr _ hm
    have h2 := hW _ (g.lt _ hm).2
    simp only at h1 h2 ⊢
    omega
def toI (q : Nat × Nat) : Int × Int := ((q.1 : Int), (q.2 : Int))
theorem prs_prD : ∀ l : List (Nat × Nat), D.prs (l.map prD) = some (l.map toI)
  | [] => rfl
  | q :: l => by
    show (D.prs (l.map prD)).map (toI q :: ·) = _
    rw [prs_prD l]; rfl
theorem srt_toI {l : List (Nat × Nat)} (h : l.Pairwise ltN) : (l.map toI).Pairwise (fun a b => SrtO.lexB b a = false) := by
  refine List.pairwise_map.mpr (h.imp fun h => ?_)
  rw [SrtO.lexB_no]
  unfold toI
  simp only
  rcases h with h | h
  · omega
  · omega
/-- sorted of pairs -/
theorem b_sorted {l m : List (Nat × Nat)} (hp : m.Perm l) (hm : m.Pairwise ltN) : bltC "sorted" [.ow ((l.map prD).map .im)] = some (.ow ((m.map prD).map .im)) := by
  have e : sortP (l.map toI) = m.map toI := lex_uniq ((sortP_perm _).trans (hp.symm.map toI)) (sortP_srt _) (srt_toI hm)
  show (((Cell.ims ((l.map prD).map .im)).bind fun ds => match D.ints ds with
      | some is => some (.ow ((sortI is).map fun i => .im (.int i)))
      | none => (D.prs ds).map fun ps => .ow ((sortP ps).map fun q => .im (tupD q))) : Option Cell) = _
  rw [ims_map, Option.bind_some]
  cases l with
  | nil =>
    have : m = [] := hp.eq_nil
    subst this
    rfl
  | cons q l =>
    have : D.ints ((q :: l).map prD) = none := rfl
    simp only [this]
    rw [prs_prD, Option.map_some, e, List.map_map, List.map_map]
    rfl
end K04
namespace K04
open L2 Mi
/-! tables of lines -/
def lnM (n : Nat) (ls : List (Nat × Nat)) : List (List Bool) := ls.foldl (fun M q => setM (setM M q) (q.2, q.1)) (startM n)
theorem sq_lines {n : Nat} : ∀ (ls : List (Nat × Nat)) (M : List (List Bool)), (∀ q ∈ ls, q.1 < n ∧ q.2 < n) → Sq n M → Sq n (ls.foldl (fun M q => setM (setM M q) (q.2, q.1)) M) ∧ ∀ a b, bitM (ls.foldl (fun M q => setM (setM M q) (q.2, q.1)) M) a b = true ↔ (a, b) ∈ ls ∨ (b, a) ∈ ls ∨ bitM M a b = true
  | [], M, _, hs => ⟨hs, fun a b => by simp⟩
  | q :: ls, M, hp, hs => by
    have hq := hp q (List.mem_cons_self ..)
    have s1 := hs.setM (q := q) hq.1
    have s2 := s1.setM (q := (q.2, q.1)) hq.2
    obtain ⟨h1, h2⟩ := sq_lines ls (setM (setM M q) (q.2, q.1)) (fun x hx => hp x (List.mem_cons_of_mem _ hx)) s2
    refine ⟨h1, fun a b => ?_⟩
    rw [List.foldl_cons, h2, bit_setM s1 (q := (q.2, q.1)) hq.2 hq.1, bit_setM hs hq.1 hq.2]
    simp only [Bool.or_eq_true, decide_eq_true_eq, List.mem_cons, Prod.ext_iff]
    constructor
    · rintro (h | h | h | h | h)
      · exact .inl (.inr h)
      · exact .inr (.inl (.inr h))
      · exact .inr (.inl (.inl ⟨h.2, h.1⟩))
      · exact .inl (.inl h)
      · exact .inr (.inr h)
    · rintro ((h | h) | (h | h) | h)
      · exact .inr (.inr (.inr (.inl h)))
      · exact .inl h
      · exact .inr (.inr (.inl ⟨h.2, h.1⟩))
      · exact .inr (.inl h)
      · exact .inr (.inr (.inr (.inr h)))
theorem lnM_ok {n : Nat} {ls : List (Nat × Nat)} (hp : ∀ q ∈ ls, q.1 < n ∧ q.2 < n) : Sq n (lnM n ls) ∧ ∀ a b, bitM (lnM n ls) a b = true ↔ (a, b) ∈ ls ∨ (b, a) ∈ ls := by
  obtain ⟨h1, h2⟩ := sq_lines ls (startM n) hp Sq.start
  refine ⟨h1, fun a b => ?_⟩
  show bitM (ls.foldl _ _) a b = true ↔ _
  rw [h2, bit_start]
  simp
def lrS (n : Nat) (ls : List (Nat × Nat)) (M : List (List Bool)) (x3 x4 : Sl) : Sta := ⟨[.c (.im (.int (n : Int))), .c (.im (.lst (ls.map prD))), .c (matC D.bl M), x3, x4], none⟩
/-- line_rows -/
theorem line_rows_ok (k n : Nat) (hn : n ≤ 1000) (ls : List (Nat × Nat)) (hp : ∀ q ∈ ls, q.1 < n ∧ q.2 < n) : callF tab (k + 1) 9 [.int (n : Int), .lst (ls.map prD)] none = some (matC D.bl (lnM n ls), none) := by
  have hrep := o_rep (a := .ow [.im (.bl false)]) (k := (n : Int)) (xs := [.bl false]) rfl (by refine ⟨by omega, by omega, ?_⟩; simp; omega)
  obtain ⟨acc, S1, c1, y3, rfl, h2⟩ := comp_nx (vs := [3]) (t := .nm 3) (cond := (evsB (callF tab k) .nil).t) (el := (evB (callF tab k) e9_1).v)
    (fun j S acc => ∃ (y3 : Sl), S = ⟨[.c (.im (.int (n : Int))), .c (.im (.lst (ls.map prD))), .no, y3, .no], none⟩ ∧ acc = (List.replicate j (List.replicate n false)).map (rowC D.bl)) 0 (rngD 0 (n : Int))
    ⟨[.c (.im (.int (n : Int))), .c (.im (.lst (ls.map prD))), .no, .no, .no], none⟩ [] 0 ⟨.no, rfl, rfl⟩ (by rw [rng_lenN, List.length_nil]; omega) (fun j d S acc hd ⟨y3, h1, h2⟩ => by
      subst h1 h2
      refine ⟨_, rfl, true, ⟨[.c (.im (.int (n : Int))), .c (.im (.lst (ls.map prD))), .no, .c (.im d), .no], none⟩, rfl, ?_⟩
      rw [if_pos rfl]
      have e := e_bin (cf := callF tab k) (op := .Mult) (a := .lst (.cons (.bl false) .nil)) (b := .var 0) (S := ⟨[.c (.im (.int (n : Int))), .c (.im (.lst (ls.map prD))), .no, .c (.im d), .no], none⟩) (S1 := ⟨[.c (.im (.int (n : Int))), .c (.im (.lst (ls.map prD))), .no, .c (.im d), .no], none⟩) (ra := .own (.ow [.im (.bl false)])) (rb := .own (.im (.int (n : Int)))) rfl rfl rfl hrep
      refine ⟨_, _, e, _, rfl, ?_⟩
      rw [List.replicate_succ', List.map_append, Int.toNat_natCast, flat_rep]
      simp [rowC])
  rw [Nat.zero_add, rng_lenN] at h2
  obtain ⟨S2, e2, x3, x4, rfl⟩ := loop_nx (t := .tp (.cons (.nm 3) (.cons (.nm 4) .nil))) (b := runs (callF tab k) l9_1) (fun i S => ∃ x3 x4, S = lrS n ls ((ls.take i).foldl (fun M q => setM (setM M q) (q.2, q.1)) (startM n)) x3 x4) (ls.map prD) (lrS n ls (startM n) .no .no) 0 ⟨.no, .no, rfl⟩ (fun j d S hd hi => by
    obtain ⟨x3, x4, rfl⟩ := hi
    rw [List.getElem?_map] at hd
    simp only [Option.map_eq_some_iff] at hd
    obtain ⟨q, hq, rfl⟩ := hd
    have hm := hp q (List.mem_of_getElem? hq)
    have hs := (sq_lines (ls.take j) (startM n) (fun x hx => hp x (List.mem_of_mem_take hx)) Sq.start).1
    rw [Nat.zero_add]
    have e1 : (ls.take (j + 1)).foldl (fun M q => setM (setM M q) (q.2, q.1)) (startM n) = setM (setM ((ls.take j).foldl (fun M q => setM (setM M q) (q.2, q.1)) (startM n)) q) (q.2, q.1) := by
      rw [List.take_add_one, hq]; simp
    rw [e1]
    generalize (ls.take j).foldl (fun M q => setM (setM M q) (q.2, q.1)) (startM n) = M at hs ⊢
    have put : ∀ (M : List (List Bool)) (r : Nat × Nat) (i j : Nat), Sq n M → r.1 < n → r.2 < n → (lrS n ls M (.c (.im (.int (q.1 : Int)))) (.c (.im (.int (q.2 : Int))))).ρ[i]? = some (.c (.im (.int (r.1 : Int)))) → (lrS n ls M (.c (.im (.int (q.1 : Int)))) (.c (.im (.int (q.2 : Int))))).ρ[j]? = some (.c (.im (.int (r.2 : Int)))) →
        run (callF tab k) (.set2 2 (.var i) (.var j) (.bl true)) (lrS n ls M (.c (.im (.int (q.1 : Int)))) (.c (.im (.int (q.2 : Int))))) = some (.nx (lrS n ls (setM M r) (.c (.im (.int (q.1 : Int)))) (.c (.im (.int (q.2 : Int)))))) := fun M r i j hs h1 h2 hi hj => by
      obtain ⟨w, g1, g2, g3⟩ := hs.get' h1
      have e2 : setM M r = M.set r.1 (w.set r.2 true) := by unfold setM; rw [g3]
      have i1 : ixN M.length (r.1 : Int) = some r.1 := ixN_nat (by rw [hs.len]; exact h1)
      have i2 : ixN w.length (r.2 : Int) = some r.2 := ixN_nat (by rw [g2]; exact h2)
      rw [r_set2]
      simp only [x_bl, x_mkV_v, Option.bind_some, u_var, Bool.and_self, if_true, x_var, x_rdV, hi, hj, Option.map_some, x_intOf, p_at]
      show (((ixN (M.map (rowC D.bl)).length (r.1 : Int)).bind fun n' => match (M.map (rowC D.bl))[n']? with
        | some (.ow xs) => (((ixN xs.length (r.2 : Int)).map fun m => xs.set m (Cell.im (.bl true)))).map fun xs' => (⟨[.c (.im (.int (n : Int))), .c (.im (.lst (ls.map prD))), .c (.ow ((M.map (rowC D.bl)).set n' (.ow xs'))), .c (.im (.int (q.1 : Int))), .c (.im (.int (q.2 : Int)))], none⟩ : Sta)
        | _ => none).map Out.nx) = _
      have g4 : (M.map (rowC D.bl))[r.1]? = some (.ow (w.map fun b => .im (D.bl b))) := by rw [List.getElem?_map, g1]; rfl
      rw [List.length_map, i1, Option.bind_some]
      simp only [g4, List.length_map, i2, Option.map_some]
      rw [e2]
      simp [lrS, matC, rowC, List.map_set]
    have p1 := put M q 3 4 hs hm.1 hm.2 rfl rfl
    have p2 := put (setM M q) (q.2, q.1) 4 3 (hs.setM hm.1) hm.2 hm.1 rfl rfl
    exact ⟨_, rfl, _, .inl (r_seq p1 (r_seq p2 rfl)), _, _, rfl⟩)
  rw [Nat.zero_add, List.length_map, List.take_length] at e2
  refine call_rt (ρ := [.c (.im (.int (n : Int))), .c (.im (.lst (ls.map prD))), .no, x3, x4]) rfl rfl rfl rfl ?_
  · unfold f9
    refine r_seq (S1 := lrS n ls (startM n) .no .no) ?_ (r_seq (r_for (S1 := lrS n ls (startM n) .no .no) rfl e2) rfl)
    rw [r_asg]
    show ((evB (callF tab k) (.comp [("a", 3)] e9_1 (.nm 3) (.rng1 (.var 0)) .nil)).v ⟨[.c (.im (.int (n : Int))), .c (.im (.lst (ls.map prD))), .no, .no, .no], none⟩).bind _ = _
    rw [x_comp, x_mkV_v, i_rg1 (n := n) rfl (by omega), Option.bind_some]
    rw [if_neg (by simp [Sl.isIm])]
    simp only [List.map_cons, List.map_nil]
    rw [c1, h2]
    rfl
/-! graphs -/
def grM (n : Nat) (M : List (List Bool)) : List (List Bool) := (List.range n).map fun a => (List.range n).map fun b => bitM M a b || bitM M b a
theorem grM_ok (n : Nat) (M : List (List Bool)) : Sq n (grM n M) ∧ ∀ a b, a < n → b < n → bitM (grM n M) a b = (bitM M a b || bitM M b a) := by
  refine ⟨⟨by simp [grM], fun r hr => ?_⟩, fun a b ha hb => ?_⟩
  · unfold grM at hr
    obtain ⟨a, _, rfl⟩ := List.mem_map.mp hr
    simp
  · show (((List.range n).map fun a => (List.range n).map fun b => bitM M a b || bitM M b a).getD a []).getD b false = _
    simp [List.getD_eq_getElem?_getD, List.getElem?_range, ha, hb]
theorem sq_ext {n : Nat} {M N : List (List Bool)} (hM : Sq n M) (hN : Sq n N) (h : ∀ a b, a < n → b < n → bitM M a b = bitM N a b) : M = N := by
  refine List.ext_getElem? fun a => ?_
  by_cases ha : a < n
  · obtain ⟨r, g1, g2, g3⟩ := hM.get' ha
    obtain ⟨s, k1, k2, k3⟩ := hN.get' ha
    rw [g1, k1]
    congr 1
    refine List.ext_getElem? fun b => ?_
    by_cases hb : b < n
    · have := h a b ha hb
      unfold bitM at this
      rw [g3, k3, List.getD_eq_getElem?_getD, List.getD_eq_getElem?_getD, List.getElem?_eq_getElem (by omega), List.getElem?_eq_getElem (by omega)] at this
      rw [List.getElem?_eq_getElem (by omega), List.getElem?_eq_getElem (by omega)]
      exact congrArg some this
    · rw [List.getElem?_eq_none (by omega), List.getElem?_eq_none (by omega)]
  · rw [List.getElem?_eq_none (by rw [hM.len]; omega), List.getElem?_eq_none (by rw [hN.len]; omega)]
end K04
namespace K04
open L2 Mi
/-- checked_lines -/
theorem checked_lines_ok (k n : Nat) (h1 : 1 ≤ n) (h2 : n ≤ 40) (ls : List (Nat × Nat)) (hl : ls.length ≤ 1600) (h : ∀ q ∈ ls, q.1 < n ∧ q.2 < n ∧ q.1 ≠ q.2) : callF tab (k + 6) 10 [.int (n : Int), .lst (ls.map prD)] none = some (matC D.bl (lnM n ls), none) := by
  have e5 := check_ok k n h1 h2 ls hl h
  have e9 := line_rows_ok (k + 4) n (by omega) ls fun q hq => ⟨(h q hq).1, (h q hq).2.1⟩
  refine call_rt (ρ := [.c (.im (.int (n : Int))), .c (.im (.lst (ls.map prD)))]) rfl rfl rfl rfl ?_
  unfold f10
  have s9 := e_call (cf := callF tab (k + 5)) (f := 9) (es := .cons (.var 0) (.cons (.var 1) .nil)) (S := ⟨[.c (.im (.int (n : Int))), .c (.im (.lst (ls.map prD)))], none⟩) (S2 := ⟨[.c (.im (.int (n : Int))), .c (.im (.lst (ls.map prD)))], none⟩) (rs := [.own (.im (.int (n : Int))), .own (.im (.lst (ls.map prD)))]) rfl rfl e9
  refine r_seq (S1 := ⟨[.c (.im (.int (n : Int))), .c (.im (.lst (ls.map prD)))], none⟩) (by rw [r_ex]; exact congrArg _ (e_call (cf := callF tab (k + 5)) (f := 5) (es := .cons (.var 0) (.cons (.var 1) .nil)) (S2 := ⟨[.c (.im (.int (n : Int))), .c (.im (.lst (ls.map prD)))], none⟩) (rs := [.own (.im (.int (n : Int))), .own (.im (.lst (ls.map prD)))]) rfl rfl e5)) ?_
  rw [r_cons, r_ret]
  show (((evB (callF tab (k + 5)) (.call 9 (.cons (.var 0) (.cons (.var 1) .nil)))).v ⟨[.c (.im (.int (n : Int))), .c (.im (.lst (ls.map prD)))], none⟩).bind _).bind _ = _
  rw [s9]
  rfl
def grS (M : List (List Bool)) (n : Nat) (x2 x3 : Sl) : Sta := ⟨[.c (.im (matD M)), .c (.im (.int (n : Int))), x2, x3], none⟩
theorem gr_row (cf : CF) {n : Nat} (hn : n ≤ 1000) {M : List (List Bool)} (hs : Sq n M) {a : Nat} (ha : a < n) :
    (evB cf e11_1).v (grS M n (.c (.im (.int (a : Int)))) .no) = some (.own (rowC D.bl ((List.range n).map fun b => bitM M a b || bitM M b a)), grS M n (.c (.im (.int (a : Int)))) .no) := by
  obtain ⟨acc, S1, c1, y3, rfl, h2⟩ := comp_nx (vs := [3]) (t := .nm 3) (cond := (evsB cf .nil).t) (el := (evB cf e11_2).v)
    (fun j S acc => ∃ (y3 : Sl), S = grS M n (.c (.im (.int (a : Int)))) y3 ∧ acc = ((List.range j).map fun b => bitM M a b || bitM M b a).map fun b => Cell.im (D.bl b)) 0 (rngD 0 (n : Int))
    (grS M n (.c (.im (.int (a : Int)))) .no) [] 0 ⟨.no, rfl, rfl⟩ (by rw [rng_lenN, List.length_nil]; omega) (fun j d S acc hd ⟨y3, h1, h2⟩ => by
      subst h1 h2
      obtain ⟨rfl, hj⟩ := rng_get hd
      have b1 := e_bit (cf := cf) (enc := D.bl) hs (S := grS M n (.c (.im (.int (a : Int)))) (.c (.im (.int (j : Int))))) (t := 0) (i := 2) (j := 3) rfl rfl rfl ha hj
      have b2 := e_bit (cf := cf) (enc := D.bl) hs (S := grS M n (.c (.im (.int (a : Int)))) (.c (.im (.int (j : Int))))) (t := 0) (i := 3) (j := 2) rfl rfl rfl hj ha
      refine ⟨_, rfl, true, grS M n (.c (.im (.int (a : Int)))) (.c (.im (.int (j : Int)))), rfl, ?_⟩
      rw [if_pos rfl]
      refine ⟨.im (.bl (bitM M a j || bitM M j a)), grS M n (.c (.im (.int (a : Int)))) (.c (.im (.int (j : Int)))), ?_, _, rfl, ?_⟩
      · unfold e11_2
        rw [x_or_v, b1, Option.bind_some]
        cases bitM M a j with
        | true => rfl
        | false =>
          show (evB cf (.one (.idx (.idx (.var 0) (.var 3)) (.var 2)))).v _ = _
          rw [x_one, b2]; rfl
      · rw [Nat.zero_add, List.range_succ]
        simp)
  unfold e11_1
  rw [x_comp, x_mkV_v, i_rg1 (n := n) (S1 := grS M n (.c (.im (.int (a : Int)))) .no) rfl (by omega), Option.bind_some]
  rw [if_neg (by simp [grS, Sl.isIm])]
  simp only [List.map_cons, List.map_nil]
  rw [c1]
  rw [Nat.zero_add, rng_lenN] at h2
  rw [h2]
  simp [backS, grS, rowC]
/-- graph_rows -/
theorem graph_rows_ok (k n : Nat) (hn : n ≤ 1000) (M : List (List Bool)) (hs : Sq n M) : callF tab (k + 1) 11 [matD M] none = some (matC D.bl (grM n M), none) := by
  obtain ⟨acc, S1, c1, y2, rfl, h2⟩ := comp_nx (vs := [2]) (t := .nm 2) (cond := (evsB (callF tab k) .nil).t) (el := (evB (callF tab k) e11_1).v)
    (fun j S acc => ∃ (y2 : Sl), S = grS M n y2 .no ∧ acc = ((List.range j).map fun a => (List.range n).map fun b => bitM M a b || bitM M b a).map (rowC D.bl)) 0 (rngD 0 (n : Int))
    (grS M n .no .no) [] 0 ⟨.no, rfl, rfl⟩ (by rw [rng_lenN, List.length_nil]; omega) (fun j d S acc hd ⟨y2, h1, h2⟩ => by
      subst h1 h2
      obtain ⟨rfl, hj⟩ := rng_get hd
      refine ⟨_, rfl, true, grS M n (.c (.im (.int (j : Int)))) .no, rfl, ?_⟩
      rw [if_pos rfl]
      refine ⟨_, _, gr_row (callF tab k) hn hs hj, _, rfl, ?_⟩
      rw [Nat.zero_add, List.range_succ]
      simp)
  have el := e_len (cf := callF tab k) (a := .var 0) (S := ⟨[.c (.im (matD M)), .no, .no, .no], none⟩) (ds := M.map fun r => .lst (r.map D.bl)) rfl rfl
  rw [List.length_map, hs.len] at el
  refine call_rt (ρ := (grS M n .no .no).ρ) rfl rfl rfl rfl ?_
  unfold f11
  refine r_seq (S1 := grS M n .no .no) (by
    rw [r_asg]
    show ((evB (callF tab k) (.blt "len" (.cons (.var 0) .nil))).v ⟨[.c (.im (matD M)), .no, .no, .no], none⟩).bind _ = _
    rw [el]; rfl) ?_
  rw [r_cons, r_ret, x_comp, x_mkV_v, i_rg1 (n := n) (S1 := grS M n .no .no) rfl (by omega), Option.bind_some]
  rw [if_neg (by simp [grS, Sl.isIm])]
  simp only [List.map_cons, List.map_nil]
  rw [c1]
  rw [Nat.zero_add, rng_lenN] at h2
  rw [h2]
  rfl
/-! lines -/
def upL (M : List (List Bool)) (n : Nat) : List (Nat × Nat) := (tabL M n n).filter fun q => decide (q.1 < q.2)
theorem lt_cond {cf : CF} {i j : Nat} {S : Sta} {a b : Nat} (hi : S.ρ[i]? = some (.c (.im (.int (a : Int))))) (hj : S.ρ[j]? = some (.c (.im (.int (b : Int))))) : (evB cf (.cmp .Lt (.var i) (.var j))).t S = some (decide (a < b), S) := by
  have vi : (evB cf (.var i)).v S = some (.own (.im (.int (a : Int))), S) := by rw [x_var, x_mkV_v, x_rdV, hi]; rfl
  have vj : (evB cf (.var j)).v S = some (.own (.im (.int (b : Int))), S) := by rw [x_var, x_mkV_v, x_rdV, hj]; rfl
  refine e_cmpT vi vj rfl ?_
  show some (decide ((a : Int) < (b : Int))) = _
  congr 1
  by_cases h : a < b
  · rw [decide_eq_true h, decide_eq_true (by omega)]
  · rw [decide_eq_false h, decide_eq_false (by omega)]
/-- the ones that go up, of what a call gives -/
theorem up_comp (cf : CF) (d : D) (ps : List (Nat × Nat)) (hz : ps.length ≤ 1000000) (it : MI) (e : ME) (c : Es) (he : e = .tup (.cons (.var 1) (.cons (.var 2) .nil))) (hc : c = .cons (.cmp .Lt (.var 1) (.var 2)) .nil)
    (src : evIB cf it ⟨[.c (.im d), .no, .no], none⟩ = some (false, ps.map prD, ⟨[.c (.im d), .no, .no], none⟩)) :
    (evB cf (.comp [("a", 1), ("b", 2)] e (.tp (.cons (.nm 1) (.cons (.nm 2) .nil))) it c)).v ⟨[.c (.im d), .no, .no], none⟩ = some (.own (.ow (((ps.filter fun q => decide (q.1 < q.2)).map prD).map .im)), ⟨[.c (.im d), .no, .no], none⟩) := by
  subst he hc
  obtain ⟨acc, S1, c1, y1, y2, rfl, h2⟩ := comp_nx (vs := [1, 2]) (t := .tp (.cons (.nm 1) (.cons (.nm 2) .nil))) (cond := (evsB cf (.cons (.cmp .Lt (.var 1) (.var 2)) .nil)).t) (el := (evB cf (.tup (.cons (.var 1) (.cons (.var 2) .nil)))).v)
    (fun j S acc => ∃ (y1 y2 : Sl), S = ⟨[.c (.im d), y1, y2], none⟩ ∧ acc = (((ps.take j).filter fun q => decide (q.1 < q.2)).map prD).map .im) 0 (ps.map prD)
    ⟨[.c (.im d), .no, .no], none⟩ [] 0 ⟨.no, .no, rfl, rfl⟩ (by rw [List.length_map, List.length_nil]; omega) (fun j dd S acc hd ⟨y1, y2, h1, h2⟩ => by
      subst h1 h2
      rw [List.getElem?_map] at hd
      simp only [Option.map_eq_some_iff] at hd
      obtain ⟨q, hq, rfl⟩ := hd
      have hcd := lt_cond (cf := cf) (i := 1) (j := 2) (S := ⟨[.c (.im d), .c (.im (.int (q.1 : Int))), .c (.im (.int (q.2 : Int)))], none⟩) (a := q.1) (b := q.2) rfl rfl
      refine ⟨_, rfl, decide (q.1 < q.2), ⟨[.c (.im d), .c (.im (.int (q.1 : Int))), .c (.im (.int (q.2 : Int)))], none⟩, hcd, ?_⟩
      rw [Nat.zero_add, List.take_add_one, hq, List.filter_append]
      by_cases hlt : q.1 < q.2
      · rw [if_pos (decide_eq_true hlt)]
        exact ⟨.im (prD q), ⟨[.c (.im d), .c (.im (.int (q.1 : Int))), .c (.im (.int (q.2 : Int)))], none⟩, rfl, _, _, rfl, by simp [hlt]⟩
      · rw [if_neg (by simpa using hlt)]
        exact ⟨_, _, rfl, by simp [hlt]⟩)
  rw [x_comp, x_mkV_v, src, Option.bind_some]
  rw [if_neg (by simp [Sl.isIm])]
  simp only [List.map_cons, List.map_nil]
  rw [c1]
  rw [Nat.zero_add, List.length_map, List.take_length] at h2
  rw [h2]
  simp [backS]
/-- lines_by -/
theorem lines_by_ok (k n : Nat) (hn : n ≤ 1000) (M : List (List Bool)) (hs : Sq n M) : callF tab (k + 2) 12 [matD M] none = some (.ow (((upL M n).map prD).map .im), none) := by
  have e8 := pairs_by_ok k n hn M hs
  have s8 := e_call (cf := callF tab (k + 1)) (f := 8) (es := .cons (.var 0) .nil) (S := ⟨[.c (.im (matD M)), .no, .no], none⟩) (S2 := ⟨[.c (.im (matD M)), .no, .no], none⟩) (rs := [.own (.im (matD M))]) rfl rfl e8
  have src : evIB (callF tab (k + 1)) (.ex (.call 8 (.cons (.var 0) .nil))) ⟨[.c (.im (matD M)), .no, .no], none⟩ = some (false, (tabL M n n).map prD, ⟨[.c (.im (matD M)), .no, .no], none⟩) := by
    rw [x_iex, s8, Option.bind_some]
    show (some (Cell.frzs (((tabL M n n).map prD).map .im))).map _ = _
    rw [x_frzs_map]; rfl
  have hz : (tabL M n n).length ≤ 1000000 := by have := tabL_len M n n; have : n * n ≤ 1000 * 1000 := Nat.mul_le_mul hn hn; omega
  have hc := up_comp (callF tab (k + 1)) (matD M) (tabL M n n) hz _ e12_1 c12_1 rfl rfl src
  refine call_rt (ρ := [.c (.im (matD M)), .no, .no]) rfl rfl rfl rfl ?_
  unfold f12
  rw [r_cons, r_ret]
  show (((evB (callF tab (k + 1)) (.comp [("a", 1), ("b", 2)] e12_1 (.tp (.cons (.nm 1) (.cons (.nm 2) .nil))) (.ex (.call 8 (.cons (.var 0) .nil))) c12_1)).v ⟨[.c (.im (matD M)), .no, .no], none⟩).bind _).bind _ = _
  rw [hc]
  rfl
/-- what graph_of gives -/
def lins (n : Nat) (ps : List (Nat × Nat)) : List (Nat × Nat) := upL (grM n (tabM n ps)) n
theorem graph_of_ok (k n : Nat) (h1 : 1 ≤ n) (h2 : n ≤ 40) (ps : List (Nat × Nat)) (hl : ps.length ≤ 1600) (g : Good n ps) : callF tab (k + 7) 13 [.int (n : Int), .lst (ps.map prD)] none = some (.ow (((lins n ps).map prD).map .im), none) := by
  have e7 := checked_ok k n h1 h2 ps hl g
  have hs := (ahead_ok 0 n (by omega) ps g.lt).2
  have e11 := graph_rows_ok (k + 5) n (by omega) (tabM n ps) hs
  have e12 := lines_by_ok (k + 4) n (by omega) (grM n (tabM n ps)) (grM_ok n _).1
  refine call_rt (ρ := [.c (.im (.int (n : Int))), .c (.im (.lst (ps.map prD)))]) rfl rfl rfl rfl ?_
  unfold f13
  have s7 := e_call (cf := callF tab (k + 6)) (f := 7) (es := .cons (.var 0) (.cons (.var 1) .nil)) (S := ⟨[.c (.im (.int (n : Int))), .c (.im (.lst (ps.map prD)))], none⟩) (S2 := ⟨[.c (.im (.int (n : Int))), .c (.im (.lst (ps.map prD)))], none⟩) (rs := [.own (.im (.int (n : Int))), .own (.im (.lst (ps.map prD)))]) rfl rfl e7
  have s11 := e_call (cf := callF tab (k + 6)) (f := 11) (es := .cons (.call 7 (.cons (.var 0) (.cons (.var 1) .nil))) .nil) (S := ⟨[.c (.im (.int (n : Int))), .c (.im (.lst (ps.map prD)))], none⟩) (S2 := ⟨[.c (.im (.int (n : Int))), .c (.im (.lst (ps.map prD)))], none⟩) (rs := [.own (.im (matD (tabM n ps)))]) (by rw [x_cons_v, s7]; rfl) rfl e11
  have s12 := e_call (cf := callF tab (k + 6)) (f := 12) (es := .cons (.call 11 (.cons (.call 7 (.cons (.var 0) (.cons (.var 1) .nil))) .nil)) .nil) (S := ⟨[.c (.im (.int (n : Int))), .c (.im (.lst (ps.map prD)))], none⟩) (S2 := ⟨[.c (.im (.int (n : Int))), .c (.im (.lst (ps.map prD)))], none⟩) (rs := [.own (matC D.bl (grM n (tabM n ps)))]) (cs := [matC D.bl (grM n (tabM n ps))]) (c := .ow (((lins n ps).map prD).map .im)) (u := none) (by rw [x_cons_v, s11]; rfl) rfl (by
    show callF tab (k + 6) 12 [(matC D.bl (grM n (tabM n ps))).frz] none = _
    rw [mat_frz]
    exact e12)
  rw [r_cons, r_ret]
  show (((evB (callF tab (k + 6)) (.call 12 (.cons (.call 11 (.cons (.call 7 (.cons (.var 0) (.cons (.var 1) .nil))) .nil)) .nil))).v ⟨[.c (.im (.int (n : Int))), .c (.im (.lst (ps.map prD)))], none⟩).bind _).bind _ = _
  rw [s12]
  rfl
end K04
namespace K04
open L2 Mi
/-! what is a pair, for any value -/
theorem num_bl (k : Nat) (b : Bool) : callF tab (k + 1) 0 [.bl b] none = some (.im (.bl false), none) := by cases b <;> rfl
theorem num_non (k : Nat) : callF tab (k + 1) 0 [.non] none = some (.im (.bl false), none) := rfl
theorem place_int (k n : Nat) (v : Int) : callF tab (k + 2) 1 [.int (n : Int), .int v] none = some (.im (.bl (decide (0 ≤ v) && decide (v < (n : Int)))), none) := by
  refine call_rt (ρ := [.c (.im (.int (n : Int))), .c (.im (.int v))]) rfl rfl rfl rfl ?_
  by_cases h0 : 0 ≤ v
  · by_cases h1 : v < (n : Int) <;> simp [f1, start0, number_ok, h0, h1]
  · simp [f1, start0, number_ok, h0]
theorem place_bl (k n : Nat) (b : Bool) : callF tab (k + 2) 1 [.int (n : Int), .bl b] none = some (.im (.bl false), none) := by
  refine call_rt (ρ := [.c (.im (.int (n : Int))), .c (.im (.bl b))]) rfl rfl rfl rfl ?_
  simp [f1, start0, num_bl]
theorem place_non (k n : Nat) : callF tab (k + 2) 1 [.int (n : Int), .non] none = some (.im (.bl false), none) := by
  refine call_rt (ρ := [.c (.im (.int (n : Int))), .c (.im .non)]) rfl rfl rfl rfl ?_
  simp [f1, start0, num_non]
theorem pair_no (k n : Nat) (d : D) (h : isiOne d "tuple" = some false) : callF tab (k + 3) 2 [.int (n : Int), d] none = some (.im (.bl false), none) := by
  refine call_rt (ρ := [.c (.im (.int (n : Int))), .c (.im d)]) rfl rfl rfl rfl ?_
  simp [f2, start0, h]
theorem pair_len (k n : Nat) (ds : List D) (h : ds.length ≠ 2) : callF tab (k + 3) 2 [.int (n : Int), .tup ds] none = some (.im (.bl false), none) := by
  refine call_rt (ρ := [.c (.im (.int (n : Int))), .c (.im (.tup ds))]) rfl rfl rfl rfl ?_
  have h2 : (((ds.length : Nat) : Int) == 2) = false := by simp; omega
  simp [f2, start0, isi_tup, h2]
theorem pair_fst (k n : Nat) (x y : D) (h : callF tab (k + 2) 1 [.int (n : Int), x] none = some (.im (.bl false), none)) : callF tab (k + 3) 2 [.int (n : Int), .tup [x, y]] none = some (.im (.bl false), none) := by
  refine call_rt (ρ := [.c (.im (.int (n : Int))), .c (.im (.tup [x, y]))]) rfl rfl rfl rfl ?_
  simp [f2, start0, isi_tup, h]
theorem pair_snd (k n : Nat) (x y : D) (h0 : callF tab (k + 2) 1 [.int (n : Int), x] none = some (.im (.bl true), none)) (h : callF tab (k + 2) 1 [.int (n : Int), y] none = some (.im (.bl false), none)) : callF tab (k + 3) 2 [.int (n : Int), .tup [x, y]] none = some (.im (.bl false), none) := by
  refine call_rt (ρ := [.c (.im (.int (n : Int))), .c (.im (.tup [x, y]))]) rfl rfl rfl rfl ?_
  simp [f2, start0, isi_tup, h0, h]
theorem pair_same (k n a : Nat) (ha : a < n) : callF tab (k + 3) 2 [.int (n : Int), prD (a, a)] none = some (.im (.bl false), none) := by
  refine call_rt (ρ := [.c (.im (.int (n : Int))), .c (.im (prD (a, a)))]) rfl rfl rfl rfl ?_
  simp [f2, start0, prD, isi_tup, place_ok (k := k) _ _ ha]
/-- the wrong ones -/
def wrongs (n a far : Nat) : List D := [prD (a, a), .tup [.int (a : Int), .int ((n : Int) + (far : Int))], .tup [.int (-1 - (far : Int)), .int (a : Int)], .lst [.int 0, .int 1], .tup [.int (a : Int), .int 0, .int 1], .tup [.int (a : Int)], .tup [], .non, .int (a : Int), .str "01",
  .tup [.int (a : Int), .non], .tup [.bl true, .int 0], .tup [.int 0, .bl true]]
theorem wrong_pair (k n a far : Nat) (ha : a < n) : ∀ w ∈ wrongs n a far, callF tab (k + 3) 2 [.int (n : Int), w] none = some (.im (.bl false), none) := by
  have pa : callF tab (k + 2) 1 [.int (n : Int), .int (a : Int)] none = some (.im (.bl true), none) := by
    rw [place_int]
    rw [decide_eq_true (show (0 : Int) ≤ (a : Int) by omega), decide_eq_true (show (a : Int) < (n : Int) by omega)]; rfl
  have p0 : callF tab (k + 2) 1 [.int (n : Int), .int 0] none = some (.im (.bl true), none) := by
    rw [place_int]
    rw [decide_eq_true (show (0 : Int) ≤ 0 by omega), decide_eq_true (show (0 : Int) < (n : Int) by omega)]; rfl
  intro w hw
  simp only [wrongs, List.mem_cons, List.not_mem_nil, or_false] at hw
  rcases hw with rfl | rfl | rfl | rfl | rfl | rfl | rfl | rfl | rfl | rfl | rfl | rfl | rfl
  · exact pair_same k n a ha
  · refine pair_snd k n _ _ pa ?_
    rw [place_int, decide_eq_false (show ¬ ((n : Int) + (far : Int) < (n : Int)) by omega), Bool.and_false]
  · refine pair_fst k n _ _ ?_
    rw [place_int, decide_eq_false (show ¬ ((0 : Int) ≤ -1 - (far : Int)) by omega), Bool.false_and]
  · exact pair_no k n _ rfl
  · exact pair_len k n _ (by simp)
  · exact pair_len k n _ (by simp)
  · exact pair_len k n _ (by simp)
  · exact pair_no k n _ rfl
  · exact pair_no k n _ rfl
  · exact pair_no k n _ rfl
  · exact pair_snd k n _ _ pa (place_non k n)
  · exact pair_fst k n _ _ (place_bl k n true)
  · exact pair_snd k n _ _ p0 (place_bl k n true)
/-! lists of pairs, for any value -/
theorem list_any (k n : Nat) (ds : List D) (hl : ds.length ≤ 1600) (f : D → Bool) (h : ∀ d ∈ ds, callF tab (k + 3) 2 [.int (n : Int), d] none = some (.im (.bl (f d)), none)) : callF tab (k + 4) 3 [.int (n : Int), .lst ds] none = some (.im (.bl (ds.all f)), none) := by
  obtain ⟨acc, S1, c1, y2, rfl, h2⟩ := comp_nx (vs := [2]) (t := .nm 2) (cond := (evsB (callF tab (k + 3)) .nil).t) (el := (evB (callF tab (k + 3)) e3_1).v)
    (fun j S acc => ∃ (y2 : Sl), S = ⟨[.c (.im (.int (n : Int))), .c (.im (.lst ds)), y2], none⟩ ∧ acc = (((ds.take j).map f).map D.bl).map .im) 0 ds
    ⟨[.c (.im (.int (n : Int))), .c (.im (.lst ds)), .no], none⟩ [] 0 ⟨.no, rfl, rfl⟩ (by simp; omega) (fun j d S acc hd ⟨y2, h1, h2⟩ => by
      subst h1 h2
      have hc := h d (List.mem_of_getElem? hd)
      refine ⟨_, rfl, true, ⟨[.c (.im (.int (n : Int))), .c (.im (.lst ds)), .c (.im d)], none⟩, rfl, ?_⟩
      rw [if_pos rfl]
      refine ⟨.im (.bl (f d)), _, e_call (cf := callF tab (k + 3)) (f := 2) (es := .cons (.var 0) (.cons (.var 2) .nil)) (rs := [.own (.im (.int (n : Int))), .own (.im d)]) rfl rfl hc, _, rfl, ?_⟩
      rw [Nat.zero_add, List.take_add_one, hd]
      simp)
  rw [Nat.zero_add, List.take_length] at h2
  have hall := b_all (c := .ow (((ds.map f).map D.bl).map .im)) (ds := (ds.map f).map D.bl) (bs := ds.map f) (by rw [x_frz_ow, x_frzs_map]) (by
    induction ds.map f with
    | nil => rfl
    | cons b bs ih =>
      show (D.bls (bs.map D.bl)).map (b :: ·) = _
      rw [ih]; rfl)
  have hcomp : (evB (callF tab (k + 3)) (.comp [("pair", 2)] e3_1 (.nm 2) (.ex (.var 1)) .nil)).v ⟨[.c (.im (.int (n : Int))), .c (.im (.lst ds)), .no], none⟩ = some (.own (.ow (((ds.map f).map D.bl).map .im)), ⟨[.c (.im (.int (n : Int))), .c (.im (.lst ds)), .no], none⟩) := by
    have src : evIB (callF tab (k + 3)) (.ex (.var 1)) ⟨[.c (.im (.int (n : Int))), .c (.im (.lst ds)), .no], none⟩ = some (false, ds, ⟨[.c (.im (.int (n : Int))), .c (.im (.lst ds)), .no], none⟩) := rfl
    rw [x_comp, x_mkV_v, src, Option.bind_some]
    rw [if_neg (by simp [Sl.isIm])]
    simp only [List.map_cons, List.map_nil]
    rw [c1, h2]
    simp [backS]
  refine call_rt (ρ := [.c (.im (.int (n : Int))), .c (.im (.lst ds)), .no]) rfl rfl rfl rfl ?_
  have hle : decide (((ds.length : Nat) : Int) ≤ 1600) = true := decide_eq_true (by omega)
  have s1 : (evB (callF tab (k + 3)) (.isi (.var 1) false ["list"])).v ⟨[.c (.im (.int (n : Int))), .c (.im (.lst ds)), .no], none⟩ = some (.own (.im (.bl true)), ⟨[.c (.im (.int (n : Int))), .c (.im (.lst ds)), .no], none⟩) := by simp [isi_lst]
  have s2 : (evB (callF tab (k + 3)) (.cmp .LtE (.blt "len" (.cons (.var 1) .nil)) (.glob "MOST_PAIRS" 1600))).v ⟨[.c (.im (.int (n : Int))), .c (.im (.lst ds)), .no], none⟩ = some (.own (.im (.bl true)), ⟨[.c (.im (.int (n : Int))), .c (.im (.lst ds)), .no], none⟩) := by
    simp; omega
  have s3 : (evB (callF tab (k + 3)) (.blt "all" (.cons (.comp [("pair", 2)] e3_1 (.nm 2) (.ex (.var 1)) .nil) .nil))).v ⟨[.c (.im (.int (n : Int))), .c (.im (.lst ds)), .no], none⟩ = some (.own (.im (.bl ((ds.map f).all id))), ⟨[.c (.im (.int (n : Int))), .c (.im (.lst ds)), .no], none⟩) := by
    rw [x_blt, x_mkV_v, x_cons_v, hcomp]
    show (bltC "all" [Cell.ow (((ds.map f).map D.bl).map .im)]).map _ = _
    rw [hall]; rfl
  unfold f3
  show runs _ _ ⟨[.c (.im (.int (n : Int))), .c (.im (.lst ds)), .no], none⟩ = _
  rw [r_cons, r_ret, v_andT s1, v_andT s2, x_one, s3, List.all_map]
  rfl
theorem list_long (k n : Nat) (ds : List D) (hl : 1600 < ds.length) : callF tab (k + 4) 3 [.int (n : Int), .lst ds] none = some (.im (.bl false), none) := by
  refine call_rt (ρ := [.c (.im (.int (n : Int))), .c (.im (.lst ds)), .no]) rfl rfl rfl rfl ?_
  have s1 : (evB (callF tab (k + 3)) (.isi (.var 1) false ["list"])).v ⟨[.c (.im (.int (n : Int))), .c (.im (.lst ds)), .no], none⟩ = some (.own (.im (.bl true)), ⟨[.c (.im (.int (n : Int))), .c (.im (.lst ds)), .no], none⟩) := by simp [isi_lst]
  have s2 : (evB (callF tab (k + 3)) (.cmp .LtE (.blt "len" (.cons (.var 1) .nil)) (.glob "MOST_PAIRS" 1600))).v ⟨[.c (.im (.int (n : Int))), .c (.im (.lst ds)), .no], none⟩ = some (.own (.im (.bl false)), ⟨[.c (.im (.int (n : Int))), .c (.im (.lst ds)), .no], none⟩) := by
    simp; omega
  unfold f3
  show runs _ _ ⟨[.c (.im (.int (n : Int))), .c (.im (.lst ds)), .no], none⟩ = _
  rw [r_cons, r_ret, v_andT s1, v_andF s2]
  rfl
theorem list_no (k n : Nat) (d : D) (h : isiOne d "list" = some false) : callF tab (k + 4) 3 [.int (n : Int), d] none = some (.im (.bl false), none) := by
  refine call_rt (ρ := [.c (.im (.int (n : Int))), .c (.im d), .no]) rfl rfl rfl rfl ?_
  have s1 : (evB (callF tab (k + 3)) (.isi (.var 1) false ["list"])).v ⟨[.c (.im (.int (n : Int))), .c (.im d), .no], none⟩ = some (.own (.im (.bl false)), ⟨[.c (.im (.int (n : Int))), .c (.im d), .no], none⟩) := by simp [h]
  unfold f3
  show runs _ _ ⟨[.c (.im (.int (n : Int))), .c (.im d), .no], none⟩ = _
  rw [r_cons, r_ret, v_andF s1]
  rfl
end K04
namespace K04
open L2 Mi
/-! == of tables and of lists of pairs -/
theorem shps_bl (k : Nat) : ∀ r : List Bool, D.shps k (r.map D.bl) = true
  | [] => by cases k <;> rfl
  | b :: r => by
    show ((D.bl b).shp k && D.shps k (r.map D.bl)) = true
    rw [shps_bl k r]
    cases k <;> rfl
theorem shps_mat (k : Nat) : ∀ M : List (List Bool), D.shps (k + 1) (M.map fun r => .lst (r.map D.bl)) = true
  | [] => rfl
  | r :: M => by
    show ((D.lst (r.map D.bl)).shp (k + 1) && D.shps (k + 1) (M.map fun r => .lst (r.map D.bl))) = true
    rw [shps_mat k M]
    show (D.shps k (r.map D.bl) && true) = true
    rw [shps_bl k r]; rfl
theorem eqvs_bl : ∀ r s : List Bool, D.eqvs (r.map D.bl) (s.map D.bl) = decide (r = s)
  | [], [] => rfl
  | [], _ :: _ => rfl
  | _ :: _, [] => rfl
  | b :: r, c :: s => by
    show ((D.bl b).eqv (D.bl c) && D.eqvs (r.map D.bl) (s.map D.bl)) = _
    rw [eqvs_bl r s]
    show ((b == c) && decide (r = s)) = _
    by_cases h1 : b = c <;> by_cases h2 : r = s <;> simp [h1, h2]
theorem eqvs_mat : ∀ M N : List (List Bool), D.eqvs (M.map fun r => .lst (r.map D.bl)) (N.map fun r => .lst (r.map D.bl)) = decide (M = N)
  | [], [] => rfl
  | [], _ :: _ => rfl
  | _ :: _, [] => rfl
  | b :: r, c :: s => by
    show ((D.lst (b.map D.bl)).eqv (D.lst (c.map D.bl)) && D.eqvs (r.map fun r => .lst (r.map D.bl)) (s.map fun r => .lst (r.map D.bl))) = _
    rw [eqvs_mat r s]
    show (D.eqvs (b.map D.bl) (c.map D.bl) && decide (r = s)) = _
    rw [eqvs_bl b c]
    by_cases h1 : b = c <;> by_cases h2 : r = s <;> simp [h1, h2]
theorem eq_mat (M N : List (List Bool)) : scmp .Eq (matD M) (matD N) = some (decide (M = N)) := by
  show (if (D.shps 59 (M.map fun r => .lst (r.map D.bl)) && D.shps 59 (N.map fun r => .lst (r.map D.bl))) = true then some (D.eqvs (M.map fun r => .lst (r.map D.bl)) (N.map fun r => .lst (r.map D.bl))) else none) = _
  rw [shps_mat 58 M, shps_mat 58 N, eqvs_mat M N]
  rfl
theorem shp_prD (k : Nat) (q : Nat × Nat) : (prD q).shp (k + 1) = true := by
  show (D.shps k [.int (q.1 : Int), .int (q.2 : Int)]) = true
  cases k <;> rfl
theorem shps_prD (k : Nat) : ∀ l : List (Nat × Nat), D.shps (k + 1) (l.map prD) = true
  | [] => rfl
  | q :: l => by
    show ((prD q).shp (k + 1) && D.shps (k + 1) (l.map prD)) = true
    rw [shps_prD k l, shp_prD k q]; rfl
theorem eqv_prD (q r : Nat × Nat) : (prD q).eqv (prD r) = decide (q = r) := by
  show (((q.1 : Int) == (r.1 : Int)) && (((q.2 : Int) == (r.2 : Int)) && true)) = _
  by_cases h : q = r
  · subst h; simp
  · have : ¬ ((q.1 : Int) = r.1 ∧ (q.2 : Int) = r.2) := fun z => h (Prod.ext (by omega) (by omega))
    rw [decide_eq_false h]
    by_cases h1 : (q.1 : Int) = r.1
    · have h2 : ¬ (q.2 : Int) = r.2 := fun z => this ⟨h1, z⟩
      simp [h1, h2]
    · simp [h1]
theorem eqvs_prD : ∀ l m : List (Nat × Nat), D.eqvs (l.map prD) (m.map prD) = decide (l = m)
  | [], [] => rfl
  | [], _ :: _ => rfl
  | _ :: _, [] => rfl
  | q :: l, r :: m => by
    show ((prD q).eqv (prD r) && D.eqvs (l.map prD) (m.map prD)) = _
    rw [eqvs_prD l m, eqv_prD q r]
    by_cases h1 : q = r <;> by_cases h2 : l = m <;> simp [h1, h2]
theorem eq_prs (l m : List (Nat × Nat)) : scmp .Eq (.lst (l.map prD)) (.lst (m.map prD)) = some (decide (l = m)) := by
  show (if (D.shps 59 (l.map prD) && D.shps 59 (m.map prD)) = true then some (D.eqvs (l.map prD) (m.map prD)) else none) = _
  rw [shps_prD 58 l, shps_prD 58 m, eqvs_prD l m]
  rfl
/-! is_order_on -/
def diag (n : Nat) (M : List (List Bool)) : Bool := (List.range n).any fun a => bitM M a a
/-- what is_order_on tells of a list of pairs -/
def isOrd (n : Nat) (ls qs : List (Nat × Nat)) : Bool := decide (qs.length ≤ 1600) && (!diag n (tabM n qs) && decide (grM n (tabM n qs) = lnM n ls))
def ioS (n : Nat) (ls : List (Nat × Nat)) (d : D) (x3 x4 x5 : Sl) : Sta := ⟨[.c (.im (.int (n : Int))), .c (.im (.lst (ls.map prD))), .c (.im d), x3, x4, x5], none⟩
theorem any_bls (bs : List Bool) : D.bls (bs.map D.bl) = some bs := by
  induction bs with
  | nil => rfl
  | cons b bs ih =>
    show (D.bls (bs.map D.bl)).map (b :: ·) = _
    rw [ih]; rfl
theorem diag_comp (cf : CF) {n : Nat} (hn : n ≤ 1000) {M : List (List Bool)} (hs : Sq n M) (ls : List (Nat × Nat)) (d : D) (x3 : Sl) :
    (evB cf (.blt "any" (.cons (.comp [("a", 5)] e14_1 (.nm 5) (.rng1 (.var 0)) .nil) .nil))).v (ioS n ls d x3 (.c (.im (matD M))) .no) = some (.own (.im (.bl (diag n M))), ioS n ls d x3 (.c (.im (matD M))) .no) := by
  obtain ⟨acc, S1, c1, y5, rfl, h2⟩ := comp_nx (vs := [5]) (t := .nm 5) (cond := (evsB cf .nil).t) (el := (evB cf e14_1).v)
    (fun j S acc => ∃ (y5 : Sl), S = ioS n ls d x3 (.c (.im (matD M))) y5 ∧ acc = (((List.range j).map fun a => bitM M a a).map D.bl).map .im) 0 (rngD 0 (n : Int))
    (ioS n ls d x3 (.c (.im (matD M))) .no) [] 0 ⟨.no, rfl, rfl⟩ (by rw [rng_lenN, List.length_nil]; omega) (fun j dd S acc hd ⟨y5, h1, h2⟩ => by
      subst h1 h2
      obtain ⟨rfl, hj⟩ := rng_get hd
      have b1 := e_bit (cf := cf) (enc := D.bl) hs (S := ioS n ls d x3 (.c (.im (matD M))) (.c (.im (.int (j : Int))))) (t := 4) (i := 5) (j := 5) rfl rfl rfl hj hj
      refine ⟨_, rfl, true, ioS n ls d x3 (.c (.im (matD M))) (.c (.im (.int (j : Int)))), rfl, ?_⟩
      rw [if_pos rfl]
      refine ⟨_, _, b1, _, rfl, ?_⟩
      rw [Nat.zero_add, List.range_succ]
      simp)
  have hcomp : (evB cf (.comp [("a", 5)] e14_1 (.nm 5) (.rng1 (.var 0)) .nil)).v (ioS n ls d x3 (.c (.im (matD M))) .no) = some (.own (.ow ((((List.range n).map fun a => bitM M a a).map D.bl).map .im)), ioS n ls d x3 (.c (.im (matD M))) .no) := by
    rw [x_comp, x_mkV_v, i_rg1 (n := n) (S1 := ioS n ls d x3 (.c (.im (matD M))) .no) rfl (by omega), Option.bind_some]
    rw [if_neg (by simp [ioS, Sl.isIm])]
    simp only [List.map_cons, List.map_nil]
    rw [c1]
    rw [Nat.zero_add, rng_lenN] at h2
    rw [h2]
    simp [backS, ioS]
  have hany := b_any (c := .ow ((((List.range n).map fun a => bitM M a a).map D.bl).map .im)) (by rw [x_frz_ow, x_frzs_map]) (any_bls ((List.range n).map fun a => bitM M a a))
  rw [x_blt, x_mkV_v, x_cons_v, hcomp]
  show (bltC "any" [Cell.ow ((((List.range n).map fun a => bitM M a a).map D.bl).map .im)]).map _ = _
  rw [hany, List.any_map]
  rfl
theorem is_order_ok (k n : Nat) (h1 : 1 ≤ n) (h2 : n ≤ 40) (ls : List (Nat × Nat)) (hl : ls.length ≤ 1600) (h : ∀ q ∈ ls, q.1 < n ∧ q.2 < n ∧ q.1 ≠ q.2) (qs : List (Nat × Nat)) (hq : ∀ q ∈ qs, q.1 < n ∧ q.2 < n ∧ q.1 ≠ q.2) :
    callF tab (k + 7) 14 [.int (n : Int), .lst (ls.map prD), .lst (qs.map prD)] none = some (.im (.bl (isOrd n ls qs)), none) := by
  have e10 := checked_lines_ok k n h1 h2 ls hl h
  have s10 := e_call (cf := callF tab (k + 6)) (f := 10) (es := .cons (.var 0) (.cons (.var 1) .nil)) (S := ioS n ls (.lst (qs.map prD)) .no .no .no) (S2 := ioS n ls (.lst (qs.map prD)) .no .no .no) (rs := [.own (.im (.int (n : Int))), .own (.im (.lst (ls.map prD)))]) rfl rfl e10
  have hqlt : ∀ q ∈ qs, q.1 < n ∧ q.2 < n := fun q z => ⟨(hq q z).1, (hq q z).2.1⟩
  obtain ⟨e6, hs⟩ := ahead_ok (k + 5) n (by omega) qs hqlt
  have e11 := graph_rows_ok (k + 5) n (by omega) (tabM n qs) hs
  by_cases hlen : qs.length ≤ 1600
  · have e3 := pairs_ok (k + 2) n qs hlen hq
    have s3 := e_call (cf := callF tab (k + 6)) (f := 3) (es := .cons (.var 0) (.cons (.var 2) .nil)) (S := ioS n ls (.lst (qs.map prD)) (.c (.im (matD (lnM n ls)))) .no .no) (S2 := ioS n ls (.lst (qs.map prD)) (.c (.im (matD (lnM n ls)))) .no .no) (rs := [.own (.im (.int (n : Int))), .own (.im (.lst (qs.map prD)))]) rfl rfl e3
    have s6 := e_call (cf := callF tab (k + 6)) (f := 6) (es := .cons (.var 0) (.cons (.var 2) .nil)) (S := ioS n ls (.lst (qs.map prD)) (.c (.im (matD (lnM n ls)))) .no .no) (S2 := ioS n ls (.lst (qs.map prD)) (.c (.im (matD (lnM n ls)))) .no .no) (rs := [.own (.im (.int (n : Int))), .own (.im (.lst (qs.map prD)))]) rfl rfl e6
    have s11 := e_call (cf := callF tab (k + 6)) (f := 11) (es := .cons (.var 4) .nil) (S := ioS n ls (.lst (qs.map prD)) (.c (.im (matD (lnM n ls)))) (.c (.im (matD (tabM n qs)))) .no) (S2 := ioS n ls (.lst (qs.map prD)) (.c (.im (matD (lnM n ls)))) (.c (.im (matD (tabM n qs)))) .no) (rs := [.own (.im (matD (tabM n qs)))]) rfl rfl e11
    have hdg := diag_comp (callF tab (k + 6)) (by omega) hs ls (.lst (qs.map prD)) (.c (.im (matD (lnM n ls))))
    have heq : (evB (callF tab (k + 6)) (.cmp .Eq (.call 11 (.cons (.var 4) .nil)) (.var 3))).v (ioS n ls (.lst (qs.map prD)) (.c (.im (matD (lnM n ls)))) (.c (.im (matD (tabM n qs)))) .no) = some (.own (.im (.bl (decide (grM n (tabM n qs) = lnM n ls)))), ioS n ls (.lst (qs.map prD)) (.c (.im (matD (lnM n ls)))) (.c (.im (matD (tabM n qs)))) .no) := by
      rw [x_cmp, x_mkV_v, s11, Option.bind_some]
      show (scmp .Eq (matC D.bl (grM n (tabM n qs))).frz (matD (lnM n ls))).map _ = _
      rw [mat_frz, eq_mat]
      rfl
    refine call_rt (ρ := (ioS n ls (.lst (qs.map prD)) (.c (.im (matD (lnM n ls)))) (.c (.im (matD (tabM n qs)))) .no).ρ) rfl rfl rfl rfl ?_
    unfold f14
    refine r_seq (S1 := ioS n ls (.lst (qs.map prD)) (.c (matC D.bl (lnM n ls))) .no .no) (by
      rw [r_asg]
      show ((evB (callF tab (k + 6)) (.call 10 (.cons (.var 0) (.cons (.var 1) .nil)))).v (ioS n ls (.lst (qs.map prD)) .no .no .no)).bind _ = _
      rw [s10]; rfl) ?_
    rw [r_frz]
    show runs _ _ (ioS n ls (.lst (qs.map prD)) (.c (.im (matC D.bl (lnM n ls)).frz)) .no .no) = _
    rw [mat_frz]
    refine r_seq (r_skip (t_not (t_of_v s3))) ?_
    refine r_seq (S1 := ioS n ls (.lst (qs.map prD)) (.c (.im (matD (lnM n ls)))) (.c (matC D.bl (tabM n qs))) .no) (by rw [r_asg, s6]; rfl) ?_
    rw [r_frz]
    show runs _ _ (ioS n ls (.lst (qs.map prD)) (.c (.im (matD (lnM n ls)))) (.c (.im (matC D.bl (tabM n qs)).frz)) .no) = _
    rw [mat_frz]
    rw [r_cons, r_ret]
    unfold isOrd
    rw [decide_eq_true hlen, Bool.true_and]
    have hnot : (evB (callF tab (k + 6)) (.not (.blt "any" (.cons (.comp [("a", 5)] e14_1 (.nm 5) (.rng1 (.var 0)) .nil) .nil)))).v (ioS n ls (.lst (qs.map prD)) (.c (.im (matD (lnM n ls)))) (.c (.im (matD (tabM n qs)))) .no) = some (.own (.im (.bl (!diag n (tabM n qs)))), ioS n ls (.lst (qs.map prD)) (.c (.im (matD (lnM n ls)))) (.c (.im (matD (tabM n qs)))) .no) := by
      rw [x_not_v, hdg]; rfl
    cases hd : diag n (tabM n qs) with
    | true =>
      rw [hd] at hnot
      rw [v_andF hnot]
      rfl
    | false =>
      rw [hd] at hnot
      rw [v_andT hnot, x_one, heq]
      rfl
  · have e3 := list_long (k + 2) n (qs.map prD) (by rw [List.length_map]; omega)
    have s3 := e_call (cf := callF tab (k + 6)) (f := 3) (es := .cons (.var 0) (.cons (.var 2) .nil)) (S := ioS n ls (.lst (qs.map prD)) (.c (.im (matD (lnM n ls)))) .no .no) (S2 := ioS n ls (.lst (qs.map prD)) (.c (.im (matD (lnM n ls)))) .no .no) (rs := [.own (.im (.int (n : Int))), .own (.im (.lst (qs.map prD)))]) rfl rfl e3
    have : isOrd n ls qs = false := by unfold isOrd; rw [decide_eq_false hlen, Bool.false_and]
    rw [this]
    refine call_rt (ρ := (ioS n ls (.lst (qs.map prD)) (.c (.im (matD (lnM n ls)))) .no .no).ρ) rfl rfl rfl rfl ?_
    unfold f14
    refine r_seq (S1 := ioS n ls (.lst (qs.map prD)) (.c (matC D.bl (lnM n ls))) .no .no) (by
      rw [r_asg]
      show ((evB (callF tab (k + 6)) (.call 10 (.cons (.var 0) (.cons (.var 1) .nil)))).v (ioS n ls (.lst (qs.map prD)) .no .no .no)).bind _ = _
      rw [s10]; rfl) ?_
    rw [r_frz]
    show runs _ _ (ioS n ls (.lst (qs.map prD)) (.c (.im (matC D.bl (lnM n ls)).frz)) .no .no) = _
    rw [mat_frz, r_cons, r_ifeT (t_not (t_of_v s3))]
    rfl
/-- of what is no list of pairs -/
theorem is_order_no (k n : Nat) (h1 : 1 ≤ n) (h2 : n ≤ 40) (ls : List (Nat × Nat)) (hl : ls.length ≤ 1600) (h : ∀ q ∈ ls, q.1 < n ∧ q.2 < n ∧ q.1 ≠ q.2) (d : D) (hd : callF tab (k + 6) 3 [.int (n : Int), d] none = some (.im (.bl false), none)) :
    callF tab (k + 7) 14 [.int (n : Int), .lst (ls.map prD), d] none = some (.im (.bl false), none) := by
  have e10 := checked_lines_ok k n h1 h2 ls hl h
  have s10 := e_call (cf := callF tab (k + 6)) (f := 10) (es := .cons (.var 0) (.cons (.var 1) .nil)) (S := ioS n ls d .no .no .no) (S2 := ioS n ls d .no .no .no) (rs := [.own (.im (.int (n : Int))), .own (.im (.lst (ls.map prD)))]) rfl rfl e10
  have s3 := e_call (cf := callF tab (k + 6)) (f := 3) (es := .cons (.var 0) (.cons (.var 2) .nil)) (S := ioS n ls d (.c (.im (matD (lnM n ls)))) .no .no) (S2 := ioS n ls d (.c (.im (matD (lnM n ls)))) .no .no) (rs := [.own (.im (.int (n : Int))), .own (.im d)]) rfl rfl hd
  refine call_rt (ρ := (ioS n ls d (.c (.im (matD (lnM n ls)))) .no .no).ρ) rfl rfl rfl rfl ?_
  unfold f14
  refine r_seq (S1 := ioS n ls d (.c (matC D.bl (lnM n ls))) .no .no) (by
    rw [r_asg]
    show ((evB (callF tab (k + 6)) (.call 10 (.cons (.var 0) (.cons (.var 1) .nil)))).v (ioS n ls d .no .no .no)).bind _ = _
    rw [s10]; rfl) ?_
  rw [r_frz]
  show runs _ _ (ioS n ls d (.c (.im (matC D.bl (lnM n ls)).frz)) .no .no) = _
  rw [mat_frz, r_cons, r_ifeT (t_not (t_of_v s3))]
  rfl
end K04
namespace K04
open L2 Mi
/-! _law_lines -/
def llS (M : List (List Bool)) (x1 x2 : Sl) : Sta := ⟨[.c (.im (matB M)), x1, x2], none⟩
theorem ll_len (cf : CF) {n : Nat} {M : List (List Bool)} (hs : Sq n M) (x1 x2 : Sl) : (evB cf (.blt "len" (.cons (.var 0) .nil))).v (llS M x1 x2) = some (.own (.im (.int (n : Int))), llS M x1 x2) := by
  have el := e_len (cf := cf) (a := .var 0) (S := llS M x1 x2) (ds := M.map fun r => .lst (r.map bitD)) rfl rfl
  rw [List.length_map, hs.len] at el
  exact el
theorem max_bit (x y : Bool) : bltC "max" [.im (bitD x), .im (bitD y)] = some (.im (bitD (x || y))) := by
  cases x <;> cases y <;> rfl
theorem ll_row (cf : CF) {n : Nat} (hn : n ≤ 1000) {M : List (List Bool)} (hs : Sq n M) {a : Nat} (ha : a < n) :
    (evB cf e25_2).v (llS M (.c (.im (.int (a : Int)))) .no) = some (.own (rowC bitD ((List.range n).map fun b => bitM M a b || bitM M b a)), llS M (.c (.im (.int (a : Int)))) .no) := by
  obtain ⟨acc, S1, c1, y2, rfl, h2⟩ := comp_nx (vs := [2]) (t := .nm 2) (cond := (evsB cf .nil).t) (el := (evB cf e25_3).v)
    (fun j S acc => ∃ (y2 : Sl), S = llS M (.c (.im (.int (a : Int)))) y2 ∧ acc = ((List.range j).map fun b => bitM M a b || bitM M b a).map fun b => Cell.im (bitD b)) 0 (rngD 0 (n : Int))
    (llS M (.c (.im (.int (a : Int)))) .no) [] 0 ⟨.no, rfl, rfl⟩ (by rw [rng_lenN, List.length_nil]; omega) (fun j d S acc hd ⟨y2, h1, h2⟩ => by
      subst h1 h2
      obtain ⟨rfl, hj⟩ := rng_get hd
      have b1 := e_bit (cf := cf) (enc := bitD) hs (S := llS M (.c (.im (.int (a : Int)))) (.c (.im (.int (j : Int))))) (t := 0) (i := 1) (j := 2) rfl rfl rfl ha hj
      have b2 := e_bit (cf := cf) (enc := bitD) hs (S := llS M (.c (.im (.int (a : Int)))) (.c (.im (.int (j : Int))))) (t := 0) (i := 2) (j := 1) rfl rfl rfl hj ha
      refine ⟨_, rfl, true, llS M (.c (.im (.int (a : Int)))) (.c (.im (.int (j : Int)))), rfl, ?_⟩
      rw [if_pos rfl]
      refine ⟨.im (bitD (bitM M a j || bitM M j a)), llS M (.c (.im (.int (a : Int)))) (.c (.im (.int (j : Int)))), ?_, _, rfl, ?_⟩
      · unfold e25_3
        exact e_blt (e_two b1 b2) (max_bit _ _)
      · rw [Nat.zero_add, List.range_succ]
        simp)
  unfold e25_2
  rw [x_comp, x_mkV_v, i_rg1 (n := n) (ll_len cf hs _ _) (by omega), Option.bind_some]
  rw [if_neg (by simp [llS, Sl.isIm])]
  simp only [List.map_cons, List.map_nil]
  rw [c1]
  rw [Nat.zero_add, rng_lenN] at h2
  rw [h2]
  simp [backS, llS, rowC]
theorem law_lines_ok (k n : Nat) (hn : n ≤ 1000) (M : List (List Bool)) (hs : Sq n M) : callF tab (k + 2) 25 [matB M] none = some (.ow (((upL (grM n M) n).map prD).map .im), none) := by
  obtain ⟨acc, S1, c1, y1, rfl, h2⟩ := comp_nx (vs := [1]) (t := .nm 1) (cond := (evsB (callF tab (k + 1)) .nil).t) (el := (evB (callF tab (k + 1)) e25_2).v)
    (fun j S acc => ∃ (y1 : Sl), S = llS M y1 .no ∧ acc = ((List.range j).map fun a => (List.range n).map fun b => bitM M a b || bitM M b a).map (rowC bitD)) 0 (rngD 0 (n : Int))
    (llS M .no .no) [] 0 ⟨.no, rfl, rfl⟩ (by rw [rng_lenN, List.length_nil]; omega) (fun j d S acc hd ⟨y1, h1, h2⟩ => by
      subst h1 h2
      obtain ⟨rfl, hj⟩ := rng_get hd
      refine ⟨_, rfl, true, llS M (.c (.im (.int (j : Int)))) .no, rfl, ?_⟩
      rw [if_pos rfl]
      refine ⟨_, _, ll_row (callF tab (k + 1)) hn hs hj, _, rfl, ?_⟩
      rw [Nat.zero_add, List.range_succ]
      simp)
  have hcomp : (evB (callF tab (k + 1)) (.comp [("a", 1)] e25_2 (.nm 1) (.rng1 (.blt "len" (.cons (.var 0) .nil))) .nil)).v (llS M .no .no) = some (.own (matC bitD (grM n M)), llS M .no .no) := by
    rw [x_comp, x_mkV_v, i_rg1 (n := n) (ll_len _ hs _ _) (by omega), Option.bind_some]
    rw [if_neg (by simp [llS, Sl.isIm])]
    simp only [List.map_cons, List.map_nil]
    rw [c1]
    rw [Nat.zero_add, rng_lenN] at h2
    rw [h2]
    rfl
  have e20 := lpairs_ok k n hn (grM n M) (grM_ok n M).1
  have s20 := e_call (cf := callF tab (k + 1)) (f := 20) (es := .cons (.comp [("a", 1)] e25_2 (.nm 1) (.rng1 (.blt "len" (.cons (.var 0) .nil))) .nil) .nil) (S := llS M .no .no) (S2 := llS M .no .no) (rs := [.own (matC bitD (grM n M))]) (cs := [matC bitD (grM n M)]) (c := .im (.lst ((tabL (grM n M) n n).map prD))) (u := none) (by rw [x_cons_v, hcomp]; rfl) rfl (by
    show callF tab (k + 1) 20 [(matC bitD (grM n M)).frz] none = _
    rw [mat_frzE]
    exact e20)
  have hz : (tabL (grM n M) n n).length ≤ 1000000 := by have := tabL_len (grM n M) n n; have : n * n ≤ 1000 * 1000 := Nat.mul_le_mul hn hn; omega
  have src : evIB (callF tab (k + 1)) (.ex (.call 20 (.cons (.comp [("a", 1)] e25_2 (.nm 1) (.rng1 (.blt "len" (.cons (.var 0) .nil))) .nil) .nil))) (llS M .no .no) = some (false, (tabL (grM n M) n n).map prD, llS M .no .no) := by rw [x_iex, s20]; rfl
  have hc := up_comp (callF tab (k + 1)) (matB M) (tabL (grM n M) n n) hz _ e25_1 c25_1 rfl rfl src
  refine call_rt (ρ := (llS M .no .no).ρ) rfl rfl rfl rfl ?_
  unfold f25
  rw [r_cons, r_ret]
  show (((evB (callF tab (k + 1)) (.comp [("a", 1), ("b", 2)] e25_1 (.tp (.cons (.nm 1) (.cons (.nm 2) .nil))) (.ex (.call 20 (.cons (.comp [("a", 1)] e25_2 (.nm 1) (.rng1 (.blt "len" (.cons (.var 0) .nil))) .nil) .nil))) c25_1)).v (llS M .no .no)).bind _).bind _ = _
  rw [show (evB (callF tab (k + 1)) (.comp [("a", 1), ("b", 2)] e25_1 (.tp (.cons (.nm 1) (.cons (.nm 2) .nil))) (.ex (.call 20 (.cons (.comp [("a", 1)] e25_2 (.nm 1) (.rng1 (.blt "len" (.cons (.var 0) .nil))) .nil) .nil))) c25_1)).v (llS M .no .no) = _ from hc]
  rfl
/-! _law_makes -/
def mkS (n : Nat) (ls qs : List (Nat × Nat)) (x3 x4 : Sl) : Sta := ⟨[.c (.im (.int (n : Int))), .c (.im (.lst (ls.map prD))), .c (.im (.lst (qs.map prD))), x3, x4], none⟩
def mkO (n : Nat) (ls qs : List (Nat × Nat)) : Bool := decide (qs.length ≤ 1600) && (!diag n (tabM n qs) && decide (lins n qs = ls))
theorem makes_ok (k n : Nat) (hn : n ≤ 1000) (ls qs : List (Nat × Nat)) (hq : ∀ q ∈ qs, q.1 < n ∧ q.2 < n) : callF tab (k + 3) 31 [.int (n : Int), .lst (ls.map prD), .lst (qs.map prD)] none = some (.im (.bl (mkO n ls qs)), none) := by
  obtain ⟨er, hs⟩ := rows_ok (k + 1) n hn qs hq
  have el := law_lines_ok k n hn (tabM n qs) hs
  obtain ⟨acc, S1, c1, y4, rfl, h2⟩ := comp_nx (vs := [4]) (t := .nm 4) (cond := (evsB (callF tab (k + 2)) .nil).t) (el := (evB (callF tab (k + 2)) e31_1).v)
    (fun j S acc => ∃ (y4 : Sl), S = mkS n ls qs (.c (.im (matB (tabM n qs)))) y4 ∧ acc = (((List.range j).map fun a => bitM (tabM n qs) a a).map D.bl).map .im) 0 (rngD 0 (n : Int))
    (mkS n ls qs (.c (.im (matB (tabM n qs)))) .no) [] 0 ⟨.no, rfl, rfl⟩ (by rw [rng_lenN, List.length_nil]; omega) (fun j dd S acc hd ⟨y4, h1, h2⟩ => by
      subst h1 h2
      obtain ⟨rfl, hj⟩ := rng_get hd
      have b1 := e_bit (cf := callF tab (k + 2)) (enc := bitD) hs (S := mkS n ls qs (.c (.im (matB (tabM n qs)))) (.c (.im (.int (j : Int))))) (t := 3) (i := 4) (j := 4) rfl rfl rfl hj hj
      refine ⟨_, rfl, true, mkS n ls qs (.c (.im (matB (tabM n qs)))) (.c (.im (.int (j : Int)))), rfl, ?_⟩
      rw [if_pos rfl]
      refine ⟨.im (.bl (bitM (tabM n qs) j j)), mkS n ls qs (.c (.im (matB (tabM n qs)))) (.c (.im (.int (j : Int)))), ?_, _, rfl, ?_⟩
      · show (evB (callF tab (k + 2)) (.cmp .Eq (.idx (.idx (.var 3) (.var 4)) (.var 4)) (.int 1))).v _ = _
        rw [x_cmp, x_mkV_v, b1]
        cases bitM (tabM n qs) j j <;> rfl
      · rw [Nat.zero_add, List.range_succ]
        simp)
  have hcomp : (evB (callF tab (k + 2)) (.comp [("a", 4)] e31_1 (.nm 4) (.rng1 (.var 0)) .nil)).v (mkS n ls qs (.c (.im (matB (tabM n qs)))) .no) = some (.own (.ow ((((List.range n).map fun a => bitM (tabM n qs) a a).map D.bl).map .im)), mkS n ls qs (.c (.im (matB (tabM n qs)))) .no) := by
    rw [x_comp, x_mkV_v, i_rg1 (n := n) (S1 := mkS n ls qs (.c (.im (matB (tabM n qs)))) .no) rfl (by omega), Option.bind_some]
    rw [if_neg (by simp [mkS, Sl.isIm])]
    simp only [List.map_cons, List.map_nil]
    rw [c1]
    rw [Nat.zero_add, rng_lenN] at h2
    rw [h2]
    simp [backS, mkS]
  have hany := b_any (c := .ow ((((List.range n).map fun a => bitM (tabM n qs) a a).map D.bl).map .im)) (by rw [x_frz_ow, x_frzs_map]) (any_bls ((List.range n).map fun a => bitM (tabM n qs) a a))
  have hdg : (evB (callF tab (k + 2)) (.not (.blt "any" (.cons (.comp [("a", 4)] e31_1 (.nm 4) (.rng1 (.var 0)) .nil) .nil)))).v (mkS n ls qs (.c (.im (matB (tabM n qs)))) .no) = some (.own (.im (.bl (!diag n (tabM n qs)))), mkS n ls qs (.c (.im (matB (tabM n qs)))) .no) := by
    rw [x_not_v, x_blt, x_mkV_v, x_cons_v, hcomp]
    show ((bltC "any" [Cell.ow ((((List.range n).map fun a => bitM (tabM n qs) a a).map D.bl).map .im)]).map _).bind _ = _
    rw [hany, List.any_map]
    rfl
  have s19 := e_call (cf := callF tab (k + 2)) (f := 19) (es := .cons (.var 0) (.cons (.var 2) .nil)) (S := mkS n ls qs .no .no) (S2 := mkS n ls qs .no .no) (rs := [.own (.im (.int (n : Int))), .own (.im (.lst (qs.map prD)))]) rfl rfl er
  have s25 := e_call (cf := callF tab (k + 2)) (f := 25) (es := .cons (.var 3) .nil) (S := mkS n ls qs (.c (.im (matB (tabM n qs)))) .no) (S2 := mkS n ls qs (.c (.im (matB (tabM n qs)))) .no) (rs := [.own (.im (matB (tabM n qs)))]) rfl rfl el
  have heq : (evB (callF tab (k + 2)) (.cmp .Eq (.call 25 (.cons (.var 3) .nil)) (.var 1))).v (mkS n ls qs (.c (.im (matB (tabM n qs)))) .no) = some (.own (.im (.bl (decide (lins n qs = ls)))), mkS n ls qs (.c (.im (matB (tabM n qs)))) .no) := by
    rw [x_cmp, x_mkV_v, s25, Option.bind_some]
    show (scmp .Eq (.lst (Cell.frzs (((upL (grM n (tabM n qs)) n).map prD).map .im))) (.lst (ls.map prD))).map _ = _
    rw [x_frzs_map, eq_prs]
    rfl
  have elen := e_len (cf := callF tab (k + 2)) (a := .var 2) (S := mkS n ls qs (.c (.im (matB (tabM n qs)))) .no) (ds := qs.map prD) rfl rfl
  rw [List.length_map] at elen
  have hle : (evB (callF tab (k + 2)) (.cmp .LtE (.blt "len" (.cons (.var 2) .nil)) (.int 1600))).v (mkS n ls qs (.c (.im (matB (tabM n qs)))) .no) = some (.own (.im (.bl (decide (qs.length ≤ 1600)))), mkS n ls qs (.c (.im (matB (tabM n qs)))) .no) := by
    rw [x_cmp, x_mkV_v, elen, Option.bind_some]
    show some (R.own (.im (.bl (decide ((qs.length : Int) ≤ 1600)))), _) = _
    have : decide ((qs.length : Int) ≤ 1600) = decide (qs.length ≤ 1600) := by
      by_cases h : qs.length ≤ 1600
      · rw [decide_eq_true h, decide_eq_true (by omega)]
      · rw [decide_eq_false h, decide_eq_false (by omega)]
    rw [this]
  refine call_rt (ρ := (mkS n ls qs (.c (.im (matB (tabM n qs)))) .no).ρ) rfl rfl rfl rfl ?_
  unfold f31
  refine r_seq (S1 := mkS n ls qs (.c (matC bitD (tabM n qs))) .no) (by
    rw [r_asg]
    show ((evB (callF tab (k + 2)) (.call 19 (.cons (.var 0) (.cons (.var 2) .nil)))).v (mkS n ls qs .no .no)).bind _ = _
    rw [s19]; rfl) ?_
  rw [r_frz]
  show runs _ _ (mkS n ls qs (.c (.im (matC bitD (tabM n qs)).frz)) .no) = _
  rw [mat_frzE, r_cons, r_ret]
  show (((evB (callF tab (k + 2)) (.and (.cmp .LtE (.blt "len" (.cons (.var 2) .nil)) (.int 1600)) (.and (.not (.blt "any" (.cons (.comp [("a", 4)] e31_1 (.nm 4) (.rng1 (.var 0)) .nil) .nil))) (.one (.cmp .Eq (.call 25 (.cons (.var 3) .nil)) (.var 1)))))).v (mkS n ls qs (.c (.im (matB (tabM n qs)))) .no)).bind _).bind _ = _
  unfold mkO
  cases h1 : decide (qs.length ≤ 1600) with
  | false =>
    rw [h1] at hle
    rw [v_andF hle]; rfl
  | true =>
    rw [h1] at hle
    rw [v_andT hle]
    cases h3 : diag n (tabM n qs) with
    | true =>
      rw [h3] at hdg
      rw [v_andF hdg]; rfl
    | false =>
      rw [h3] at hdg
      rw [v_andT hdg, x_one, heq]; rfl
/-! the two agree -/
/-- lines: each once, ascending -/
structure Lns (n : Nat) (ls : List (Nat × Nat)) : Prop where
  pw : ls.Pairwise ltN
  ok : ∀ q ∈ ls, q.1 < q.2 ∧ q.2 < n
/-- the same lines, in any direction -/
structure Ask (n : Nat) (ls as : List (Nat × Nat)) : Prop where
  ok : ∀ q ∈ as, q.1 < n ∧ q.2 < n ∧ q.1 ≠ q.2
  iff : ∀ a b, ((a, b) ∈ as ∨ (b, a) ∈ as) ↔ ((a, b) ∈ ls ∨ (b, a) ∈ ls)
theorem pw_mem_eq : ∀ {l m : List (Nat × Nat)}, l.Pairwise ltN → m.Pairwise ltN → (∀ q, q ∈ l ↔ q ∈ m) → l = m
  | [], m, _, _, h => by
    cases m with
    | nil => rfl
    | cons y m => exact absurd ((h y).mpr (List.mem_cons_self ..)) (by simp)
  | x :: l, [], _, _, h => absurd ((h x).mp (List.mem_cons_self ..)) (by simp)
  | x :: l, y :: m, h1, h2, h => by
    obtain ⟨a1, a2⟩ := List.pairwise_cons.mp h1
    obtain ⟨b1, b2⟩ := List.pairwise_cons.mp h2
    have irr : ∀ q : Nat × Nat, ¬ ltN q q := fun q z => z.elim (Nat.lt_irrefl _) fun z => Nat.lt_irrefl _ z.2
    have e : x = y := by
      rcases List.mem_cons.mp ((h x).mp (List.mem_cons_self ..)) with e | hx
      · exact e
      · rcases List.mem_cons.mp ((h y).mpr (List.mem_cons_self ..)) with e | hy
        · exact e.symm
        · have c1 := a1 y hy
          have c2 := b1 x hx
          unfold ltN at c1 c2
          omega
    subst e
    rw [pw_mem_eq a2 b2 fun q => ⟨fun hq => ?_, fun hq => ?_⟩]
    · rcases List.mem_cons.mp ((h q).mp (List.mem_cons_of_mem _ hq)) with e | z
      · subst e; exact absurd (a1 _ hq) (irr _)
      · exact z
    · rcases List.mem_cons.mp ((h q).mpr (List.mem_cons_of_mem _ hq)) with e | z
      · subst e; exact absurd (b1 _ hq) (irr _)
      · exact z
theorem mem_upL {n : Nat} {M : List (List Bool)} {a b : Nat} : (a, b) ∈ upL M n ↔ a < b ∧ b < n ∧ bitM M a b = true := by
  unfold upL tabL
  rw [List.mem_filter]
  simp only [List.mem_flatMap, List.mem_range, mem_rowL, decide_eq_true_eq]
  constructor
  · rintro ⟨⟨x, hx, rfl, hb, hbit⟩, hlt⟩
    exact ⟨hlt, hb, hbit⟩
  · rintro ⟨h1, h2, h3⟩
    exact ⟨⟨a, by omega, rfl, h2, h3⟩, h1⟩
theorem lns_upL (n : Nat) (M : List (List Bool)) : Lns n (upL M n) := ⟨(tabL_pw M n n).1.filter _, fun q hq => by
  have := (mem_upL (a := q.1) (b := q.2)).mp hq
  exact ⟨this.1, this.2.1⟩⟩
theorem agree {n : Nat} {ls as qs : List (Nat × Nat)} (hl : Lns n ls) (ha : Ask n ls as) (hq : ∀ q ∈ qs, q.1 < n ∧ q.2 < n) : isOrd n as qs = mkO n ls qs := by
  unfold isOrd mkO
  congr 1
  cases hd : diag n (tabM n qs) with
  | true => rfl
  | false =>
    have hdz : ∀ a, a < n → bitM (tabM n qs) a a = false := fun a h => by
      unfold diag at hd
      rw [List.any_eq_false] at hd
      simpa using hd a (List.mem_range.mpr h)
    obtain ⟨g1, g2⟩ := grM_ok n (tabM n qs)
    obtain ⟨l1, l2⟩ := lnM_ok (ls := as) fun q z => ⟨(ha.ok q z).1, (ha.ok q z).2.1⟩
    have : (grM n (tabM n qs) = lnM n as) ↔ (lins n qs = ls) := by
      constructor
      · intro h
        refine pw_mem_eq (lns_upL n _).pw hl.pw fun q => ?_
        have e := mem_upL (n := n) (M := grM n (tabM n qs)) (a := q.1) (b := q.2)
        rw [show q = (q.1, q.2) from rfl] at e ⊢
        show (q.1, q.2) ∈ upL (grM n (tabM n qs)) n ↔ _
        rw [e, h, l2, ha.iff]
        constructor
        · rintro ⟨h1, h2, h3 | h3⟩
          · exact h3
          · have := hl.ok _ h3; simp only at this; omega
        · intro h3
          have := hl.ok _ h3
          exact ⟨this.1, this.2, .inl h3⟩
      · intro h
        refine sq_ext g1 l1 fun a b hna hnb => ?_
        have key : ∀ a b, a < n → b < n → a < b → (bitM (grM n (tabM n qs)) a b = true ↔ bitM (lnM n as) a b = true) := fun a b _ hb hab => by
          have e := mem_upL (n := n) (M := grM n (tabM n qs)) (a := a) (b := b)
          rw [l2, ha.iff, ← h]
          have e2 := mem_upL (n := n) (M := grM n (tabM n qs)) (a := b) (b := a)
          show _ ↔ (a, b) ∈ upL (grM n (tabM n qs)) n ∨ (b, a) ∈ upL (grM n (tabM n qs)) n
          rw [e, e2]
          constructor
          · exact fun z => .inl ⟨hab, hb, z⟩
          · rintro (z | z)
            · exact z.2.2
            · omega
        have sym1 : ∀ a b, a < n → b < n → bitM (grM n (tabM n qs)) a b = bitM (grM n (tabM n qs)) b a := fun a b ha hb => by rw [g2 a b ha hb, g2 b a hb ha, Bool.or_comm]
        have sym2 : ∀ a b, (bitM (lnM n as) a b = true ↔ bitM (lnM n as) b a = true) := fun a b => by rw [l2, l2]; exact Or.comm
        have bl : ∀ x y : Bool, (x = true ↔ y = true) → x = y := fun x y h => by cases x <;> cases y <;> simp_all
        rcases Nat.lt_trichotomy a b with z | z | z
        · exact bl _ _ (key a b hna hnb z)
        · subst z
          rw [g2 a a hna hna, hdz a hna]
          cases e : bitM (lnM n as) a a with
          | false => rfl
          | true =>
            rcases (l2 a a).mp e with z | z
            · exact absurd rfl (ha.ok _ z).2.2
            · exact absurd rfl (ha.ok _ z).2.2
        · rw [sym1 a b hna hnb]
          exact bl _ _ ((key b a hnb hna z).trans (sym2 b a))
    by_cases h : lins n qs = ls
    · rw [decide_eq_true h, decide_eq_true (this.mpr h)]
    · rw [decide_eq_false h, decide_eq_false fun z => h (this.mp z)]
end K04
namespace K04
open L2 Mi
def owS (ps : List (Nat × Nat)) : Sl := .c (.ow ((ps.map prD).map .im))
def prS (ps : List (Nat × Nat)) : Sl := .c (.im (.lst (ps.map prD)))
def inS (n : Nat) : Sl := .c (.im (.int (n : Int)))
/-- _law_drawn_ways -/
theorem ways_ok (k n : Nat) (ls : List (Nat × Nat)) (hl : Lns n ls) (hz : ls.length ≤ 2000) (p : List D) (hp : PoolOk p) :
    ∃ (as : List (Nat × Nat)) (p' : List D), callF tab (k + 4) 32 [.lst (ls.map prD)] (some p) = some (.ow ((as.map prD).map .im), some p') ∧ Ask n ls as ∧ as.length ≤ 2 * ls.length ∧ PoolOk p' := by
  obtain ⟨qs, p1, e1, hm, hql, hp1⟩ := listed_pairs k ls hz p hp
  obtain ⟨S', e2, x4, x5, as, p2, rfl, h1, h2, h3, hp2⟩ := loop_nx (t := .tp (.cons (.nm 4) (.cons (.nm 5) .nil))) (b := runs (callF tab (k + 3)) l32_1) (fun i S => ∃ (x4 x5 : Sl) (as : List (Nat × Nat)) (p' : List D), S = ⟨[.io, prS ls, prS qs, owS as, x4, x5], some p'⟩ ∧ as.length = i ∧ (∀ q ∈ as, q ∈ qs ∨ swp q ∈ qs) ∧ (∀ q ∈ qs.take i, q ∈ as ∨ swp q ∈ as) ∧ PoolOk p') (qs.map prD) ⟨[.io, prS ls, prS qs, owS [], .no, .no], some p1⟩ 0 ⟨.no, .no, [], p1, rfl, rfl, by simp, by simp, hp1⟩ (fun j d S hd hi => by
    obtain ⟨x4, x5, as, p', rfl, h1, h2, h3, hp'⟩ := hi
    rw [List.getElem?_map] at hd
    simp only [Option.map_eq_some_iff] at hd
    obtain ⟨q, hq, rfl⟩ := hd
    have hqm := List.mem_of_getElem? hq
    have hjl := (List.getElem?_eq_some_iff.mp hq).1
    rw [Nat.zero_add] at h1 h3 ⊢
    obtain ⟨v, p2, hv, hp2, e1⟩ := asg_pick (k + 2) 0 2 (by omega) [.io, prS ls, prS qs, owS as, inS q.1, inS q.2] rfl (.int 2) (fun S => rfl) p' hp'
    have hr : ∃ r, (r = q ∨ r = swp q) ∧ idxR (.own (.ow [.im (prD q), .im (prD (swp q))])) (v : Int) = some (.own (.im (prD r))) := by
      have : v = 0 ∨ v = 1 := by omega
      rcases this with rfl | rfl
      · exact ⟨q, .inl rfl, rfl⟩
      · exact ⟨swp q, .inr rfl, rfl⟩
    obtain ⟨r, hrq, hix⟩ := hr
    have ei := e_idxO (cf := callF tab (k + 3)) (a := .lst (.cons (.tup (.cons (.var 4) (.cons (.var 5) .nil))) (.cons (.tup (.cons (.var 5) (.cons (.var 4) .nil))) .nil))) (b := .callIo 17 0 (.cons (.int 2) .nil)) (S := ⟨[.io, prS ls, prS qs, owS as, inS q.1, inS q.2], some p'⟩) (S1 := ⟨[.io, prS ls, prS qs, owS as, inS q.1, inS q.2], some p'⟩) (ca := .ow [.im (prD q), .im (prD (swp q))]) rfl e1 hix
    refine ⟨_, rfl, ⟨[.io, prS ls, prS qs, owS (as ++ [r]), inS q.1, inS q.2], some p2⟩, .inl ?_, _, _, as ++ [r], p2, rfl, by rw [List.length_append, h1]; rfl, fun y hy => ?_, fun y hy => ?_, hp2⟩
    · unfold l32_1
      show runs (callF tab (k + 3)) _ ⟨[.io, prS ls, prS qs, owS as, inS q.1, inS q.2], some p'⟩ = _
      refine r_seq (S1 := ⟨[.io, prS ls, prS qs, owS (as ++ [r]), inS q.1, inS q.2], some p2⟩) ?_ rfl
      rw [r_app1, if_neg (by simp [owS]), ei]
      show ((if ((as.map prD).map Cell.im).length < 16777216 then some (((as.map prD).map Cell.im) ++ [Cell.im (prD r)]) else none).map fun cs' => (⟨[.io, prS ls, prS qs, .c (.ow cs'), inS q.1, inS q.2], some p2⟩ : Sta)).map Out.nx = _
      rw [if_pos (by rw [List.length_map, List.length_map]; omega)]
      simp [owS]
    · rcases List.mem_append.mp hy with z | z
      · exact h2 y z
      · have : y = r := by simpa using z
        subst this
        rcases hrq with rfl | rfl
        · exact .inl hqm
        · exact .inr hqm
    · rw [List.take_add_one, hq] at hy
      rcases List.mem_append.mp hy with z | z
      · exact (h3 y z).imp (List.mem_append_left _) (List.mem_append_left _)
      · have : y = q := by simpa using z
        subst this
        rcases hrq with e | e
        · exact .inl (List.mem_append_right _ (by simp [e]))
        · exact .inr (List.mem_append_right _ (by simp [e])))
  rw [Nat.zero_add, List.length_map] at h1 h3
  rw [List.take_length] at h3
  refine ⟨as, p2, call_rt (ρ := [.io, prS ls, prS qs, .no, x4, x5]) rfl rfl rfl rfl ?_, ⟨fun q hq => ?_, fun a b => ?_⟩, by omega, hp2⟩
  · have s1 := e_callIo (cf := callF tab (k + 3)) (f := 28) (i := 0) (es := .cons (.var 1) .nil) (S := ⟨[.io, prS ls, .no, .no, .no, .no], some p⟩) (S2 := ⟨[.io, prS ls, .no, .no, .no, .no], some p⟩) (rs := [.own (.im (.lst (ls.map prD)))]) (cs := [.im (.lst (ls.map prD))]) (u := p) rfl rfl rfl rfl rfl rfl e1
    unfold f32
    refine r_seq (S1 := ⟨[.io, prS ls, .c (.ow ((qs.map prD).map .im)), .c (.ow []), .no, .no], some p1⟩) ?_ ?_
    · rw [r_par, x_cons_v]
      show (((evB (callF tab (k + 3)) (.callIo 28 0 (.cons (.var 1) .nil))).v ⟨[.io, prS ls, .no, .no, .no, .no], some p⟩ |>.bind _) |>.bind _) = _
      rw [s1]
      rfl
    · rw [r_frz]
      show runs _ _ ⟨[.io, prS ls, .c (.im (.lst (Cell.frzs ((qs.map prD).map .im)))), owS [], .no, .no], some p1⟩ = _
      rw [x_frzs_map]
      exact r_seq (r_for (S1 := ⟨[.io, prS ls, prS qs, owS [], .no, .no], some p1⟩) rfl e2) rfl
  · rcases h2 q hq with z | z
    · have := hl.ok q ((hm q).mp z)
      exact ⟨by omega, this.2, by omega⟩
    · have := hl.ok _ ((hm _).mp z)
      simp only [swp] at this
      exact ⟨this.2, by omega, by omega⟩
  · constructor
    · rintro (z | z)
      · rcases h2 _ z with y | y
        · exact .inl ((hm _).mp y)
        · exact .inr ((hm _).mp y)
      · rcases h2 _ z with y | y
        · exact .inr ((hm _).mp y)
        · exact .inl ((hm _).mp y)
    · rintro (z | z)
      · rcases h3 _ ((hm _).mpr z) with y | y
        · exact .inl y
        · exact .inr y
      · rcases h3 _ ((hm _).mpr z) with y | y
        · exact .inr y
        · exact .inl y
end K04
namespace K04
open L2 Mi
theorem pick_at (k : Nat) (m : Int) (hm : 0 < m) (ρ : List Sl) (hρ : ρ[0]? = some .io) (e : ME) (p : List D) (hp : PoolOk p) (he : (evB (callF tab (k + 1)) e).v ⟨ρ, some p⟩ = some (.own (.im (.int m)), ⟨ρ, some p⟩)) :
    ∃ (v : Nat) (p' : List D), (v : Int) < m ∧ PoolOk p' ∧ (evB (callF tab (k + 1)) (.callIo 17 0 (.cons e .nil))).v ⟨ρ, some p⟩ = some (.own (.im (.int (v : Int))), ⟨ρ, some p'⟩) := by
  obtain ⟨v, p', e1, h1, h2, h3, h4⟩ := pick k m hm p hp
  obtain ⟨v, rfl⟩ : ∃ n : Nat, v = (n : Int) := ⟨v.toNat, by omega⟩
  exact ⟨v, p', h2, h3, e_callIo (S2 := ⟨ρ, some p⟩) (rs := [.own (.im (.int m))]) hρ rfl (e_one he) rfl hρ rfl e1⟩
def Vd (n : Nat) (l : List (Nat × Nat)) : Prop := ∀ q ∈ l, q.1 < n ∧ q.2 < n ∧ q.1 ≠ q.2
theorem Vd.app {n : Nat} {l m : List (Nat × Nat)} (h : Vd n l) (h' : Vd n m) : Vd n (l ++ m) := fun q hq => (List.mem_append.mp hq).elim (h q) (h' q)
theorem Vd.take {n : Nat} {l : List (Nat × Nat)} (h : Vd n l) (k : Nat) : Vd n (l.take k) := fun q hq => h q (List.mem_of_mem_take hq)
theorem Vd.drop {n : Nat} {l : List (Nat × Nat)} (h : Vd n l) (k : Nat) : Vd n (l.drop k) := fun q hq => h q (List.mem_of_mem_drop hq)
theorem Vd.swp {n : Nat} {l : List (Nat × Nat)} (h : Vd n l) : Vd n (l.map swp) := fun q hq => by
  obtain ⟨r, hr, rfl⟩ := List.mem_map.mp hq
  have := h r hr
  exact ⟨this.2.1, this.1, fun e => this.2.2 e.symm⟩
theorem Good.vd {n : Nat} {l : List (Nat × Nat)} (g : Good n l) : Vd n l := fun q hq => by
  obtain ⟨r, hr⟩ := g.rk
  exact ⟨(g.lt q hq).1, (g.lt q hq).2, fun e => by have := hr q hq; rw [e] at this; omega⟩
/-- a list without the pair at j; with another one in its place; with one more -/
theorem e_cut (cf : CF) (S : Sta) (i j : Nat) (L : List (Nat × Nat)) (hz : L.length ≤ 10000) (m : Nat) (hi : S.ρ[i]? = some (prS L)) (hj : S.ρ[j]? = some (inS m)) :
    (evB cf (.bin .Add (.slc (.var i) .no (.var j)) (.slc (.var i) (.bin .Add (.var j) (.int 1)) .no))).v S = some (.own (.ow (((L.take m ++ L.drop (m + 1)).map prD).map .im)), S) := by
  have vi := e_var (cf := cf) hi
  have vj := e_var (cf := cf) hj
  have vj1 := e_bin (cf := cf) (op := .Add) (b := .int 1) (rb := .own (.im (.int 1))) (c := .im (.int ((m + 1 : Nat) : Int))) vj rfl rfl rfl
  have a1 := e_to (xs := L.map prD) vi rfl vj rfl rfl
  have a2 := e_from (xs := L.map prD) (m := m + 1) vi rfl vj1 rfl rfl
  have := e_cat a1 a2 (ims_map _) (ims_map _) (by rw [List.length_take, List.length_drop, List.length_map]; omega)
  rw [this]
  simp [List.map_take, List.map_drop]
theorem e_turn (cf : CF) (S : Sta) (i j : Nat) (L : List (Nat × Nat)) (hz : L.length ≤ 10000) (m : Nat) (q : Nat × Nat) (hq : L[m]? = some q) (hi : S.ρ[i]? = some (prS L)) (hj : S.ρ[j]? = some (inS m)) :
    (evB cf (.bin .Add (.bin .Add (.slc (.var i) .no (.var j)) (.lst (.cons (.tup (.cons (.idx (.idx (.var i) (.var j)) (.int 1)) (.cons (.idx (.idx (.var i) (.var j)) (.int 0)) .nil))) .nil))) (.slc (.var i) (.bin .Add (.var j) (.int 1)) .no))).v S = some (.own (.ow (((L.take m ++ [swp q] ++ L.drop (m + 1)).map prD).map .im)), S) := by
  have vi := e_var (cf := cf) hi
  have vj := e_var (cf := cf) hj
  have vj1 := e_bin (cf := cf) (op := .Add) (b := .int 1) (rb := .own (.im (.int 1))) (c := .im (.int ((m + 1 : Nat) : Int))) vj rfl rfl rfl
  have a1 := e_to (xs := L.map prD) vi rfl vj rfl rfl
  have a2 := e_from (xs := L.map prD) (m := m + 1) vi rfl vj1 rfl rfl
  have b0 := e_idx vi vj rfl (r := .own (.im (prD q))) (by show (atI (L.map prD) (m : Int)).map _ = _; rw [Mi.atI_nat, List.getElem?_map, hq]; rfl)
  have b1 := e_idx b0 (b := .int 1) (k := 1) rfl rfl (r := .own (.im (.int (q.2 : Int)))) rfl
  have b2 := e_idx b0 (b := .int 0) (k := 0) rfl rfl (r := .own (.im (.int (q.1 : Int)))) rfl
  have b3 : (evB cf (.lst (.cons (.tup (.cons (.idx (.idx (.var i) (.var j)) (.int 1)) (.cons (.idx (.idx (.var i) (.var j)) (.int 0)) .nil))) .nil))).v S = some (.own (.ow ([prD (swp q)].map .im)), S) := by
    have t : (evB cf (.tup (.cons (.idx (.idx (.var i) (.var j)) (.int 1)) (.cons (.idx (.idx (.var i) (.var j)) (.int 0)) .nil)))).v S = some (.own (.im (prD (swp q))), S) := by
      rw [x_tup, x_mkV_v, e_two b1 b2]; rfl
    rw [x_lst, x_mkV_v, e_one t]; rfl
  have c1 := e_cat a1 b3 (ims_map _) (ims_map _) (by rw [List.length_take, List.length_map]; simp; omega)
  have := e_cat c1 a2 (ims_map _) (ims_map _) (by rw [List.length_append, List.length_take, List.length_drop, List.length_map]; simp; omega)
  rw [this]
  simp [List.map_take, List.map_drop]
theorem e_more (cf : CF) (S : Sta) (i j : Nat) (L : List (Nat × Nat)) (hz : L.length ≤ 10000) (m : Nat) (x : ME) (d : D) (hx : (evB cf x).v S = some (.own (.im d), S)) (hi : S.ρ[i]? = some (prS L)) (hj : S.ρ[j]? = some (inS m)) :
    (evB cf (.bin .Add (.bin .Add (.slc (.var i) .no (.var j)) (.lst (.cons x .nil))) (.slc (.var i) (.var j) .no))).v S = some (.own (.ow (((L.take m).map prD ++ [d] ++ (L.drop m).map prD).map .im)), S) := by
  have vi := e_var (cf := cf) hi
  have vj := e_var (cf := cf) hj
  have a1 := e_to (xs := L.map prD) vi rfl vj rfl rfl
  have a2 := e_from (xs := L.map prD) vi rfl vj rfl rfl
  have b3 : (evB cf (.lst (.cons x .nil))).v S = some (.own (.ow ([d].map .im)), S) := by
    rw [x_lst, x_mkV_v, e_one hx]; rfl
  have c1 := e_cat a1 b3 (ims_map _) (ims_map _) (by rw [List.length_take, List.length_map]; simp; omega)
  have := e_cat c1 a2 (ims_map _) (ims_map _) (by rw [List.length_append, List.length_take, List.length_drop, List.length_map]; simp; omega)
  rw [this, List.map_take, List.map_drop]
/-! _law_near -/
def lsS (vs : List (List (Nat × Nat))) : Sl := .c (.ow (vs.map fun l => .ow ((l.map prD).map .im)))
def nrS (n : Nat) (ps ds : List (Nat × Nat)) (F x5 x6 x7 x8 x9 : Sl) (p : List D) : Sta := ⟨[.io, inS n, prS ps, prS ds, F, x5, x6, x7, x8, x9], some p⟩
theorem nr_app {cf : CF} {n : Nat} {ps ds : List (Nat × Nat)} {vs : List (List (Nat × Nat))} {x5 x6 x7 x8 x9 : Sl} {p : List D} {e : ME} {l : List (Nat × Nat)} (hv : vs.length ≤ 1000)
    (h : (evB cf e).v (nrS n ps ds (lsS vs) x5 x6 x7 x8 x9 p) = some (.own (.ow ((l.map prD).map .im)), nrS n ps ds (lsS vs) x5 x6 x7 x8 x9 p)) :
    run cf (.app1 4 e) (nrS n ps ds (lsS vs) x5 x6 x7 x8 x9 p) = some (.nx (nrS n ps ds (lsS (vs ++ [l])) x5 x6 x7 x8 x9 p)) := by
  rw [r_app1, if_neg (by simp [nrS, lsS]), h]
  show ((if (vs.map fun l => Cell.ow ((l.map prD).map .im)).length < 16777216 then some ((vs.map fun l => Cell.ow ((l.map prD).map .im)) ++ [Cell.ow ((l.map prD).map .im)]) else none).map fun cs' => nrS n ps ds (.c (.ow cs')) x5 x6 x7 x8 x9 p).map Out.nx = _
  rw [if_pos (by rw [List.length_map]; omega)]
  simp [nrS, lsS]
theorem nr_swap (cf : CF) (n : Nat) (ps ds : List (Nat × Nat)) (p : List D) (i : Nat) (L : List (Nat × Nat)) (hz : L.length ≤ 10000) (hi : (nrS n ps ds .no .no .no .no .no .no p).ρ[i]? = some (prS L)) (e : ME) (he : e = .tup (.cons (.var 6) (.cons (.var 5) .nil))) :
    (evB cf (.comp [("a", 5), ("b", 6)] e (.tp (.cons (.nm 5) (.cons (.nm 6) .nil))) (.ex (.var i)) .nil)).v (nrS n ps ds .no .no .no .no .no .no p) = some (.own (.ow (((L.map swp).map prD).map .im)), nrS n ps ds .no .no .no .no .no .no p) := by
  subst he
  obtain ⟨acc, S1, c1, y5, y6, rfl, h2⟩ := comp_nx (vs := [5, 6]) (t := .tp (.cons (.nm 5) (.cons (.nm 6) .nil))) (cond := (evsB cf .nil).t) (el := (evB cf (.tup (.cons (.var 6) (.cons (.var 5) .nil)))).v)
    (fun j S acc => ∃ (y5 y6 : Sl), S = nrS n ps ds .no y5 y6 .no .no .no p ∧ acc = (((L.take j).map swp).map prD).map .im) 0 (L.map prD)
    (nrS n ps ds .no .no .no .no .no .no p) [] 0 ⟨.no, .no, rfl, rfl⟩ (by rw [List.length_map, List.length_nil]; omega) (fun j d S acc hd ⟨y5, y6, h1, h2⟩ => by
      subst h1 h2
      rw [List.getElem?_map] at hd
      simp only [Option.map_eq_some_iff] at hd
      obtain ⟨q, hq, rfl⟩ := hd
      refine ⟨_, rfl, true, nrS n ps ds .no (inS q.1) (inS q.2) .no .no .no p, rfl, ?_⟩
      rw [if_pos rfl]
      refine ⟨.im (prD (swp q)), nrS n ps ds .no (inS q.1) (inS q.2) .no .no .no p, rfl, _, _, rfl, ?_⟩
      rw [Nat.zero_add, List.take_add_one, hq]
      simp)
  have src : evIB cf (.ex (.var i)) (nrS n ps ds .no .no .no .no .no .no p) = some (false, L.map prD, nrS n ps ds .no .no .no .no .no .no p) := by rw [x_iex, e_var hi]; rfl
  rw [x_comp, x_mkV_v, src, Option.bind_some]
  rw [if_neg (by simp [nrS, Sl.isIm])]
  simp only [List.map_cons, List.map_nil]
  rw [c1]
  rw [Nat.zero_add, List.length_map, List.take_length] at h2
  rw [h2]
  simp [backS, nrS]
theorem ne_nil (l : List (Nat × Nat)) : scmp .NotEq (.lst (l.map prD)) (.lst []) = some (!decide (l = [])) := by
  show (if (D.shps 59 (l.map prD) && D.shps 59 (([] : List (Nat × Nat)).map prD)) = true then some (!D.eqvs (l.map prD) (([] : List (Nat × Nat)).map prD)) else none) = _
  rw [shps_prD 58 l, shps_prD 58 [], eqvs_prD l []]
  rfl
theorem ls_frz (vs : List (List (Nat × Nat))) : Cell.frzs (vs.map fun l => Cell.ow ((l.map prD).map .im)) = vs.map fun l => D.lst (l.map prD) := by
  induction vs with
  | nil => rfl
  | cons l vs ih => rw [List.map_cons, x_frzs_cons, x_frz_ow, x_frzs_map, ih]; rfl
end K04
namespace K04
open L2 Mi
/-- the lists with one pair out or turned -/
theorem near_one (k n : Nat) (ps ds : List (Nat × Nat)) (i : Nat) (L : List (Nat × Nat)) (hz : L.length ≤ 5000) (hv : Vd n L) (hL : 1 ≤ L.length) (hi : i = 2 ∧ L = ps ∨ i = 3 ∧ L = ds) (vs : List (List (Nat × Nat))) (hvs : vs.length ≤ 100) (x7 : Sl) (p : List D) (hp : PoolOk p) :
    ∃ (l1 l2 : List (Nat × Nat)) (x7' : Sl) (p' : List D), Vd n l1 ∧ Vd n l2 ∧ l1.length ≤ L.length ∧ l2.length ≤ L.length ∧ PoolOk p' ∧ ∀ ss, runs (callF tab (k + 1)) (.cons (.asg (.nm 7) (.callIo 17 0 (.cons (.blt "len" (.cons (.var i) .nil)) .nil)))
      (.cons (.app1 4 (.bin .Add (.slc (.var i) .no (.var 7)) (.slc (.var i) (.bin .Add (.var 7) (.int 1)) .no)))
      (.cons (.app1 4 (.bin .Add (.bin .Add (.slc (.var i) .no (.var 7)) (.lst (.cons (.tup (.cons (.idx (.idx (.var i) (.var 7)) (.int 1)) (.cons (.idx (.idx (.var i) (.var 7)) (.int 0)) .nil))) .nil))) (.slc (.var i) (.bin .Add (.var 7) (.int 1)) .no))) ss)))
      (nrS n ps ds (lsS vs) .no .no x7 .no .no p) = runs (callF tab (k + 1)) ss (nrS n ps ds (lsS (vs ++ [l1] ++ [l2])) .no .no x7' .no .no p') := by
  have hat : ∀ F x7 p, (nrS n ps ds F .no .no x7 .no .no p).ρ[i]? = some (prS L) := fun F x7 p => by rcases hi with ⟨rfl, rfl⟩ | ⟨rfl, rfl⟩ <;> rfl
  have el := e_len (cf := callF tab (k + 1)) (ds := L.map prD) (e_var (hat (lsS vs) x7 p)) rfl
  rw [List.length_map] at el
  obtain ⟨m, p1, hm, hp1, e1⟩ := pick_at k (L.length : Int) (by omega) (nrS n ps ds (lsS vs) .no .no x7 .no .no p).ρ rfl (.blt "len" (.cons (.var i) .nil)) p hp el
  have hmL : m < L.length := by omega
  have hq : L[m]? = some L[m] := List.getElem?_eq_getElem hmL
  have c1 := e_cut (callF tab (k + 1)) (nrS n ps ds (lsS vs) .no .no (inS m) .no .no p1) i 7 L (by omega) m (hat _ _ _) rfl
  have c2 := e_turn (callF tab (k + 1)) (nrS n ps ds (lsS (vs ++ [L.take m ++ L.drop (m + 1)])) .no .no (inS m) .no .no p1) i 7 L (by omega) m L[m] hq (hat _ _ _) rfl
  have a1 := nr_app (vs := vs) (by omega) c1
  have a2 := nr_app (vs := vs ++ [L.take m ++ L.drop (m + 1)]) (by rw [List.length_append]; simp; omega) c2
  have hsw : Vd n [swp L[m]] := fun q hq => by
    have e : q = swp L[m] := by simpa using hq
    subst e
    have := hv L[m] (List.getElem_mem hmL)
    exact ⟨this.2.1, this.1, fun e => this.2.2 e.symm⟩
  refine ⟨L.take m ++ L.drop (m + 1), L.take m ++ [swp L[m]] ++ L.drop (m + 1), inS m, p1, (hv.take m).app (hv.drop _), ((hv.take m).app hsw).app (hv.drop _), by rw [List.length_append, List.length_take, List.length_drop]; omega, by rw [List.length_append, List.length_append, List.length_take, List.length_drop, List.length_singleton]; omega, hp1, fun ss => ?_⟩
  have i1 : run (callF tab (k + 1)) (.asg (.nm 7) (.callIo 17 0 (.cons (.blt "len" (.cons (.var i) .nil)) .nil))) (nrS n ps ds (lsS vs) .no .no x7 .no .no p) = some (.nx (nrS n ps ds (lsS vs) .no .no (inS m) .no .no p1)) := by
    rw [r_asg]
    show ((evB (callF tab (k + 1)) (.callIo 17 0 (.cons (.blt "len" (.cons (.var i) .nil)) .nil))).v ⟨(nrS n ps ds (lsS vs) .no .no x7 .no .no p).ρ, some p⟩).bind _ = _
    rw [e1]
    rfl
  rw [r_cons, i1, Option.bind_some]
  show runs (callF tab (k + 1)) (.cons _ (.cons _ ss)) _ = _
  rw [r_cons, a1, Option.bind_some]
  show runs (callF tab (k + 1)) (.cons _ ss) _ = _
  rw [r_cons, a2, Option.bind_some]
theorem near_more (k n : Nat) (hn : 2 ≤ n) (ps ds : List (Nat × Nat)) (hz : ps.length ≤ 5000) (hv : Vd n ps) (vs : List (List (Nat × Nat))) (hvs : vs.length ≤ 100) (x7 : Sl) (p : List D) (hp : PoolOk p) :
    ∃ (l1 : List (Nat × Nat)) (x5' x8' x9' : Sl) (p' : List D), Vd n l1 ∧ l1.length ≤ ps.length + 1 ∧ PoolOk p' ∧ runs (callF tab (k + 1)) (.cons (.par [5, 8] (.cons (.callIo 17 0 (.cons (.var 1) .nil)) (.cons (.bin .Add (.int 1) (.callIo 17 0 (.cons (.bin .Sub (.var 1) (.int 1)) .nil))) .nil)))
    (.cons (.asg (.nm 9) (.callIo 17 0 (.cons (.bin .Add (.blt "len" (.cons (.var 2) .nil)) (.int 1)) .nil)))
    (.cons (.app1 4 (.bin .Add (.bin .Add (.slc (.var 2) .no (.var 9)) (.lst (.cons (.tup (.cons (.var 5) (.cons (.bin .Mod (.blt "int" (.cons (.bin .Add (.var 5) (.var 8)) .nil)) (.var 1)) .nil))) .nil))) (.slc (.var 2) (.var 9) .no)))
    .nil))) (nrS n ps ds (lsS vs) .no .no x7 .no .no p) = some (.nx (nrS n ps ds (lsS (vs ++ [l1])) x5' .no x7 x8' x9' p')) := by
  obtain ⟨a, p1, ha, hp1, e1⟩ := pick_at k (n : Int) (by omega) (nrS n ps ds (lsS vs) .no .no x7 .no .no p).ρ rfl (.var 1) p hp rfl
  have hsub : (evB (callF tab (k + 1)) (.bin .Sub (.var 1) (.int 1))).v (nrS n ps ds (lsS vs) .no .no x7 .no .no p1) = some (.own (.im (.int ((n : Int) - 1))), nrS n ps ds (lsS vs) .no .no x7 .no .no p1) := rfl
  obtain ⟨st, p2, hst, hp2, e2⟩ := pick_at k ((n : Int) - 1) (by omega) (nrS n ps ds (lsS vs) .no .no x7 .no .no p1).ρ rfl (.bin .Sub (.var 1) (.int 1)) p1 hp1 hsub
  have e2' := e_bin (cf := callF tab (k + 1)) (op := .Add) (a := .int 1) (ra := .own (.im (.int 1))) (c := .im (.int ((1 + st : Nat) : Int))) rfl e2 rfl rfl
  have el := e_len (cf := callF tab (k + 1)) (a := .var 2) (S := nrS n ps ds (lsS vs) (inS a) .no x7 (inS (1 + st)) .no p2) (ds := ps.map prD) rfl rfl
  rw [List.length_map] at el
  have el1 := e_bin (cf := callF tab (k + 1)) (op := .Add) (b := .int 1) (rb := .own (.im (.int 1))) (c := .im (.int ((ps.length : Int) + 1))) el rfl rfl rfl
  obtain ⟨m, p3, hm, hp3, e3⟩ := pick_at k ((ps.length : Int) + 1) (by omega) (nrS n ps ds (lsS vs) (inS a) .no x7 (inS (1 + st)) .no p2).ρ rfl (.bin .Add (.blt "len" (.cons (.var 2) .nil)) (.int 1)) p2 hp2 el1
  have han : a < n := by omega
  have hs1 : st < n - 1 := by omega
  have hb : (a + (1 + st)) % n < n := Nat.mod_lt _ (by omega)
  have hne : a ≠ (a + (1 + st)) % n := by
    by_cases h : a + (1 + st) < n
    · rw [Nat.mod_eq_of_lt h]; omega
    · rw [Nat.mod_eq_sub_mod (by omega), Nat.mod_eq_of_lt (by omega)]; omega
  have ht : (evB (callF tab (k + 1)) (.tup (.cons (.var 5) (.cons (.bin .Mod (.blt "int" (.cons (.bin .Add (.var 5) (.var 8)) .nil)) (.var 1)) .nil)))).v (nrS n ps ds (lsS vs) (inS a) .no x7 (inS (1 + st)) (inS m) p3) = some (.own (.im (prD (a, (a + (1 + st)) % n))), nrS n ps ds (lsS vs) (inS a) .no x7 (inS (1 + st)) (inS m) p3) := by
    have b1 : (evB (callF tab (k + 1)) (.blt "int" (.cons (.bin .Add (.var 5) (.var 8)) .nil))).v (nrS n ps ds (lsS vs) (inS a) .no x7 (inS (1 + st)) (inS m) p3) = some (.own (.im (.int ((a + (1 + st) : Nat) : Int))), nrS n ps ds (lsS vs) (inS a) .no x7 (inS (1 + st)) (inS m) p3) := rfl
    have b2 := e_bin (cf := callF tab (k + 1)) (op := .Mod) (b := .var 1) (rb := .own (.im (.int (n : Int)))) b1 rfl rfl (o_mod (i := ((a + (1 + st) : Nat) : Int)) (j := (n : Int)) (by omega))
    rw [x_tup, x_mkV_v, e_two (ca := .im (.int (a : Int))) rfl b2]
    rfl
  have hmo := e_more (callF tab (k + 1)) (nrS n ps ds (lsS vs) (inS a) .no x7 (inS (1 + st)) (inS m) p3) 2 9 ps (by omega) m _ _ ht rfl rfl
  have hmo' : (evB (callF tab (k + 1)) (.bin .Add (.bin .Add (.slc (.var 2) .no (.var 9)) (.lst (.cons (.tup (.cons (.var 5) (.cons (.bin .Mod (.blt "int" (.cons (.bin .Add (.var 5) (.var 8)) .nil)) (.var 1)) .nil))) .nil))) (.slc (.var 2) (.var 9) .no))).v (nrS n ps ds (lsS vs) (inS a) .no x7 (inS (1 + st)) (inS m) p3) =
      some (.own (.ow (((ps.take m ++ [(a, (a + (1 + st)) % n)] ++ ps.drop m).map prD).map .im)), nrS n ps ds (lsS vs) (inS a) .no x7 (inS (1 + st)) (inS m) p3) := by
    rw [hmo]
    simp
  have a1 := nr_app (vs := vs) (by omega) hmo'
  have hone : Vd n [(a, (a + (1 + st)) % n)] := fun q hq => by
    have e : q = (a, (a + (1 + st)) % n) := by simpa using hq
    subst e
    exact ⟨han, hb, hne⟩
  refine ⟨ps.take m ++ [(a, (a + (1 + st)) % n)] ++ ps.drop m, inS a, inS (1 + st), inS m, p3, ((hv.take m).app hone).app (hv.drop m), by rw [List.length_append, List.length_append, List.length_take, List.length_drop, List.length_singleton]; omega, hp3, ?_⟩
  refine r_seq (S1 := nrS n ps ds (lsS vs) (inS a) .no x7 (inS (1 + st)) .no p2) ?_ (r_seq (S1 := nrS n ps ds (lsS vs) (inS a) .no x7 (inS (1 + st)) (inS m) p3) ?_ (r_seq a1 rfl))
  · have h2 := e_two (cf := callF tab (k + 1)) (a := .callIo 17 0 (.cons (.var 1) .nil)) (b := .bin .Add (.int 1) (.callIo 17 0 (.cons (.bin .Sub (.var 1) (.int 1)) .nil))) (ca := .im (.int (a : Int))) e1 e2'
    rw [r_par]
    show ((evsB (callF tab (k + 1)) (.cons (.callIo 17 0 (.cons (.var 1) .nil)) (.cons (.bin .Add (.int 1) (.callIo 17 0 (.cons (.bin .Sub (.var 1) (.int 1)) .nil))) .nil))).v ⟨(nrS n ps ds (lsS vs) .no .no x7 .no .no p).ρ, some p⟩).bind _ = _
    rw [h2]
    rfl
  · rw [r_asg]
    show ((evB (callF tab (k + 1)) (.callIo 17 0 (.cons (.bin .Add (.blt "len" (.cons (.var 2) .nil)) (.int 1)) .nil))).v ⟨(nrS n ps ds (lsS vs) (inS a) .no x7 (inS (1 + st)) .no p2).ρ, some p2⟩).bind _ = _
    rw [e3]
    rfl
/-- _law_near -/
theorem near_ok (k n : Nat) (hn : 1 ≤ n) (ps ds : List (Nat × Nat)) (hz : ps.length ≤ 1600) (hzd : ds.length ≤ 1600) (hv : Vd n ps) (hvd : Vd n ds) (hne : ds ≠ [] → ps ≠ []) (p : List D) (hp : PoolOk p) :
    ∃ (vs : List (List (Nat × Nat))) (p' : List D), callF tab (k + 2) 33 [.int (n : Int), .lst (ps.map prD), .lst (ds.map prD)] (some p) = some (.im (.lst (vs.map fun l => .lst (l.map prD))), some p') ∧ (∀ l ∈ vs, Vd n l ∧ l.length ≤ 1601) ∧ vs.length ≤ 100 ∧ PoolOk p' := by
  have w1 := nr_swap (callF tab (k + 1)) n ps ds p 2 ps (by omega) rfl e33_2 rfl
  have w2 := nr_swap (callF tab (k + 1)) n ps ds p 3 ds (by omega) rfl e33_1 rfl
  have w3 := e_three (c := .lst .nil) (rc := .own (.ow [])) (S3 := nrS n ps ds .no .no .no .no .no .no p) w1 w2 rfl
  have i0 : run (callF tab (k + 1)) (.asg (.nm 4) (.lst (.cons (.comp [("a", 5), ("b", 6)] e33_2 (.tp (.cons (.nm 5) (.cons (.nm 6) .nil))) (.ex (.var 2)) .nil) (.cons (.comp [("a", 5), ("b", 6)] e33_1 (.tp (.cons (.nm 5) (.cons (.nm 6) .nil))) (.ex (.var 3)) .nil) (.cons (.lst .nil) .nil))))) (nrS n ps ds .no .no .no .no .no .no p) = some (.nx (nrS n ps ds (lsS [ps.map swp, ds.map swp, []]) .no .no .no .no .no p)) := by
    rw [r_asg, x_lst, x_mkV_v, w3]
    rfl
  have v0 : ∀ l ∈ [ps.map swp, ds.map swp, []], Vd n l ∧ l.length ≤ 1601 := fun l hl => by
    simp only [List.mem_cons, List.not_mem_nil, or_false] at hl
    rcases hl with rfl | rfl | rfl
    · exact ⟨hv.swp, by rw [List.length_map]; omega⟩
    · exact ⟨hvd.swp, by rw [List.length_map]; omega⟩
    · exact ⟨fun _ h => (nomatch h), by simp⟩
  have cd : (evB (callF tab (k + 1)) (.cmp .NotEq (.var 3) (.lst .nil))).t (nrS n ps ds (lsS [ps.map swp, ds.map swp, []]) .no .no .no .no .no p) = some (!decide (ds = []), nrS n ps ds (lsS [ps.map swp, ds.map swp, []]) .no .no .no .no .no p) :=
    e_cmpT (a := .var 3) (b := .lst .nil) (ra := .own (.im (.lst (ds.map prD)))) (rb := .own (.ow [])) rfl rfl rfl (ne_nil ds)
  -- behind the first if
  have mid : ∃ (vs : List (List (Nat × Nat))) (x7 : Sl) (p1 : List D), (∀ l ∈ vs, Vd n l ∧ l.length ≤ 1601) ∧ vs.length ≤ 50 ∧ PoolOk p1 ∧ ∀ s2 ss, runs (callF tab (k + 1)) (.cons (.ife (.cmp .NotEq (.var 3) (.lst .nil)) (.cons (.asg (.nm 7) (.callIo 17 0 (.cons (.blt "len" (.cons (.var 3) .nil)) .nil)))
    (.cons (.app1 4 (.bin .Add (.slc (.var 3) .no (.var 7)) (.slc (.var 3) (.bin .Add (.var 7) (.int 1)) .no)))
    (.cons (.app1 4 (.bin .Add (.bin .Add (.slc (.var 3) .no (.var 7)) (.lst (.cons (.tup (.cons (.idx (.idx (.var 3) (.var 7)) (.int 1)) (.cons (.idx (.idx (.var 3) (.var 7)) (.int 0)) .nil))) .nil))) (.slc (.var 3) (.bin .Add (.var 7) (.int 1)) .no)))
    (.cons (.asg (.nm 7) (.callIo 17 0 (.cons (.blt "len" (.cons (.var 2) .nil)) .nil)))
    (.cons (.app1 4 (.bin .Add (.slc (.var 2) .no (.var 7)) (.slc (.var 2) (.bin .Add (.var 7) (.int 1)) .no)))
    (.cons (.app1 4 (.bin .Add (.bin .Add (.slc (.var 2) .no (.var 7)) (.lst (.cons (.tup (.cons (.idx (.idx (.var 2) (.var 7)) (.int 1)) (.cons (.idx (.idx (.var 2) (.var 7)) (.int 0)) .nil))) .nil))) (.slc (.var 2) (.bin .Add (.var 7) (.int 1)) .no)))
    .nil)))))) .nil) (.cons s2 ss)) (nrS n ps ds (lsS [ps.map swp, ds.map swp, []]) .no .no .no .no .no p) = runs (callF tab (k + 1)) (.cons s2 ss) (nrS n ps ds (lsS vs) .no .no x7 .no .no p1) := by
    by_cases hd : ds = []
    · rw [hd] at cd
      refine ⟨_, .no, p, v0, by simp, hp, fun s2 ss => ?_⟩
      rw [hd]
      rw [hd] at v0
      rw [r_cons, r_skip cd]
      rfl
    · have hp0 := hne hd
      obtain ⟨l1, l2, y7, p1, g1, g2, g3, g4, hp1, hr1⟩ := near_one k n ps ds 3 ds (by omega) hvd (by cases ds with | nil => exact absurd rfl hd | cons _ _ => simp) (.inr ⟨rfl, rfl⟩) [ps.map swp, ds.map swp, []] (by simp) .no p hp
      obtain ⟨l3, l4, z7, p2, f1, f2, f3, f4, hp2, hr2⟩ := near_one k n ps ds 2 ps (by omega) hv (by cases ps with | nil => exact absurd rfl hp0 | cons _ _ => simp) (.inl ⟨rfl, rfl⟩) ([ps.map swp, ds.map swp, []] ++ [l1] ++ [l2]) (by simp) y7 p1 hp1
      refine ⟨[ps.map swp, ds.map swp, []] ++ [l1] ++ [l2] ++ [l3] ++ [l4], z7, p2, fun l hl => ?_, by simp, hp2, fun s2 ss => ?_⟩
      · simp only [List.mem_append, List.mem_singleton] at hl
        rcases hl with (((hl | rfl) | rfl) | rfl) | rfl
        · exact v0 l hl
        · exact ⟨g1, by omega⟩
        · exact ⟨g2, by omega⟩
        · exact ⟨f1, by omega⟩
        · exact ⟨f2, by omega⟩
      · have cd' : (evB (callF tab (k + 1)) (.cmp .NotEq (.var 3) (.lst .nil))).t (nrS n ps ds (lsS [ps.map swp, ds.map swp, []]) .no .no .no .no .no p) = some (true, nrS n ps ds (lsS [ps.map swp, ds.map swp, []]) .no .no .no .no .no p) := by rw [cd, decide_eq_false hd]; rfl
        rw [r_cons, r_ifeT cd', hr1, hr2]
        rfl
  obtain ⟨vs, x7, p1, hvs, hl, hp1, hmid⟩ := mid
  have cg : (evB (callF tab (k + 1)) (.cmp .Gt (.var 1) (.int 1))).t (nrS n ps ds (lsS vs) .no .no x7 .no .no p1) = some (decide ((1 : Int) < (n : Int)), nrS n ps ds (lsS vs) .no .no x7 .no .no p1) := rfl
  have last : ∃ (vs' : List (List (Nat × Nat))) (x5 x8 x9 : Sl) (p2 : List D), (∀ l ∈ vs', Vd n l ∧ l.length ≤ 1601) ∧ vs'.length ≤ 51 ∧ PoolOk p2 ∧ run (callF tab (k + 1)) (.ife (.cmp .Gt (.var 1) (.int 1)) (.cons (.par [5, 8] (.cons (.callIo 17 0 (.cons (.var 1) .nil)) (.cons (.bin .Add (.int 1) (.callIo 17 0 (.cons (.bin .Sub (.var 1) (.int 1)) .nil))) .nil)))
    (.cons (.asg (.nm 9) (.callIo 17 0 (.cons (.bin .Add (.blt "len" (.cons (.var 2) .nil)) (.int 1)) .nil)))
    (.cons (.app1 4 (.bin .Add (.bin .Add (.slc (.var 2) .no (.var 9)) (.lst (.cons (.tup (.cons (.var 5) (.cons (.bin .Mod (.blt "int" (.cons (.bin .Add (.var 5) (.var 8)) .nil)) (.var 1)) .nil))) .nil))) (.slc (.var 2) (.var 9) .no)))
    .nil))) .nil) (nrS n ps ds (lsS vs) .no .no x7 .no .no p1) = some (.nx (nrS n ps ds (lsS vs') x5 .no x7 x8 x9 p2)) := by
    by_cases h1 : 1 < n
    · obtain ⟨l1, x5, x8, x9, p2, g1, g2, hp2, hr⟩ := near_more k n h1 ps ds (by omega) hv vs (by omega) x7 p1 hp1
      refine ⟨vs ++ [l1], x5, x8, x9, p2, fun l hl => ?_, by rw [List.length_append]; simp; omega, hp2, ?_⟩
      · rcases List.mem_append.mp hl with z | z
        · exact hvs l z
        · have : l = l1 := by simpa using z
          subst this
          exact ⟨g1, by omega⟩
      · rw [decide_eq_true (by omega)] at cg
        rw [r_ifeT cg, hr]
    · rw [decide_eq_false (by omega)] at cg
      exact ⟨vs, .no, .no, .no, p1, hvs, by omega, hp1, r_skip cg⟩
  obtain ⟨vs', x5, x8, x9, p2, hvs', hl', hp2, hlast⟩ := last
  refine ⟨vs', p2, call_rt (ρ := (nrS n ps ds .no x5 .no x7 x8 x9 p2).ρ) rfl rfl rfl rfl ?_, hvs', by omega, hp2⟩
  unfold f33
  refine r_seq i0 ?_
  rw [hmid]
  refine r_seq hlast ?_
  rw [r_frz]
  show runs _ _ (nrS n ps ds (.c (.im (.lst (Cell.frzs (vs'.map fun l => Cell.ow ((l.map prD).map .im)))))) x5 .no x7 x8 x9 p2) = _
  rw [ls_frz]
  rfl
end K04
namespace K04
open L2 Mi
/-- no list of pairs -/
def NoP (k n : Nat) (d : D) : Prop := callF tab (k + 4) 3 [.int (n : Int), d] none = some (.im (.bl false), none)
theorem nop_more (k n : Nat) (ps : List (Nat × Nat)) (hv : Vd n ps) (hz : ps.length ≤ 1600) (m : Nat) (w : D) (hw : callF tab (k + 3) 2 [.int (n : Int), w] none = some (.im (.bl false), none)) : NoP k n (.lst ((ps.take m).map prD ++ [w] ++ (ps.drop m).map prD)) := by
  have hlen : ((ps.take m).map prD ++ [w] ++ (ps.drop m).map prD).length = ps.length + 1 := by
    rw [List.length_append, List.length_append, List.length_map, List.length_map, List.length_take, List.length_drop, List.length_singleton]; omega
  by_cases h : ps.length + 1 ≤ 1600
  · let f : D → Bool := fun d => match callF tab (k + 3) 2 [.int (n : Int), d] none with | some (.im (.bl b), none) => b | _ => false
    have hf : ∀ d b, callF tab (k + 3) 2 [.int (n : Int), d] none = some (.im (.bl b), none) → f d = b := fun d b e => by
      show (match callF tab (k + 3) 2 [.int (n : Int), d] none with | some (.im (.bl b), none) => b | _ => false) = b
      rw [e]
    have prs : ∀ l : List (Nat × Nat), Vd n l → ∀ d ∈ l.map prD, callF tab (k + 3) 2 [.int (n : Int), d] none = some (.im (.bl true), none) := fun l hl d hd => by
      obtain ⟨q, hq, rfl⟩ := List.mem_map.mp hd
      obtain ⟨a, b, c⟩ := hl q hq
      exact pair_ok k n q a b c
    have hall := list_any k n _ (by rw [hlen]; exact h) f (fun d hd => by
      rcases List.mem_append.mp hd with hd | hd
      · rcases List.mem_append.mp hd with hd | hd
        · have e := prs _ (hv.take m) d hd
          rw [hf d _ e]; exact e
        · have : d = w := by simpa using hd
          subst this
          rw [hf _ _ hw]; exact hw
      · have e := prs _ (hv.drop m) d hd
        rw [hf d _ e]; exact e)
    show _ = _
    rw [hall]
    have : ((ps.take m).map prD ++ [w] ++ (ps.drop m).map prD).all f = false := by
      rw [List.all_eq_false]
      exact ⟨w, by simp, by rw [hf _ _ hw]; simp⟩
    rw [this]
  · exact list_long k n _ (by rw [hlen]; omega)
def nines (ps : List (Nat × Nat)) : List Cell := [.im .non, .im (.bl true), .im (.int 0), .im (.str ""), .im (.str "01"), .im (.tup []), .im (.tup (ps.map prD)), .im (.tup [.lst (ps.map prD), .lst (ps.map prD)]), .ow [.im (.lst (ps.map prD))]]
theorem nop_nines (k n : Nat) (ps : List (Nat × Nat)) : ∀ c ∈ nines ps, NoP k n c.frz := fun c hc => by
  simp only [nines, List.mem_cons, List.not_mem_nil, or_false] at hc
  rcases hc with rfl | rfl | rfl | rfl | rfl | rfl | rfl | rfl | rfl
  · exact list_no k n _ rfl
  · exact list_no k n _ rfl
  · exact list_no k n _ rfl
  · exact list_no k n _ rfl
  · exact list_no k n _ rfl
  · exact list_no k n _ rfl
  · exact list_no k n _ rfl
  · exact list_no k n _ rfl
  · have := list_any k n [.lst (ps.map prD)] (by simp) (fun _ => false) (fun d hd => by
      have : d = .lst (ps.map prD) := by simpa using hd
      subst this
      exact pair_no k n _ rfl)
    exact this
def wgS (n : Nat) (ps : List (Nat × Nat)) (a : Nat) (far : Nat) (m : Nat) (F : List Cell) (x7 x8 : Sl) (p : List D) : Sta := ⟨[.io, inS n, prS ps, inS a, inS far, inS m, .c (.ow F), x7, x8], some p⟩
theorem wrong_step (cf : CF) (k n : Nat) (ps : List (Nat × Nat)) (hv : Vd n ps) (hz : ps.length ≤ 1600) (a far m : Nat) (ha : a < n) (F : List Cell) (hF : F.length ≤ 100) (x7 : Sl) (w : D) (hw : w ∈ wrongs n a far) (p : List D) :
    ∃ c, NoP k n (Cell.frz c) ∧ runs cf l34_1 (wgS n ps a far m F x7 (.c (.im w)) p) = some (.nx (wgS n ps a far m (F ++ [c]) x7 (.c (.im w)) p)) := by
  have e := e_more cf (wgS n ps a far m F x7 (.c (.im w)) p) 2 5 ps (by omega) m (.var 8) w (e_var rfl) rfl rfl
  refine ⟨.ow (((ps.take m).map prD ++ [w] ++ (ps.drop m).map prD).map .im), ?_, ?_⟩
  · rw [x_frz_ow, x_frzs_map]
    exact nop_more k n ps hv hz m w (wrong_pair k n a far ha w hw)
  · unfold l34_1
    refine r_seq (S1 := wgS n ps a far m (F ++ [.ow (((ps.take m).map prD ++ [w] ++ (ps.drop m).map prD).map .im)]) x7 (.c (.im w)) p) ?_ rfl
    rw [r_app1, if_neg (by simp [wgS]), e]
    show ((if F.length < 16777216 then some (F ++ [Cell.ow (((ps.take m).map prD ++ [w] ++ (ps.drop m).map prD).map .im)]) else none).map fun cs' => wgS n ps a far m cs' x7 (.c (.im w)) p).map Out.nx = _
    rw [if_pos (by omega)]
    rfl
theorem far_ok {cf : CF} {S S1 : Sta} {e : ME} {w : Nat} (hw : w < 60) (h : (evB cf e).v S = some (.own (.im (.int (w : Int))), S1)) : (evB cf (.bin .Mult e (.bin .Pow (.int 10) (.int 9)))).v S = some (.own (.im (.int ((w * 1000000000 : Nat) : Int))), S1) := by
  have hp := e_bin (cf := cf) (op := .Pow) (a := .int 10) (b := .int 9) (S := S1) (S1 := S1) (S2 := S1) (ra := .own (.im (.int 10))) (rb := .own (.im (.int 9))) rfl rfl rfl (o_pow (i := 10) (j := 9) ⟨by omega, by omega, by decide⟩)
  have := e_bin (cf := cf) (op := .Mult) h hp rfl (o_mul (i := (w : Int)) (j := 10 ^ (9 : Int).toNat) ⟨by decide, by decide⟩)
  rw [this]
  have : (w : Int) * 10 ^ (9 : Int).toNat = ((w * 1000000000 : Nat) : Int) := by
    show (w : Int) * 1000000000 = _
    omega
  rw [this]
theorem mem_at {α : Type} {l : List α} {i : Nat} (h : i < l.length) : ∃ x, l[i]? = some x ∧ x ∈ l := ⟨l[i], List.getElem?_eq_getElem h, List.getElem_mem h⟩
/-- _law_wrong -/
theorem wrong_ok (k k' n : Nat) (hn : 1 ≤ n) (ps : List (Nat × Nat)) (hz : ps.length ≤ 1600) (hv : Vd n ps) (p : List D) (hp : PoolOk p) :
    ∃ (F : List Cell) (p' : List D), callF tab (k + 2) 34 [.int (n : Int), .lst (ps.map prD)] (some p) = some (.ow F, some p') ∧ (∀ c ∈ F, NoP k' n c.frz) ∧ PoolOk p' := by
  obtain ⟨a, p1, ha, hp1, e1⟩ := pick_at k (n : Int) (by omega) [.io, inS n, prS ps, .no, .no, .no, .no, .no, .no] rfl (.var 1) p hp rfl
  obtain ⟨w, p2, hw, hp2, e2⟩ := pick_at k 60 (by omega) [.io, inS n, prS ps, .no, .no, .no, .no, .no, .no] rfl (.int 60) p1 hp1 rfl
  have e2' := far_ok (by omega) e2
  have el := e_len (cf := callF tab (k + 1)) (a := .var 2) (S := ⟨[.io, inS n, prS ps, .no, .no, .no, .no, .no, .no], some p2⟩) (ds := ps.map prD) rfl rfl
  rw [List.length_map] at el
  have el1 := e_bin (cf := callF tab (k + 1)) (op := .Add) (b := .int 1) (rb := .own (.im (.int 1))) (c := .im (.int ((ps.length : Int) + 1))) el rfl rfl rfl
  obtain ⟨m, p3, hm, hp3, e3⟩ := pick_at k ((ps.length : Int) + 1) (by omega) [.io, inS n, prS ps, .no, .no, .no, .no, .no, .no] rfl (.bin .Add (.blt "len" (.cons (.var 2) .nil)) (.int 1)) p2 hp2 el1
  generalize hfar : w * 1000000000 = far at e2'
  have e123 := e_three (cf := callF tab (k + 1)) (ca := .im (.int (a : Int))) e1 e2' e3
  have hn9 : run (callF tab (k + 1)) (.asg (.nm 6) (.lst (.cons .non (.cons (.bl true) (.cons (.int 0) (.cons (.str "") (.cons (.str "01") (.cons (.tup .nil) (.cons (.blt "tuple" (.cons (.var 2) .nil)) (.cons (.tup (.cons (.var 2) (.cons (.var 2) .nil))) (.cons (.lst (.cons (.var 2) .nil)) .nil))))))))))) ⟨[.io, inS n, prS ps, inS a, inS far, inS m, .no, .no, .no], some p3⟩ = some (.nx (wgS n ps a far m (nines ps) .no .no p3)) := rfl
  have hwr : run (callF tab (k + 1)) (.asg (.nm 7) (.lst (.cons (.tup (.cons (.var 3) (.cons (.var 3) .nil))) (.cons (.tup (.cons (.var 3) (.cons (.bin .Add (.var 1) (.var 4)) .nil))) (.cons (.tup (.cons (.bin .Sub (.neg (.int 1)) (.var 4)) (.cons (.var 3) .nil))) (.cons (.lst (.cons (.int 0) (.cons (.int 1) .nil))) (.cons (.tup (.cons (.var 3) (.cons (.int 0) (.cons (.int 1) .nil)))) (.cons (.tup (.cons (.var 3) .nil)) (.cons (.tup .nil) (.cons .non (.cons (.var 3) (.cons (.str "01") (.cons (.tup (.cons (.var 3) (.cons .non .nil))) (.cons (.tup (.cons (.bl true) (.cons (.int 0) .nil))) (.cons (.tup (.cons (.int 0) (.cons (.bl true) .nil))) .nil))))))))))))))) (wgS n ps a far m (nines ps) .no .no p3) =
      some (.nx (wgS n ps a far m (nines ps) (.c (.ow [.im (prD (a, a)), .im (.tup [.int (a : Int), .int ((n : Int) + (far : Int))]), .im (.tup [.int (-1 - (far : Int)), .int (a : Int)]), .ow [.im (.int 0), .im (.int 1)], .im (.tup [.int (a : Int), .int 0, .int 1]), .im (.tup [.int (a : Int)]), .im (.tup []), .im .non, .im (.int (a : Int)), .im (.str "01"),
        .im (.tup [.int (a : Int), .non]), .im (.tup [.bl true, .int 0]), .im (.tup [.int 0, .bl true])])) .no p3)) := rfl
  -- the two that are put in
  obtain ⟨i1, p4, hi1, hp4, f1⟩ := pick_at k 13 (by omega) (wgS n ps a far m (nines ps) (.c (.im (.lst (wrongs n a far)))) .no p3).ρ rfl (.int 13) p3 hp3 rfl
  obtain ⟨i2, p5, hi2, hp5, f2⟩ := pick_at k 13 (by omega) (wgS n ps a far m (nines ps) (.c (.im (.lst (wrongs n a far)))) .no p4).ρ rfl (.int 13) p4 hp4 rfl
  obtain ⟨w1, hw1, mw1⟩ := mem_at (l := wrongs n a far) (i := i1) (by simp [wrongs]; omega)
  obtain ⟨w2, hw2, mw2⟩ := mem_at (l := wrongs n a far) (i := i2) (by simp [wrongs]; omega)
  have g1 := e_idxO (cf := callF tab (k + 1)) (a := .var 7) (S := wgS n ps a far m (nines ps) (.c (.im (.lst (wrongs n a far)))) .no p3) (ca := .im (.lst (wrongs n a far))) (r := .own (.im w1)) rfl f1 (by show (atI (wrongs n a far) (i1 : Int)).map _ = _; rw [Mi.atI_nat, hw1]; rfl)
  have g2 := e_idxO (cf := callF tab (k + 1)) (a := .var 7) (S := wgS n ps a far m (nines ps) (.c (.im (.lst (wrongs n a far)))) .no p4) (ca := .im (.lst (wrongs n a far))) (r := .own (.im w2)) rfl f2 (by show (atI (wrongs n a far) (i2 : Int)).map _ = _; rw [Mi.atI_nat, hw2]; rfl)
  have g12 : evIB (callF tab (k + 1)) (.ex (.lst (.cons (.idx (.var 7) (.callIo 17 0 (.cons (.int 13) .nil))) (.cons (.idx (.var 7) (.callIo 17 0 (.cons (.int 13) .nil))) .nil)))) (wgS n ps a far m (nines ps) (.c (.im (.lst (wrongs n a far)))) .no p3) = some (false, [w1, w2], wgS n ps a far m (nines ps) (.c (.im (.lst (wrongs n a far)))) .no p5) := by
    rw [x_iex, x_lst, x_mkV_v, e_two g1 g2]
    rfl
  obtain ⟨c1, n1, r1⟩ := wrong_step (callF tab (k + 1)) k' n ps hv hz a far m (by omega) (nines ps) (by simp [nines]) (.c (.im (.lst (wrongs n a far)))) w1 mw1 p5
  obtain ⟨c2, n2, r2⟩ := wrong_step (callF tab (k + 1)) k' n ps hv hz a far m (by omega) (nines ps ++ [c1]) (by simp [nines]) (.c (.im (.lst (wrongs n a far)))) w2 mw2 p5
  have hloop : loopL (.nm 8) (runs (callF tab (k + 1)) l34_1) [w1, w2] (wgS n ps a far m (nines ps) (.c (.im (.lst (wrongs n a far)))) .no p5) = some (.nx (wgS n ps a far m (nines ps ++ [c1] ++ [c2]) (.c (.im (.lst (wrongs n a far)))) (.c (.im w2)) p5)) := by
    unfold loopL
    show (runs (callF tab (k + 1)) l34_1 (wgS n ps a far m (nines ps) (.c (.im (.lst (wrongs n a far)))) (.c (.im w1)) p5)).bind _ = _
    rw [r1, Option.bind_some]
    show loopL _ _ _ _ = _
    unfold loopL
    show (runs (callF tab (k + 1)) l34_1 (wgS n ps a far m (nines ps ++ [c1]) (.c (.im (.lst (wrongs n a far)))) (.c (.im w2)) p5)).bind _ = _
    rw [r2, Option.bind_some]
    rfl
  have nop2 : ∀ c ∈ nines ps ++ [c1] ++ [c2], NoP k' n c.frz := fun c hc => by
    rcases List.mem_append.mp hc with hc | hc
    · rcases List.mem_append.mp hc with hc | hc
      · exact nop_nines k' n ps c hc
      · have : c = c1 := by simpa using hc
        subst this; exact n1
    · have : c = c2 := by simpa using hc
      subst this; exact n2
  -- perhaps one that is too long
  have last : ∃ (F : List Cell) (p6 : List D), (∀ c ∈ F, NoP k' n c.frz) ∧ PoolOk p6 ∧ run (callF tab (k + 1)) (.ife (.and (.cmp .NotEq (.var 2) (.lst .nil)) (.one (.cmp .Eq (.callIo 17 0 (.cons (.int 6) .nil)) (.int 0)))) (.cons (.app1 6 (.slc (.bin .Mult (.var 2) (.bin .Add (.int 1) (.bin .FloorDiv (.int 1601) (.blt "len" (.cons (.var 2) .nil))))) .no (.int 1601)))
    .nil) .nil) (wgS n ps a far m (nines ps ++ [c1] ++ [c2]) (.c (.im (.lst (wrongs n a far)))) (.c (.im w2)) p5) = some (.nx (wgS n ps a far m F (.c (.im (.lst (wrongs n a far)))) (.c (.im w2)) p6)) := by
    have cd : (evB (callF tab (k + 1)) (.cmp .NotEq (.var 2) (.lst .nil))).t (wgS n ps a far m (nines ps ++ [c1] ++ [c2]) (.c (.im (.lst (wrongs n a far)))) (.c (.im w2)) p5) = some (!decide (ps = []), wgS n ps a far m (nines ps ++ [c1] ++ [c2]) (.c (.im (.lst (wrongs n a far)))) (.c (.im w2)) p5) :=
      e_cmpT (a := .var 2) (b := .lst .nil) (ra := .own (.im (.lst (ps.map prD)))) (rb := .own (.ow [])) rfl rfl rfl (ne_nil ps)
    by_cases hnil : ps = []
    · rw [decide_eq_true hnil] at cd
      exact ⟨_, p5, nop2, hp5, r_skip (t_andF cd)⟩
    · rw [decide_eq_false hnil] at cd
      have hpl : 1 ≤ ps.length := by cases ps with | nil => exact absurd rfl hnil | cons _ _ => simp
      obtain ⟨v, p6, hv6, hp6, e6⟩ := pick_at k 6 (by omega) (wgS n ps a far m (nines ps ++ [c1] ++ [c2]) (.c (.im (.lst (wrongs n a far)))) (.c (.im w2)) p5).ρ rfl (.int 6) p5 hp5 rfl
      have c6 : (evB (callF tab (k + 1)) (.cmp .Eq (.callIo 17 0 (.cons (.int 6) .nil)) (.int 0))).t (wgS n ps a far m (nines ps ++ [c1] ++ [c2]) (.c (.im (.lst (wrongs n a far)))) (.c (.im w2)) p5) = some ((v : Int) == 0, wgS n ps a far m (nines ps ++ [c1] ++ [c2]) (.c (.im (.lst (wrongs n a far)))) (.c (.im w2)) p6) := e_cmpT e6 (b := .int 0) rfl rfl rfl
      by_cases hv0 : v = 0
      · have elp := e_len (cf := callF tab (k + 1)) (a := .var 2) (S := wgS n ps a far m (nines ps ++ [c1] ++ [c2]) (.c (.im (.lst (wrongs n a far)))) (.c (.im w2)) p6) (ds := ps.map prD) rfl rfl
        rw [List.length_map] at elp
        have hdv := e_bin (cf := callF tab (k + 1)) (op := .FloorDiv) (a := .int 1601) (ra := .own (.im (.int 1601))) rfl elp rfl (o_fdiv (i := 1601) (j := (ps.length : Int)) ⟨by omega, by omega⟩)
        have hti : (1601 : Int) / (ps.length : Int) = ((1601 / ps.length : Nat) : Int) := by simp
        rw [hti] at hdv
        have hadd := e_bin (cf := callF tab (k + 1)) (op := .Add) (a := .int 1) (ra := .own (.im (.int 1))) (c := .im (.int ((1 + 1601 / ps.length : Nat) : Int))) rfl hdv rfl rfl
        have hdl := Nat.div_le_self 1601 ps.length
        have hml := Nat.mul_div_le 1601 ps.length
        have hlt : 1601 < ps.length * (1601 / ps.length + 1) := by
          have := Nat.lt_mul_div_succ 1601 (show 0 < ps.length by omega)
          exact this
        have hmul : ps.length * (1 + 1601 / ps.length) ≤ 3201 := by rw [Nat.mul_add, Nat.mul_one]; omega
        clear hti hdv
        generalize 1601 / ps.length = t at hadd hdl hml hlt hmul
        have hrep := o_rep (a := .im (.lst (ps.map prD))) (k := ((1 + t : Nat) : Int)) (xs := ps.map prD) rfl ⟨by omega, by omega, by rw [List.length_map, Int.toNat_natCast]; omega⟩
        have hmu := e_bin (cf := callF tab (k + 1)) (op := .Mult) (a := .var 2) (ra := .own (.im (.lst (ps.map prD)))) (S := wgS n ps a far m (nines ps ++ [c1] ++ [c2]) (.c (.im (.lst (wrongs n a far)))) (.c (.im w2)) p6) rfl hadd rfl hrep
        have hto := e_to (hi := .int 1601) (m := 1601) hmu (ims_map _) rfl rfl rfl
        generalize hL : (List.replicate (((1 + t : Nat) : Int)).toNat (ps.map prD)).flatten = L at hto
        have hLl : 1601 ≤ L.length := by
          rw [← hL, Int.toNat_natCast, List.length_flatten, List.map_replicate, List.sum_replicate_nat, List.length_map]
          rw [Nat.mul_comm]
          rw [Nat.add_comm] at hlt
          omega
        have hT : NoP k' n (.lst (L.take 1601)) := list_long k' n _ (by rw [List.length_take]; omega)
        refine ⟨nines ps ++ [c1] ++ [c2] ++ [.ow ((L.take 1601).map .im)], p6, fun c hc => ?_, hp6, ?_⟩
        · rcases List.mem_append.mp hc with hc | hc
          · exact nop2 c hc
          · have : c = .ow ((L.take 1601).map .im) := by simpa using hc
            subst this
            rw [x_frz_ow, x_frzs_map]; exact hT
        · have c6' : (evB (callF tab (k + 1)) (.one (.cmp .Eq (.callIo 17 0 (.cons (.int 6) .nil)) (.int 0)))).t (wgS n ps a far m (nines ps ++ [c1] ++ [c2]) (.c (.im (.lst (wrongs n a far)))) (.c (.im w2)) p5) = some (true, wgS n ps a far m (nines ps ++ [c1] ++ [c2]) (.c (.im (.lst (wrongs n a far)))) (.c (.im w2)) p6) := by rw [x_one, c6, hv0]; rfl
          rw [r_ifeT ((t_andT cd).trans c6')]
          refine r_seq (S1 := wgS n ps a far m (nines ps ++ [c1] ++ [c2] ++ [.ow ((L.take 1601).map .im)]) (.c (.im (.lst (wrongs n a far)))) (.c (.im w2)) p6) ?_ rfl
          rw [r_app1, if_neg (by simp [wgS]), hto]
          show ((if (nines ps ++ [c1] ++ [c2]).length < 16777216 then some (nines ps ++ [c1] ++ [c2] ++ [Cell.ow ((L.take 1601).map .im)]) else none).map fun cs' => wgS n ps a far m cs' (.c (.im (.lst (wrongs n a far)))) (.c (.im w2)) p6).map Out.nx = _
          rw [if_pos (by simp [nines])]
          rfl
      · have c6' : (evB (callF tab (k + 1)) (.one (.cmp .Eq (.callIo 17 0 (.cons (.int 6) .nil)) (.int 0)))).t (wgS n ps a far m (nines ps ++ [c1] ++ [c2]) (.c (.im (.lst (wrongs n a far)))) (.c (.im w2)) p5) = some (false, wgS n ps a far m (nines ps ++ [c1] ++ [c2]) (.c (.im (.lst (wrongs n a far)))) (.c (.im w2)) p6) := by
          rw [x_one, c6]
          have : ((v : Int) == 0) = false := by simp; omega
          rw [this]
        exact ⟨_, p6, nop2, hp6, r_skip ((t_andT cd).trans c6')⟩
  obtain ⟨F, p6, hF, hp6, hlast⟩ := last
  refine ⟨F, p6, call_rt (ρ := [.io, inS n, prS ps, inS a, inS far, inS m, .no, .c (.im (.lst (wrongs n a far))), .c (.im w2)]) rfl rfl rfl rfl ?_, hF, hp6⟩
  unfold f34
  refine r_seq (S1 := ⟨[.io, inS n, prS ps, inS a, inS far, inS m, .no, .no, .no], some p3⟩) ?_ ?_
  · rw [r_par]
    show ((evsB (callF tab (k + 1)) _).v ⟨[.io, inS n, prS ps, .no, .no, .no, .no, .no, .no], some p⟩).bind _ = _
    rw [e123]
    rfl
  · rw [r_frz]
    show runs _ _ ⟨[.io, inS n, prS ps, inS a, inS far, inS m, .no, .no, .no], some p3⟩ = _
    refine r_seq hn9 (r_seq hwr ?_)
    rw [r_frz]
    show runs _ _ (wgS n ps a far m (nines ps) (.c (.im (.lst (wrongs n a far)))) .no p3) = _
    exact r_seq (r_for g12 hloop) (r_seq hlast rfl)
end K04
namespace K04
open L2 Mi
/-! repr of lists of pairs -/
theorem ok_app {a b : PySem.Str} (h1 : PySem.PyData.strOk a = true) (h2 : PySem.PyData.strOk b = true) : PySem.PyData.strOk (a ++ b) = true := by
  unfold PySem.PyData.strOk at *
  show (a.cps ++ b.cps).all _ = true
  rw [Array.all_append, h1, h2]; rfl
theorem ok_of (s : String) : PySem.PyData.strOk (PySem.Str.ofString s) = true := by
  unfold PySem.PyData.strOk
  rw [PySem.Str.ofString_eq_toList]
  simp only [List.all_toArray, List.all_map, List.all_eq_true, Function.comp_apply, decide_eq_true_eq]
  intro c _
  have h := c.valid
  show c.val.toNat < 0x110000
  unfold UInt32.isValidChar Nat.isValidChar at h
  omega
theorem ok_text : ∀ (ts : List PySem.Str) (k : Nat) (acc : PySem.Str), PySem.PyData.strOk acc = true → (∀ t ∈ ts, PySem.PyData.strOk t = true) → PySem.PyData.strOk (PySem.textFrom k acc ts) = true
  | [], k, acc, h, _ => h
  | t :: ts, k, acc, h, ht => ok_text ts (k + 1) _ (ok_app (ok_app h (ok_of _)) (ht t (List.mem_cons_self ..))) fun x hx => ht x (List.mem_cons_of_mem _ hx)
theorem ok_list {ts : List PySem.Str} (h : ∀ t ∈ ts, PySem.PyData.strOk t = true) : PySem.PyData.strOk (PySem.listText ts) = true := by
  unfold PySem.listText
  exact ok_app (ok_text ts 0 _ (ok_of _) h) (ok_of _)
theorem ok_tup2 {x y : PySem.Str} (hx : PySem.PyData.strOk x = true) (hy : PySem.PyData.strOk y = true) : PySem.PyData.strOk (PySem.tupleText [x, y]) = true := by
  unfold PySem.tupleText
  refine ok_app (ok_app (ok_of _) ?_) (ok_of _)
  show PySem.PyData.strOk (x ++ ", " ++ y) = true
  exact ok_app (ok_app hx (ok_of _)) hy
def prPy (q : Nat × Nat) : PySem.PyData := .tuple [.int (q.1 : Int), .int (q.2 : Int)]
theorem pys_prD : ∀ l : List (Nat × Nat), D.pys (l.map prD) = l.map prPy
  | [] => rfl
  | q :: l => by
    show (prD q).py :: D.pys (l.map prD) = _
    rw [pys_prD l]; rfl
theorem small_log {i : Nat} (h : i < 1000) : ((i : Int)).natAbs.log2 < 1920 := by
  rw [Int.natAbs_natCast]
  exact Nat.lt_of_le_of_lt (Nat.log2_le_self i) (by omega)
theorem shows_all : ∀ l : List (Nat × Nat), (∀ q ∈ l, q.1 < 1000 ∧ q.2 < 1000) → PySem.PyData.showableAll (l.map prPy) = true ∧ PySem.PyData.leavesShortAll 13 (l.map prPy) = true ∧ PySem.PyData.weightAll (l.map prPy) ≤ 30 * l.length ∧ ∀ t ∈ PySem.PyData.shownAll (l.map prPy), PySem.PyData.strOk t = true
  | [], _ => ⟨rfl, rfl, Nat.le_refl _, fun _ h => (nomatch h)⟩
  | q :: l, h => by
    obtain ⟨i1, i2, i3, i4⟩ := shows_all l fun x hx => h x (List.mem_cons_of_mem _ hx)
    obtain ⟨a, b⟩ := h q (List.mem_cons_self ..)
    have sh : ∀ i : Nat, i < 1000 → (PySem.PyData.shown (.int (i : Int))).length ≤ 13 := fun i hi => PySem.PyData.shown_int_le (by
      rw [Int.natAbs_natCast]
      exact Nat.lt_of_lt_of_le hi (by decide))
    have wt : ∀ i : Nat, i < 1000 → PySem.PyData.weight (.int (i : Int)) ≤ 11 := fun i hi => by
      unfold PySem.PyData.weight
      split
      · omega
      · rename_i hne
        rw [Int.natAbs_natCast]
        have h0 : i ≠ 0 := fun e => by subst e; simp at hne
        have := (Nat.log2_lt h0 (k := 10)).mpr (by omega)
        omega
    refine ⟨?_, ?_, ?_, fun t ht => ?_⟩
    · show (PySem.PyData.showableAll [.int (q.1 : Int), .int (q.2 : Int)] && PySem.PyData.showableAll (l.map prPy)) = true
      rw [i1]
      show ((decide ((q.1 : Int).natAbs.log2 < 1920) && (decide ((q.2 : Int).natAbs.log2 < 1920) && true)) && true) = true
      rw [decide_eq_true (small_log a), decide_eq_true (small_log b)]; rfl
    · show (PySem.PyData.leavesShortAll 13 [.int (q.1 : Int), .int (q.2 : Int)] && PySem.PyData.leavesShortAll 13 (l.map prPy)) = true
      rw [i2]
      show ((decide ((PySem.PyData.shown (.int (q.1 : Int))).length ≤ 13) && (decide ((PySem.PyData.shown (.int (q.2 : Int))).length ≤ 13) && true)) && true) = true
      rw [decide_eq_true (sh _ a), decide_eq_true (sh _ b)]; rfl
    · have h1 := wt _ a
      have h2 := wt _ b
      show (PySem.PyData.weight (.int (q.1 : Int)) + 1 + (PySem.PyData.weight (.int (q.2 : Int)) + 1 + 0)) + 1 + PySem.PyData.weightAll (l.map prPy) ≤ _
      rw [List.length_cons]
      omega
    · rcases List.mem_cons.mp (show t ∈ PySem.PyData.shown (prPy q) :: PySem.PyData.shownAll (l.map prPy) from ht) with rfl | ht
      · exact ok_tup2 (ok_of _) (ok_of _)
      · exact i4 t ht
theorem repr_ok (l : List (Nat × Nat)) (hz : l.length ≤ 1600) (h : ∀ q ∈ l, q.1 < 1000 ∧ q.2 < 1000) : ∃ T, bltC "repr" [.im (.lst (l.map prD))] = some (.im (.str T)) ∧ scmp .Eq (.str T) (.str T) = some true := by
  obtain ⟨h1, h2, h3, h4⟩ := shows_all l h
  have e : (D.lst (l.map prD)).py = .list (l.map prPy) := by
    show PySem.PyData.list (D.pys (l.map prD)) = _
    rw [pys_prD]
  have s1 : (D.lst (l.map prD)).py.showable = true := by rw [e]; exact h1
  have s2 : (D.lst (l.map prD)).py.shown.length ≤ 16777216 := by
    have := PySem.PyData.shown_fits (B := 13) (by omega) (by omega) (d := .list (l.map prPy)) h2 (by
      have e2 : (2 : Nat) ^ 20 = 1048576 := by decide
      show PySem.PyData.weightAll (l.map prPy) ≤ _
      omega)
    rw [← e] at this
    exact this
  have s3 : PySem.PyData.strOk (D.lst (l.map prD)).py.shown = true := by rw [e]; exact ok_list h4
  have s4 : (D.lst (l.map prD)).shp 60 = true := shps_prD 58 l
  refine ⟨(D.lst (l.map prD)).py.shown, ?_, ?_⟩
  · show (if ((D.lst (l.map prD)).flat == false && (D.lst (l.map prD)).shp 60 && (D.lst (l.map prD)).py.showable && decide ((D.lst (l.map prD)).py.shown.length ≤ 16777216)) = true then some (Cell.im (.str (D.lst (l.map prD)).py.shown)) else none) = _
    rw [s4, s1, decide_eq_true s2]
    rfl
  · generalize (D.lst (l.map prD)).py.shown = T at s3
    show (if (PySem.PyData.strOk T && PySem.PyData.strOk T) = true then some (T == T) else none) = _
    rw [s3]
    simp
end K04
namespace K04
open L2 Mi
/-! sorted lists of pairs -/
instance (q r : Nat × Nat) : Decidable (ltN q r) := by unfold ltN; exact inferInstance
def insN (x : Nat × Nat) : List (Nat × Nat) → List (Nat × Nat)
  | [] => [x]
  | y :: ys => if ltN x y then x :: y :: ys else y :: insN x ys
theorem insN_perm (x : Nat × Nat) : ∀ l, (insN x l).Perm (x :: l)
  | [] => .refl _
  | y :: ys => by
    unfold insN
    split
    · exact .refl _
    · exact ((insN_perm x ys).cons y).trans (.swap x y ys)
theorem ltN_tr {x y z : Nat × Nat} (h1 : ltN x y) (h2 : ltN y z) : ltN x z := by
  rcases h1 with a | a <;> rcases h2 with b | b
  · exact .inl (by omega)
  · exact .inl (by omega)
  · exact .inl (by omega)
  · exact .inr ⟨by omega, by omega⟩
theorem ltN_tri {x y : Nat × Nat} (h : ¬ ltN x y) (e : x ≠ y) : ltN y x := by
  unfold ltN at *
  by_cases h1 : x.1 = y.1
  · refine .inr ⟨h1.symm, ?_⟩
    have : x.2 ≠ y.2 := fun z => e (Prod.ext h1 z)
    omega
  · exact .inl (by omega)
theorem insN_pw {x : Nat × Nat} : ∀ {l}, l.Pairwise ltN → x ∉ l → (insN x l).Pairwise ltN
  | [], _, _ => List.pairwise_singleton _ _
  | y :: ys, h, hx => by
    obtain ⟨h1, h2⟩ := List.pairwise_cons.mp h
    unfold insN
    split
    · rename_i hlt
      refine List.pairwise_cons.mpr ⟨fun z hz => ?_, h⟩
      rcases List.mem_cons.mp hz with rfl | hz
      · exact hlt
      · exact ltN_tr hlt (h1 z hz)
    · rename_i hlt
      refine List.pairwise_cons.mpr ⟨fun z hz => ?_, insN_pw h2 fun z => hx (List.mem_cons_of_mem _ z)⟩
      rcases List.mem_cons.mp ((insN_perm x ys).mem_iff.mp hz) with rfl | hz
      · exact ltN_tri hlt fun e => hx (by rw [e]; exact List.mem_cons_self ..)
      · exact h1 z hz
theorem sorted_ex : ∀ l : List (Nat × Nat), l.Nodup → ∃ m : List (Nat × Nat), m.Perm l ∧ m.Pairwise ltN
  | [], _ => ⟨[], .refl _, .nil⟩
  | x :: l, h => by
    obtain ⟨h1, h2⟩ := List.nodup_cons.mp h
    obtain ⟨m, hm, hp⟩ := sorted_ex l h2
    exact ⟨insN x m, (insN_perm x m).trans (hm.cons x), insN_pw hp fun z => h1 (hm.mem_iff.mp z)⟩
theorem same_bl (k : Nat) (b : Bool) : callF tab (k + 1) 26 [.bl b, .bl b] none = some (.im (.bl true), none) := by
  refine call_rt (ρ := [.c (.im (.bl b)), .c (.im (.bl b)), .no]) rfl rfl rfl rfl ?_
  have i1 : scmp .Is (.bl b) .non = some false := rfl
  have i2 : isiOne (.bl b) "bool" = some true := rfl
  simp [f26, start0, i1, i2]
/-- [x for x in ..] of a slot that holds data -/
theorem copy_io (cf : CF) (nm : PySem.Str) (s i : Nat) (ρ : List Sl) (io : Option (List D)) (hs : s < ρ.length) (him : (ρ.getD s .no).isIm = true) (ds : List D) (hz : ds.length ≤ 10000) (e : ME) (he : e = .var s) (hi : ρ[i]? = some (.c (.im (.lst ds)))) :
    (evB cf (.comp [(nm, s)] e (.nm s) (.ex (.var i)) .nil)).v ⟨ρ, io⟩ = some (.own (.ow (ds.map .im)), ⟨ρ, io⟩) := by
  subst he
  obtain ⟨acc, S', h1, h2, h3, h4, h5⟩ := comp_nx (vs := [s]) (t := .nm s) (cond := (evsB cf .nil).t) (el := (evB cf (.var s)).v) (fun j S acc => acc = (ds.take j).map .im ∧ S.io = io ∧ wipeS S.ρ [s] = wipeS ρ [s] ∧ S.ρ.length = ρ.length) 0 ds ⟨ρ, io⟩ [] 0 ⟨rfl, rfl, rfl, rfl⟩ (by rw [List.length_nil]; omega) (fun j d S acc hd ⟨h1, h2, h3, h4⟩ => by
    refine ⟨_, rfl, true, ⟨(wipeS S.ρ [s]).set s (.c (.im d)), S.io⟩, rfl, ?_⟩
    rw [if_pos rfl]
    have hg : ((wipeS S.ρ [s]).set s (.c (.im d)))[s]? = some (.c (.im d)) := by
      rw [List.getElem?_set_self (by rw [wipeS_len]; omega)]
    refine ⟨.im d, ⟨(wipeS S.ρ [s]).set s (.c (.im d)), S.io⟩, e_var hg, ?_, h2, ?_, ?_⟩
    · subst h1
      rw [Nat.zero_add, List.take_add_one, hd]
      simp
    · rw [← h3]
      simp [wipeS, List.set_set]
    · simp [wipeS_len, h4])
  have him' : (ρ[s]?.getD .no).isIm = true := by rw [← List.getD_eq_getElem?_getD]; exact him
  have src : evIB cf (.ex (.var i)) ⟨ρ, io⟩ = some (false, ds, ⟨ρ, io⟩) := by rw [x_iex, e_var hi]; rfl
  rw [x_comp, x_mkV_v, src, Option.bind_some]
  rw [if_neg (by simp [him'])]
  simp only [List.map_cons, List.map_nil]
  rw [h1]
  rw [Nat.zero_add] at h2
  rw [List.take_length] at h2
  simp only [Option.map_some, back_self h4, h3, h2]
/-! _law_small: its lines -/
def smS (n : Nat) (l : Sl) (x3 x4 x5 x6 x7 x8 : Sl) (p : List D) : Sta := ⟨[.io, inS n, l, x3, x4, x5, x6, x7, x8, .no, .no], some p⟩
theorem sm_row (k n : Nat) (hn : n ≤ 4) (ls : List (Nat × Nat)) (b : Nat) (hb : b < n) (p : List D) (hp : PoolOk p) :
    ∃ (sub : List Nat) (p' : List D), (evB (callF tab (k + 1)) (.comp [("a", 4)] e35_1 (.nm 4) (.rng1 (.var 3)) c35_1)).v (smS n (prS ls) (inS b) .no .no .no .no .no p) = some (.own (.ow (((sub.map fun a => (a, b)).map prD).map .im)), smS n (prS ls) (inS b) .no .no .no .no .no p') ∧ (∀ a ∈ sub, a < b) ∧ sub.Nodup ∧ sub.length ≤ b ∧ PoolOk p' := by
  obtain ⟨acc, S1, c1, y4, sub, p', rfl, rfl, h1, h2, h3, hp'⟩ := comp_nx (vs := [4]) (t := .nm 4) (cond := (evsB (callF tab (k + 1)) c35_1).t) (el := (evB (callF tab (k + 1)) e35_1).v)
    (fun j S acc => ∃ (y4 : Sl) (sub : List Nat) (p' : List D), S = smS n (prS ls) (inS b) y4 .no .no .no .no p' ∧ acc = ((sub.map fun a => (a, b)).map prD).map .im ∧ (∀ a ∈ sub, a < j) ∧ sub.Nodup ∧ sub.length ≤ j ∧ PoolOk p') 0 (rngD 0 (b : Int))
    (smS n (prS ls) (inS b) .no .no .no .no .no p) [] 0 ⟨.no, [], p, rfl, rfl, fun _ h => (nomatch h), .nil, Nat.le_refl _, hp⟩ (by rw [rng_lenN, List.length_nil]; omega) (fun j d S acc hd ⟨y4, sub, p', h1, h2, h3, h4, h5, h6⟩ => by
      subst h1 h2
      obtain ⟨rfl, hj⟩ := rng_get hd
      rw [Nat.zero_add] at h3 h5 ⊢
      obtain ⟨v, p2, hv, hp2, e1⟩ := pick_at k 4 (by omega) (smS n (prS ls) (inS b) (inS j) .no .no .no .no p').ρ rfl (.int 4) p' h6 rfl
      have hc : (evB (callF tab (k + 1)) (.cmp .Gt (.callIo 17 0 (.cons (.int 4) .nil)) (.int 0))).t (smS n (prS ls) (inS b) (inS j) .no .no .no .no p') = some (decide ((0 : Int) < (v : Int)), smS n (prS ls) (inS b) (inS j) .no .no .no .no p2) := e_cmpT e1 (b := .int 0) rfl rfl rfl
      refine ⟨_, rfl, decide ((0 : Int) < (v : Int)), smS n (prS ls) (inS b) (inS j) .no .no .no .no p2, hc, ?_⟩
      by_cases hv0 : (0 : Int) < (v : Int)
      · rw [if_pos (decide_eq_true hv0)]
        refine ⟨.im (prD (j, b)), smS n (prS ls) (inS b) (inS j) .no .no .no .no p2, rfl, _, sub ++ [j], p2, rfl, by simp, fun a ha => ?_, ?_, by rw [List.length_append]; simp; omega, hp2⟩
        · rcases List.mem_append.mp ha with z | z
          · have := h3 a z; omega
          · have : a = j := by simpa using z
            omega
        · rw [List.nodup_append]
          refine ⟨h4, by simp, fun x hx y hy e => ?_⟩
          have : y = j := by simpa using hy
          have := h3 x hx
          omega
      · rw [if_neg (by simpa using hv0)]
        exact ⟨_, sub, p2, rfl, rfl, fun a ha => by have := h3 a ha; omega, h4, by omega, hp2⟩)
  rw [Nat.zero_add, rng_lenN] at h1 h3
  refine ⟨sub, p', ?_, h1, h2, h3, hp'⟩
  rw [x_comp, x_mkV_v, i_rg1 (n := b) (S1 := smS n (prS ls) (inS b) .no .no .no .no .no p) rfl (by omega), Option.bind_some]
  rw [if_neg (by simp [smS, Sl.isIm])]
  simp only [List.map_cons, List.map_nil]
  rw [c1]
  simp [backS, smS]
theorem sm_lines (k n : Nat) (hn : n ≤ 4) (p : List D) (hp : PoolOk p) :
    ∃ S', loopL (.nm 3) (runs (callF tab (k + 1)) l35_1) (rngD 0 (n : Int)) (smS n (prS []) .no .no .no .no .no .no p) = some (.nx S') ∧ ∃ (x3 : Sl) (ls : List (Nat × Nat)) (p' : List D), S' = smS n (prS ls) x3 .no .no .no .no .no p' ∧ (∀ q ∈ ls, q.1 < q.2 ∧ q.2 < n) ∧ ls.Nodup ∧ ls.length ≤ 12 ∧ PoolOk p' := by
  obtain ⟨S', e, x3, ls, p', h1, h2, h3, h4, h5⟩ := loop_nx (t := .nm 3) (b := runs (callF tab (k + 1)) l35_1) (fun i S => ∃ (x3 : Sl) (ls : List (Nat × Nat)) (p' : List D), S = smS n (prS ls) x3 .no .no .no .no .no p' ∧ (∀ q ∈ ls, q.1 < q.2 ∧ q.2 < i) ∧ ls.Nodup ∧ ls.length ≤ 3 * i ∧ PoolOk p') (rngD 0 (n : Int)) (smS n (prS []) .no .no .no .no .no .no p) 0 ⟨.no, [], p, rfl, fun _ h => (nomatch h), .nil, Nat.le_refl _, hp⟩ (fun j d S hd hi => by
    obtain ⟨x3, ls, p', rfl, h2, h3, h4, h5⟩ := hi
    obtain ⟨rfl, hj⟩ := rng_get hd
    rw [Nat.zero_add] at h2 h4 ⊢
    obtain ⟨sub, p2, e1, g1, g2, g3, hp2⟩ := sm_row k n hn ls j hj p' h5
    have hadd := e_cat (a := .var 2) (ca := .im (.lst (ls.map prD))) (S := smS n (prS ls) (inS j) .no .no .no .no .no p') rfl e1 rfl (ims_map _) (by rw [List.length_map, List.length_map, List.length_map]; omega)
    refine ⟨_, rfl, smS n (prS (ls ++ sub.map fun a => (a, j))) (inS j) .no .no .no .no .no p2, .inl ?_, _, _, p2, rfl, fun q hq => ?_, ?_, by rw [List.length_append, List.length_map]; omega, hp2⟩
    · unfold l35_1
      show runs (callF tab (k + 1)) _ (smS n (prS ls) (inS j) .no .no .no .no .no p') = _
      refine r_seq (S1 := smS n (.c (.ow ((ls.map prD ++ (sub.map fun a => (a, j)).map prD).map .im))) (inS j) .no .no .no .no .no p2) (by rw [r_asg, hadd]; rfl) ?_
      rw [r_frz, r_nil, ← List.map_append]
      show some (Out.nx (smS n (.c (.im (.lst (Cell.frzs (((ls ++ sub.map fun a => (a, j)).map prD).map .im))))) (inS j) .no .no .no .no .no p2)) = _
      rw [x_frzs_map]
      rfl
    · rcases List.mem_append.mp hq with z | z
      · have := h2 q z; exact ⟨this.1, by omega⟩
      · obtain ⟨a, ha, rfl⟩ := List.mem_map.mp z
        exact ⟨g1 a ha, by show j < j + 1; omega⟩
    · rw [List.nodup_append]
      refine ⟨h3, ?_, fun x hx y hy e => ?_⟩
      · exact List.pairwise_map.mpr (g2.imp fun h e => h (by simpa using e))
      · obtain ⟨a, _, rfl⟩ := List.mem_map.mp hy
        have := h2 x hx
        rw [e] at this
        simp only at this
        omega)
  rw [Nat.zero_add, rng_lenN] at h2 h4
  exact ⟨S', e, x3, ls, p', h1, h2, h3, by omega, h5⟩
end K04
namespace K04
open L2 Mi
def wsD (W : List (List (Nat × Nat))) : D := .lst (W.map fun l => .lst (l.map prD))
/-- the ways, each with one pair more -/
theorem ext_comp (cf : CF) (n : Nat) (l : Sl) (a b : Nat) (W : List (List (Nat × Nat))) (hW : W.length ≤ 10000000) (hl : ∀ w ∈ W, w.length ≤ 100) (x6 x8 : Sl) (p : List D) (e : ME) (q : Nat × Nat) (he : ∀ x7, (evB cf (.lst (.cons e .nil))).v (smS n l (inS b) (inS a) (.c (.im (wsD W))) x6 x7 x8 p) = some (.own (.ow ([prD q].map .im)), smS n l (inS b) (inS a) (.c (.im (wsD W))) x6 x7 x8 p)) (m : ME) (hm : m = .bin .Add (.var 7) (.lst (.cons e .nil))) :
    (evB cf (.fz (.comp [("way", 7)] m (.nm 7) (.ex (.var 5)) .nil))).v (smS n l (inS b) (inS a) (.c (.im (wsD W))) x6 .no x8 p) = some (.own (.im (wsD (W.map fun w => w ++ [q]))), smS n l (inS b) (inS a) (.c (.im (wsD W))) x6 .no x8 p) := by
  subst hm
  obtain ⟨acc, S1, c1, y7, rfl, h2⟩ := comp_nx (vs := [7]) (t := .nm 7) (cond := (evsB cf .nil).t) (el := (evB cf (.bin .Add (.var 7) (.lst (.cons e .nil)))).v)
    (fun j S acc => ∃ (y7 : Sl), S = smS n l (inS b) (inS a) (.c (.im (wsD W))) x6 y7 x8 p ∧ acc = ((W.take j).map fun w => w ++ [q]).map fun w => Cell.ow ((w.map prD).map .im)) 0 (W.map fun l => D.lst (l.map prD))
    (smS n l (inS b) (inS a) (.c (.im (wsD W))) x6 .no x8 p) [] 0 ⟨.no, rfl, rfl⟩ (by rw [List.length_map, List.length_nil]; omega) (fun j d S acc hd ⟨y7, h1, h2⟩ => by
      subst h1 h2
      rw [List.getElem?_map] at hd
      simp only [Option.map_eq_some_iff] at hd
      obtain ⟨w, hw, rfl⟩ := hd
      have hwl := hl w (List.mem_of_getElem? hw)
      have h1 := e_cat (a := .var 7) (ca := .im (.lst (w.map prD))) (S := smS n l (inS b) (inS a) (.c (.im (wsD W))) x6 (.c (.im (.lst (w.map prD)))) x8 p) rfl (he _) rfl (ims_map _) (by rw [List.length_map]; simp; omega)
      refine ⟨_, rfl, true, smS n l (inS b) (inS a) (.c (.im (wsD W))) x6 (.c (.im (.lst (w.map prD)))) x8 p, rfl, ?_⟩
      rw [if_pos rfl]
      refine ⟨_, _, h1, _, rfl, ?_⟩
      rw [Nat.zero_add, List.take_add_one, hw]
      simp)
  refine (e_fz (S1 := smS n l (inS b) (inS a) (.c (.im (wsD W))) x6 .no x8 p) (c := .ow ((W.map fun w => w ++ [q]).map fun w => Cell.ow ((w.map prD).map .im))) ?_).trans ?_
  · have src : evIB cf (.ex (.var 5)) (smS n l (inS b) (inS a) (.c (.im (wsD W))) x6 .no x8 p) = some (false, W.map fun l => D.lst (l.map prD), smS n l (inS b) (inS a) (.c (.im (wsD W))) x6 .no x8 p) := rfl
    rw [x_comp, x_mkV_v, src, Option.bind_some]
    rw [if_neg (by simp [smS, Sl.isIm])]
    simp only [List.map_cons, List.map_nil]
    rw [c1]
    rw [Nat.zero_add, List.length_map, List.take_length] at h2
    rw [h2]
    simp [backS, smS]
  · rw [x_frz_ow, ls_frz]
    rfl
theorem ws_app (A B : List (List (Nat × Nat))) : D.lst ((A.map fun l => D.lst (l.map prD)) ++ (B.map fun l => D.lst (l.map prD))) = wsD (A ++ B) := by
  unfold wsD; rw [List.map_append]
theorem ws_step (cf : CF) (n : Nat) (ls : List (Nat × Nat)) (q : Nat × Nat) (W : List (List (Nat × Nat))) (hW : W.length ≤ 1000000) (hl : ∀ w ∈ W, w.length ≤ 100) (x6 : Sl) (p : List D) :
    ∃ (W' : List (List (Nat × Nat))) (x6' : Sl), runs cf l35_2 (smS n (prS ls) (inS q.2) (inS q.1) (.c (.im (wsD W))) x6 .no .no p) = some (.nx (smS n (prS ls) (inS q.2) (inS q.1) (.c (.im (wsD W'))) x6' .no .no p)) ∧
      (∀ w ∈ W', w ∈ W ∨ ∃ v ∈ W, w = v ++ [q] ∨ w = v ++ [swp q]) ∧ W'.length ≤ 3 * W.length := by
  have c1 := ext_comp cf n (prS ls) q.1 q.2 W (by omega) hl x6 .no p (.tup (.cons (.var 4) (.cons (.var 3) .nil))) q (fun x7 => rfl) e35_2 rfl
  have c2 := ext_comp cf n (prS ls) q.1 q.2 W (by omega) hl x6 .no p (.tup (.cons (.var 3) (.cons (.var 4) .nil))) (swp q) (fun x7 => rfl) e35_3 rfl
  have hadd := e_cat c1 c2 (xs := (W.map fun w => w ++ [q]).map fun l => .lst (l.map prD)) (ys := (W.map fun w => w ++ [swp q]).map fun l => .lst (l.map prD)) rfl rfl (by rw [List.length_map, List.length_map, List.length_map, List.length_map]; omega)
  let M := (W.map fun w => w ++ [q]) ++ (W.map fun w => w ++ [swp q])
  have hM : M.length = 2 * W.length := by show ((W.map fun w => w ++ [q]) ++ (W.map fun w => w ++ [swp q])).length = _; rw [List.length_append, List.length_map, List.length_map]; omega
  have hMm : ∀ w ∈ M, ∃ v ∈ W, w = v ++ [q] ∨ w = v ++ [swp q] := fun w hw => by
    rcases List.mem_append.mp hw with z | z
    · obtain ⟨v, hv, rfl⟩ := List.mem_map.mp z
      exact ⟨v, hv, .inl rfl⟩
    · obtain ⟨v, hv, rfl⟩ := List.mem_map.mp z
      exact ⟨v, hv, .inr rfl⟩
  have s1 : run cf (.asg (.nm 6) (.bin .Add (.fz (.comp [("way", 7)] e35_2 (.nm 7) (.ex (.var 5)) .nil)) (.fz (.comp [("way", 7)] e35_3 (.nm 7) (.ex (.var 5)) .nil)))) (smS n (prS ls) (inS q.2) (inS q.1) (.c (.im (wsD W))) x6 .no .no p) = some (.nx (smS n (prS ls) (inS q.2) (inS q.1) (.c (.im (wsD W))) (.c (.ow (((W.map fun w => w ++ [q]).map fun l => D.lst (l.map prD)) ++ ((W.map fun w => w ++ [swp q]).map fun l => D.lst (l.map prD)) |>.map .im))) .no .no p)) := by
    rw [r_asg, hadd]; rfl
  have hMW := e_cat (cf := cf) (a := .var 6) (b := .var 5) (ca := .im (wsD M)) (cb := .im (wsD W)) (S := smS n (prS ls) (inS q.2) (inS q.1) (.c (.im (wsD W))) (.c (.im (wsD M))) .no .no p) (S1 := smS n (prS ls) (inS q.2) (inS q.1) (.c (.im (wsD W))) (.c (.im (wsD M))) .no .no p) (S2 := smS n (prS ls) (inS q.2) (inS q.1) (.c (.im (wsD W))) (.c (.im (wsD M))) .no .no p) (xs := M.map fun l => .lst (l.map prD)) (ys := W.map fun l => .lst (l.map prD)) rfl rfl rfl rfl (by rw [List.length_map, List.length_map]; omega)
  have hlst : (evB cf (.lst (.cons (.var 6) (.cons (.bin .Add (.var 6) (.var 5)) .nil)))).v (smS n (prS ls) (inS q.2) (inS q.1) (.c (.im (wsD W))) (.c (.im (wsD M))) .no .no p) = some (.own (.ow [.im (wsD M), .ow (((M.map fun l => D.lst (l.map prD)) ++ (W.map fun l => D.lst (l.map prD))).map .im)]), smS n (prS ls) (inS q.2) (inS q.1) (.c (.im (wsD W))) (.c (.im (wsD M))) .no .no p) := by
    rw [x_lst, x_mkV_v, e_two (ca := .im (wsD M)) rfl hMW]
    rfl
  have el := e_len (cf := cf) (a := .var 2) (S := smS n (prS ls) (inS q.2) (inS q.1) (.c (.im (wsD W))) (.c (.im (wsD M))) .no .no p) (ds := ls.map prD) rfl rfl
  have hint : (evB cf (.blt "int" (.cons (.cmp .Lt (.blt "len" (.cons (.var 2) .nil)) (.int 4)) .nil))).v (smS n (prS ls) (inS q.2) (inS q.1) (.c (.im (wsD W))) (.c (.im (wsD M))) .no .no p) = some (.own (.im (.int (if decide (((ls.map prD).length : Int) < 4) = true then 1 else 0))), smS n (prS ls) (inS q.2) (inS q.1) (.c (.im (wsD W))) (.c (.im (wsD M))) .no .no p) := by
    have hcmp : (evB cf (.cmp .Lt (.blt "len" (.cons (.var 2) .nil)) (.int 4))).v (smS n (prS ls) (inS q.2) (inS q.1) (.c (.im (wsD W))) (.c (.im (wsD M))) .no .no p) = some (.own (.im (.bl (decide (((ls.map prD).length : Int) < 4)))), smS n (prS ls) (inS q.2) (inS q.1) (.c (.im (wsD W))) (.c (.im (wsD M))) .no .no p) := by
      rw [x_cmp, x_mkV_v, el]; rfl
    exact e_blt (e_one hcmp) rfl
  unfold l35_2
  have fin : ∀ (c : Cell) (W' : List (List (Nat × Nat))), c.frz = wsD W' → (evB cf (.idx (.lst (.cons (.var 6) (.cons (.bin .Add (.var 6) (.var 5)) .nil))) (.blt "int" (.cons (.cmp .Lt (.blt "len" (.cons (.var 2) .nil)) (.int 4)) .nil)))).v (smS n (prS ls) (inS q.2) (inS q.1) (.c (.im (wsD W))) (.c (.im (wsD M))) .no .no p) = some (.own c, smS n (prS ls) (inS q.2) (inS q.1) (.c (.im (wsD W))) (.c (.im (wsD M))) .no .no p) →
      runs cf (.cons (.asg (.nm 6) (.bin .Add (.fz (.comp [("way", 7)] e35_2 (.nm 7) (.ex (.var 5)) .nil)) (.fz (.comp [("way", 7)] e35_3 (.nm 7) (.ex (.var 5)) .nil)))) (.frz [6] (.cons (.asg (.nm 5) (.idx (.lst (.cons (.var 6) (.cons (.bin .Add (.var 6) (.var 5)) .nil))) (.blt "int" (.cons (.cmp .Lt (.blt "len" (.cons (.var 2) .nil)) (.int 4)) .nil)))) (.frz [5] .nil)))) (smS n (prS ls) (inS q.2) (inS q.1) (.c (.im (wsD W))) x6 .no .no p) =
        some (.nx (smS n (prS ls) (inS q.2) (inS q.1) (.c (.im (wsD W'))) (.c (.im (wsD M))) .no .no p)) := fun c W' hc e => by
    refine r_seq s1 ?_
    rw [r_frz]
    show runs cf _ (smS n (prS ls) (inS q.2) (inS q.1) (.c (.im (wsD W))) (.c (.im (.lst (Cell.frzs (((((W.map fun w => w ++ [q]).map fun l => D.lst (l.map prD)) ++ ((W.map fun w => w ++ [swp q]).map fun l => D.lst (l.map prD)))).map .im))))) .no .no p) = _
    rw [x_frzs_map, ws_app]
    refine r_seq (S1 := smS n (prS ls) (inS q.2) (inS q.1) (.c c) (.c (.im (wsD M))) .no .no p) (by
      rw [r_asg]
      show ((evB cf (.idx (.lst (.cons (.var 6) (.cons (.bin .Add (.var 6) (.var 5)) .nil))) (.blt "int" (.cons (.cmp .Lt (.blt "len" (.cons (.var 2) .nil)) (.int 4)) .nil)))).v (smS n (prS ls) (inS q.2) (inS q.1) (.c (.im (wsD W))) (.c (.im (wsD M))) .no .no p)).bind _ = _
      rw [e]; rfl) ?_
    rw [r_frz, r_nil]
    show some (Out.nx (smS n (prS ls) (inS q.2) (inS q.1) (.c (.im c.frz)) (.c (.im (wsD M))) .no .no p)) = _
    rw [hc]
  cases hd : decide (((ls.map prD).length : Int) < 4) with
  | false =>
    rw [hd] at hint
    refine ⟨M, .c (.im (wsD M)), fin (.im (wsD M)) M rfl (e_idxO hlst hint rfl), fun w hw => .inr (hMm w hw), by omega⟩
  | true =>
    rw [hd] at hint
    refine ⟨M ++ W, .c (.im (wsD M)), fin _ (M ++ W) ?_ (e_idxO hlst hint rfl), fun w hw => ?_, by rw [List.length_append]; omega⟩
    · rw [x_frz_ow, x_frzs_map, ws_app]
    · rcases List.mem_append.mp hw with z | z
      · exact .inr (hMm w z)
      · exact .inl z
end K04
namespace K04
open L2 Mi
/-- is_order_on and _law_makes of a list of pairs -/
theorem both_ok (k n : Nat) (h1 : 1 ≤ n) (h2 : n ≤ 40) (ls as qs : List (Nat × Nat)) (hl : Lns n ls) (ha : Ask n ls as) (hal : as.length ≤ 1600) (hq : Vd n qs) :
    callF tab (k + 7) 14 [.int (n : Int), .lst (as.map prD), .lst (qs.map prD)] none = some (.im (.bl (mkO n ls qs)), none) ∧ callF tab (k + 7) 31 [.int (n : Int), .lst (ls.map prD), .lst (qs.map prD)] none = some (.im (.bl (mkO n ls qs)), none) := by
  have hlt : ∀ q ∈ qs, q.1 < n ∧ q.2 < n := fun q z => ⟨(hq q z).1, (hq q z).2.1⟩
  refine ⟨?_, makes_ok (k + 4) n (by omega) ls qs hlt⟩
  rw [← agree hl ha hlt]
  exact is_order_ok k n h1 h2 as hal ha.ok qs hq
theorem small_turn (k n : Nat) (h1 : 1 ≤ n) (h2 : n ≤ 40) (ls as w : List (Nat × Nat)) (hl : Lns n ls) (ha : Ask n ls as) (hal : as.length ≤ 1600) (hw : Vd n w) (hwl : w.length ≤ 1000) (x3 x4 x5 x6 : Sl) (p : List D) :
    runs (callF tab (k + 7)) l35_3 (smS n (prS ls) x3 x4 x5 x6 (prS w) (prS as) p) = some (.nx (smS n (prS ls) x3 x4 x5 x6 (prS w) (prS as) p)) := by
  obtain ⟨e1, e2⟩ := both_ok k n h1 h2 ls as w hl ha hal hw
  have c1 := copy_io (callF tab (k + 7)) "line" 9 8 (smS n (prS ls) x3 x4 x5 x6 (prS w) (prS as) p).ρ (some p) (by simp [smS]) rfl (as.map prD) (by rw [List.length_map]; omega) e35_5 rfl rfl
  have c2 := copy_io (callF tab (k + 7)) "pair" 10 7 (smS n (prS ls) x3 x4 x5 x6 (prS w) (prS as) p).ρ (some p) (by simp [smS]) rfl (w.map prD) (by rw [List.length_map]; omega) e35_4 rfl rfl
  have a3 := e_three (cf := callF tab (k + 7)) (a := .var 1) (ca := .im (.int (n : Int))) (S := smS n (prS ls) x3 x4 x5 x6 (prS w) (prS as) p) rfl c1 c2
  have s14 := e_call (cf := callF tab (k + 7)) (f := 14) (c := .im (.bl (mkO n ls w))) (u := none) a3 (cs := [.im (.int (n : Int)), .ow ((as.map prD).map .im), .ow ((w.map prD).map .im)]) rfl (by
    show callF tab (k + 7) 14 [.int (n : Int), .lst (Cell.frzs ((as.map prD).map .im)), .lst (Cell.frzs ((w.map prD).map .im))] none = _
    rw [x_frzs_map, x_frzs_map]
    exact e1)
  have s31 := e_call (cf := callF tab (k + 7)) (f := 31) (es := .cons (.var 1) (.cons (.var 2) (.cons (.var 7) .nil))) (S := smS n (prS ls) x3 x4 x5 x6 (prS w) (prS as) p) (S2 := smS n (prS ls) x3 x4 x5 x6 (prS w) (prS as) p) (rs := [.own (.im (.int (n : Int))), .own (.im (.lst (ls.map prD))), .own (.im (.lst (w.map prD)))]) rfl rfl e2
  have s26 := e_call (cf := callF tab (k + 7)) (f := 26) (c := .im (.bl true)) (u := none) (e_two s14 s31) (cs := [.im (.bl (mkO n ls w)), .im (.bl (mkO n ls w))]) rfl (same_bl (k + 6) _)
  unfold l35_3
  exact r_seq (r_skip (t_not (t_of_v s26))) rfl
theorem hsrt' (l m : List (Nat × Nat)) (h : bltC "sorted" [.ow ((l.map prD).map .im)] = some (.ow ((m.map prD).map .im))) : bltC "sorted" [.im (.lst (l.map prD))] = some (.ow ((m.map prD).map .im)) := by
  have e : (Cell.ow ((l.map prD).map .im)).els = (Cell.im (.lst (l.map prD))).els := ims_map _
  rw [← h]
  have hn : ¬ (PySem.Str.ofString "sorted" = PySem.Str.ofString "list") := by decide
  unfold bltC
  simp only [e, if_neg hn]
  rfl
/-- _law_small -/
theorem small_ok (k : Nat) (p : List D) (hp : PoolOk p) : ∃ p', callF tab (k + 8) 35 [] (some p) = some (.im (.bl true), some p') ∧ PoolOk p' := by
  obtain ⟨v, p1, hv, hp1, e1⟩ := pick_at (k + 6) 4 (by omega) [.io, .no, .no, .no, .no, .no, .no, .no, .no, .no, .no] rfl (.int 4) p hp rfl
  have e1' := e_bin (cf := callF tab (k + 7)) (op := .Add) (a := .int 1) (ra := .own (.im (.int 1))) (c := .im (.int ((1 + v : Nat) : Int))) rfl e1 rfl rfl
  have hn4 : 1 + v ≤ 4 := by omega
  obtain ⟨S2, e2, x3, ls0, p2, rfl, g1, g2, g3, hp2⟩ := sm_lines (k + 6) (1 + v) hn4 p1 hp1
  obtain ⟨ls, hperm, hpw⟩ := sorted_ex ls0 g2
  have hsrt := b_sorted hperm hpw
  have hlen : ls.length ≤ 12 := by rw [hperm.length_eq]; exact g3
  have hl : Lns (1 + v) ls := ⟨hpw, fun q hq => g1 q (hperm.mem_iff.mp hq)⟩
  obtain ⟨S3, e3, y3, y4, y6, W, rfl, hW, hWl⟩ := loop_nx (t := .tp (.cons (.nm 4) (.cons (.nm 3) .nil))) (b := runs (callF tab (k + 7)) l35_2) (fun i S => ∃ (x3 x4 x6 : Sl) (W : List (List (Nat × Nat))), S = smS (1 + v) (prS ls) x3 x4 (.c (.im (wsD W))) x6 .no .no p2 ∧ (∀ w ∈ W, Vd (1 + v) w ∧ w.length ≤ i) ∧ W.length ≤ 3 ^ i) (ls.map prD) (smS (1 + v) (prS ls) x3 .no (.c (.im (wsD [[]]))) .no .no .no p2) 0 ⟨x3, .no, .no, [[]], rfl, fun w hw => by
      have : w = [] := by simpa using hw
      subst this
      exact ⟨fun _ h => (nomatch h), Nat.le_refl _⟩, by simp⟩ (fun j d S hd hi => by
    obtain ⟨x3, x4, x6, W, rfl, h1, h2⟩ := hi
    rw [List.getElem?_map] at hd
    simp only [Option.map_eq_some_iff] at hd
    obtain ⟨q, hq, rfl⟩ := hd
    have hj := (List.getElem?_eq_some_iff.mp hq).1
    have hqv := hl.ok q (List.mem_of_getElem? hq)
    rw [Nat.zero_add] at h1 h2 ⊢
    have h3 : 3 ^ j ≤ 3 ^ 12 := Nat.pow_le_pow_right (by omega) (by omega)
    have h312 : (3 : Nat) ^ 12 = 531441 := by decide
    obtain ⟨W', x6', e, k1, k2⟩ := ws_step (callF tab (k + 7)) (1 + v) ls q W (by omega) (fun w hw => by have := (h1 w hw).2; omega) x6 p2
    refine ⟨_, rfl, _, .inl e, _, _, x6', W', rfl, fun w hw => ?_, by rw [Nat.pow_succ]; omega⟩
    rcases k1 w hw with z | ⟨u, hu, z | z⟩
    · exact ⟨(h1 w z).1, by have := (h1 w z).2; omega⟩
    · subst z
      refine ⟨(h1 u hu).1.app fun r hr => ?_, by rw [List.length_append]; have := (h1 u hu).2; simp; omega⟩
      have : r = q := by simpa using hr
      subst this
      exact ⟨by omega, hqv.2, by omega⟩
    · subst z
      refine ⟨(h1 u hu).1.app fun r hr => ?_, by rw [List.length_append]; have := (h1 u hu).2; simp; omega⟩
      have : r = swp q := by simpa using hr
      subst this
      exact ⟨hqv.2, by show q.1 < 1 + v; omega, by show q.2 ≠ q.1; omega⟩)
  rw [Nat.zero_add, List.length_map] at hW hWl
  obtain ⟨as, p3, e4, ha, hal, hp3⟩ := ways_ok (k + 3) (1 + v) ls hl (by omega) p2 hp2
  obtain ⟨S5, e5, z7, rfl⟩ := loop_nx (t := .nm 7) (b := runs (callF tab (k + 7)) l35_3) (fun i S => ∃ z7, S = smS (1 + v) (prS ls) y3 y4 (.c (.im (wsD W))) y6 z7 (prS as) p3) (W.map fun l => D.lst (l.map prD)) (smS (1 + v) (prS ls) y3 y4 (.c (.im (wsD W))) y6 .no (prS as) p3) 0 ⟨.no, rfl⟩ (fun j d S hd hi => by
    obtain ⟨z7, rfl⟩ := hi
    rw [List.getElem?_map] at hd
    simp only [Option.map_eq_some_iff] at hd
    obtain ⟨w, hw, rfl⟩ := hd
    obtain ⟨w1, w2⟩ := hW w (List.mem_of_getElem? hw)
    exact ⟨_, rfl, _, .inl (small_turn k (1 + v) (by omega) (by omega) ls as w hl ha (by omega) w1 (by omega) y3 y4 _ y6 p3), _, rfl⟩)
  refine ⟨p3, call_rt (ρ := (smS (1 + v) (prS ls) y3 y4 (.c (.im (wsD W))) y6 z7 (prS as) p3).ρ) rfl rfl rfl rfl ?_, hp3⟩
  unfold f35
  refine r_seq (S1 := smS (1 + v) (.c (.ow [])) .no .no .no .no .no .no p1) ?_ ?_
  · rw [r_par]
    show ((evsB (callF tab (k + 7)) (.cons (.bin .Add (.int 1) (.callIo 17 0 (.cons (.int 4) .nil))) (.cons (.lst .nil) .nil))).v ⟨[.io, .no, .no, .no, .no, .no, .no, .no, .no, .no, .no], some p⟩).bind _ = _
    rw [e_two (b := .lst .nil) (rb := .own (.ow [])) e1' rfl]
    rfl
  · rw [r_frz]
    show runs _ _ (smS (1 + v) (prS []) .no .no .no .no .no .no p1) = _
    refine r_seq (r_for (i_rg1 (n := 1 + v) rfl (by omega)) e2) ?_
    have bs : (evB (callF tab (k + 7)) (.blt "sorted" (.cons (.var 2) .nil))).v (smS (1 + v) (prS ls0) x3 .no .no .no .no .no p2) = some (.own (.ow ((ls.map prD).map .im)), smS (1 + v) (prS ls0) x3 .no .no .no .no .no p2) := by
      refine e_blt (rs := [.own (.im (.lst (ls0.map prD)))]) rfl ?_
      exact hsrt' ls0 ls hsrt
    refine r_seq (S1 := smS (1 + v) (.c (.ow ((ls.map prD).map .im))) x3 .no (.c (.ow [.ow []])) .no .no .no p2) (by
      rw [r_par, e_two (b := .lst (.cons (.lst .nil) .nil)) (rb := .own (.ow [.ow []])) bs rfl]
      rfl) ?_
    rw [r_frz]
    show runs _ _ (smS (1 + v) (.c (.im (.lst (Cell.frzs ((ls.map prD).map .im))))) x3 .no (.c (.im (wsD [[]]))) .no .no .no p2) = _
    rw [x_frzs_map]
    refine r_seq (r_for (S1 := smS (1 + v) (prS ls) x3 .no (.c (.im (wsD [[]]))) .no .no .no p2) rfl e3) ?_
    have s4 := e_callIo (cf := callF tab (k + 7)) (f := 32) (i := 0) (es := .cons (.var 2) .nil) (S := smS (1 + v) (prS ls) y3 y4 (.c (.im (wsD W))) y6 .no .no p2) (S2 := smS (1 + v) (prS ls) y3 y4 (.c (.im (wsD W))) y6 .no .no p2) (rs := [.own (.im (.lst (ls.map prD)))]) (cs := [.im (.lst (ls.map prD))]) (u := p2) rfl rfl rfl rfl rfl rfl e4
    refine r_seq (S1 := smS (1 + v) (prS ls) y3 y4 (.c (.im (wsD W))) y6 .no (.c (.ow ((as.map prD).map .im))) p3) (by rw [r_asg, s4]; rfl) ?_
    rw [r_frz]
    show runs _ _ (smS (1 + v) (prS ls) y3 y4 (.c (.im (wsD W))) y6 .no (.c (.im (.lst (Cell.frzs ((as.map prD).map .im))))) p3) = _
    rw [x_frzs_map]
    exact r_seq (r_for (S1 := smS (1 + v) (prS ls) y3 y4 (.c (.im (wsD W))) y6 .no (prS as) p3) rfl e5) rfl
end K04
namespace K04
open L2 Mi
/-! the plain law -/
theorem pt_ne {n : Nat} {ps : List (Nat × Nat)} (g : Good n ps) {a b : Nat} (h : Pt ps a b) : a ≠ b := fun e => by
  obtain ⟨r, hr⟩ := g.rk
  have := h.rank hr
  rw [e] at this
  exact Nat.lt_irrefl _ this
theorem tab_clo {n : Nat} (hn : n ≤ 1000) {ps : List (Nat × Nat)} (g : Good n ps) : tabM n (clo n ps) = tabM n ps := by
  have s1 := (rows_ok 0 n hn (clo n ps) (good_clo g).lt).2
  have s2 := (rows_ok 0 n hn ps g.lt).2
  refine sq_ext s1 s2 fun a b ha hb => ?_
  have e := ((tab_pt (good_clo g).lt ha hb).trans (pt_clo g a b)).trans (tab_pt g.lt ha hb).symm
  cases h1 : bitM (tabM n (clo n ps)) a b <;> cases h2 : bitM (tabM n ps) a b <;> simp_all
theorem diag_no {n : Nat} {ps : List (Nat × Nat)} (g : Good n ps) : diag n (tabM n ps) = false := by
  unfold diag
  rw [List.any_eq_false]
  intro a ha h
  exact pt_ne g ((tab_pt g.lt (List.mem_range.mp ha) (List.mem_range.mp ha)).mp h) rfl
theorem lns_len {n : Nat} {ls : List (Nat × Nat)} (h : Lns n ls) : 2 * ls.length ≤ n * n := by
  have hd : ls.Nodup := ltN_nodup h.pw
  have hd2 : (ls.map swp).Nodup := List.pairwise_map.mpr (hd.imp fun hne e => hne (swp_inj e))
  have hall : (ls ++ ls.map swp).Nodup := List.nodup_append.mpr ⟨hd, hd2, fun q hq r hr e => by
    subst e
    have h1 := h.ok q hq
    obtain ⟨s, hs, rfl⟩ := List.mem_map.mp hr
    have h2 := h.ok s hs
    unfold swp at h1
    simp only at h1
    omega⟩
  have hlt : ∀ q ∈ ls ++ ls.map swp, q.1 < n ∧ q.2 < n := fun q hq => by
    rcases List.mem_append.mp hq with z | z
    · have := h.ok q z; omega
    · obtain ⟨s, hs, rfl⟩ := List.mem_map.mp z
      have := h.ok s hs
      unfold swp
      simp only
      omega
  have hn := nodup_le (n * n) ((ls ++ ls.map swp).map fun q => q.1 * n + q.2) (List.pairwise_map.mpr (hall.imp_of_mem fun {q r} hq hr hne e => hne (by
    have h1 := hlt q hq
    have h2 := hlt r hr
    have e1 : (n * q.1 + q.2) / n = (n * r.1 + r.2) / n := by rw [Nat.mul_comm n q.1, Nat.mul_comm n r.1]; exact congrArg (· / n) e
    have e2 : (n * q.1 + q.2) % n = (n * r.1 + r.2) % n := by rw [Nat.mul_comm n q.1, Nat.mul_comm n r.1]; exact congrArg (· % n) e
    rw [Nat.mul_add_div (by omega), Nat.mul_add_div (by omega), Nat.div_eq_of_lt h1.2, Nat.div_eq_of_lt h2.2] at e1
    rw [Nat.mul_add_mod, Nat.mul_add_mod, Nat.mod_eq_of_lt h1.2, Nat.mod_eq_of_lt h2.2] at e2
    exact Prod.ext (by omega) e2))) (fun b hb => by
    obtain ⟨q, hq, rfl⟩ := List.mem_map.mp hb
    have h1 := hlt q hq
    have : q.1 * n + n ≤ n * n := by
      have := Nat.mul_le_mul_right n (show q.1 + 1 ≤ n by omega)
      rw [Nat.add_mul, Nat.one_mul] at this
      exact this
    omega)
  rw [List.length_map, List.length_append, List.length_map] at hn
  omega
theorem ask_self {n : Nat} {ls : List (Nat × Nat)} (h : Lns n ls) : Ask n ls ls := ⟨fun q hq => by have := h.ok q hq; omega, fun _ _ => Iff.rfl⟩
theorem ord_due {n : Nat} (hn : n ≤ 40) {ps : List (Nat × Nat)} (g : Good n ps) : isOrd n (lins n ps) (clo n ps) = true := by
  have hl : Lns n (lins n ps) := lns_upL n _
  rw [agree hl (ask_self hl) (good_clo g).lt]
  unfold mkO
  have hc := clo_len n ps
  have : n * n ≤ 40 * 40 := Nat.mul_le_mul hn hn
  rw [decide_eq_true (by omega), tab_clo (by omega) g, diag_no g, decide_eq_true (show lins n (clo n ps) = lins n ps by unfold lins; rw [tab_clo (by omega) g])]
  rfl
/-- the lines with one put in or left out -/
def othL (n : Nat) (ls : List (Nat × Nat)) : List (Nat × Nat) := (ls.filter fun q => !decide (q = (0, n - 1))) ++ if (0, n - 1) ∈ ls then [] else [(0, n - 1)]
theorem mem_oth {n : Nat} {ls : List (Nat × Nat)} {q : Nat × Nat} (h : q ∈ othL n ls) : q ∈ ls ∨ q = (0, n - 1) := by
  unfold othL at h
  rcases List.mem_append.mp h with z | z
  · exact .inl (List.mem_filter.mp z).1
  · split at z
    · exact absurd z (by simp)
    · exact .inr (by simpa using z)
theorem oth_flip {n : Nat} {ls : List (Nat × Nat)} : (0, n - 1) ∈ othL n ls ↔ (0, n - 1) ∉ ls := by
  unfold othL
  by_cases h : (0, n - 1) ∈ ls <;> simp [h]
theorem oth_len {n : Nat} {ls : List (Nat × Nat)} : (othL n ls).length ≤ ls.length + 1 := by
  unfold othL
  rw [List.length_append]
  have := List.length_filter_le (fun q => !decide (q = (0, n - 1))) ls
  split <;> simp <;> omega
theorem vd_oth {n : Nat} (hn : 2 ≤ n) {ls : List (Nat × Nat)} (h : Lns n ls) : Vd n (othL n ls) := fun q hq => by
  rcases mem_oth hq with z | z
  · have := h.ok q z; omega
  · subst z
    exact ⟨by show 0 < n; omega, by show n - 1 < n; omega, by show 0 ≠ n - 1; omega⟩
theorem ord_oth {n : Nat} (hn : 2 ≤ n) (hn2 : n ≤ 40) {ps : List (Nat × Nat)} (g : Good n ps) : isOrd n (othL n (lins n ps)) (clo n ps) = false := by
  have hl : Lns n (lins n ps) := lns_upL n _
  unfold isOrd
  rw [tab_clo (by omega) g, diag_no g]
  rw [decide_eq_false (p := grM n (tabM n ps) = lnM n (othL n (lins n ps))) fun e => ?_]
  · simp
  · have h1 := mem_upL (n := n) (M := grM n (tabM n ps)) (a := 0) (b := n - 1)
    have h2 := (lnM_ok (n := n) (ls := othL n (lins n ps)) fun q hq => ⟨(vd_oth hn hl q hq).1, (vd_oth hn hl q hq).2.1⟩).2 0 (n - 1)
    rw [← e] at h2
    have h3 : (0, n - 1) ∈ lins n ps ↔ bitM (grM n (tabM n ps)) 0 (n - 1) = true := ⟨fun z => (h1.mp z).2.2, fun z => h1.mpr ⟨by omega, by omega, z⟩⟩
    have h4 : ¬ (n - 1, 0) ∈ othL n (lins n ps) := fun z => by
      rcases mem_oth z with z | z
      · have := hl.ok _ z; simp only at this; omega
      · simp only [Prod.mk.injEq] at z; omega
    rw [oth_flip] at h2
    have h5 := h3.trans h2
    by_cases h6 : (0, n - 1) ∈ lins n ps
    · rcases h5.mp h6 with z | z
      · exact z h6
      · exact h4 z
    · exact h6 (h5.mpr (.inl h6))
end K04
namespace K04
open L2 Mi
def lw (ns : List Int) (p : List D) (x2 x3 x4 x5 x7 x8 x9 x10 x11 x12 x13 x14 : Sl) : Sta := ⟨[.c (.im (.scr ns)), .c (.ow (p.map .im)), x2, x3, x4, x5, .no, x7, x8, x9, x10, x11, x12, x13, x14, .no], none⟩
/-- all the orders are drawn -/
def st (ns : List Int) (n : Nat) (ps : List (Nat × Nat)) (p : List D) (x5 x9 x10 x11 x12 x13 x14 : Sl) : Sta := lw ns p (inS n) (prS ps) (.c (.im (matB (tabM n ps)))) x5 (prS (clo n ps)) (prS (lins n ps)) x9 x10 x11 x12 x13 x14
theorem law_great (k : Nat) (ns : List Int) (n : Nat) (ps : List (Nat × Nat)) (g : Good n ps) (hn1 : 1 ≤ n) (hn2 : n ≤ 40) (hz : ps.length ≤ 1600) (p : List D) (hp : PoolOk p) :
    ∃ (n' : Nat) (ps' : List (Nat × Nat)) (p' : List D), Good n' ps' ∧ 1 ≤ n' ∧ n' ≤ 40 ∧ ps'.length ≤ 1600 ∧ PoolOk p' ∧ run (callF tab (k + 7)) (.ife (.cmp .Eq (.callIo 17 1 (.cons (.int 60) .nil)) (.int 0)) (.cons (.asg (.tp (.cons (.nm 2) (.cons (.nm 3) .nil))) (.callIo 30 1 .nil))
    .nil) .nil) (lw ns p (inS n) (prS ps) .no .no .no .no .no .no .no .no .no .no) = some (.nx (lw ns p' (inS n') (prS ps') .no .no .no .no .no .no .no .no .no .no)) := by
  obtain ⟨v, p1, e1, h0, h1, hp1, _⟩ := pick (k + 6) 60 (by omega) p hp
  have s1 := e_callPl (cf := callF tab (k + 7)) (f := 17) (i := 1) (es := .cons (.int 60) .nil) (S := lw ns p (inS n) (prS ps) .no .no .no .no .no .no .no .no .no .no) (S2 := lw ns p (inS n) (prS ps) .no .no .no .no .no .no .no .no .no .no) (u0 := p) (u := p) (rl := [.own (.im (.int 60))]) (cs := [.im (.int 60)]) rfl rfl rfl rfl e1
  have hc : (evB (callF tab (k + 7)) (.cmp .Eq (.callIo 17 1 (.cons (.int 60) .nil)) (.int 0))).t (lw ns p (inS n) (prS ps) .no .no .no .no .no .no .no .no .no .no) = some (v == 0, lw ns p1 (inS n) (prS ps) .no .no .no .no .no .no .no .no .no .no) := e_cmpT s1 (b := .int 0) rfl rfl rfl
  by_cases hv : v = 0
  · obtain ⟨ps', p2, e2, g2, hz2, hp2⟩ := great_ok (k + 3) p1 hp1
    refine ⟨40, ps', p2, g2, by omega, by omega, hz2, hp2, ?_⟩
    have s2 := e_callPl (cf := callF tab (k + 7)) (f := 30) (i := 1) (es := .nil) (S := lw ns p1 (inS n) (prS ps) .no .no .no .no .no .no .no .no .no .no) (S2 := lw ns p1 (inS n) (prS ps) .no .no .no .no .no .no .no .no .no .no) (u0 := p1) (u := p1) (rl := []) (cs := []) rfl rfl rfl rfl e2
    rw [r_ife, hc, Option.bind_some, if_pos (by simp [hv])]
    refine r_seq (S1 := lw ns p2 (inS 40) (prS ps') .no .no .no .no .no .no .no .no .no .no) ?_ rfl
    rw [r_asgT, s2]
    rfl
  · refine ⟨n, ps, p1, g, hn1, hn2, hz, hp1, ?_⟩
    rw [r_ife, hc, Option.bind_some, if_neg (by simp [hv])]
    rfl
/-- [pair for pair in ..] -/
theorem cp (cf : CF) (ns : List Int) (p : List D) (x2 x3 x4 x5 x7 x8 x9 x10 x11 x12 x13 x14 : Sl) (i : Nat) (ps : List (Nat × Nat)) (hz : ps.length ≤ 10000) (e : ME) (he : e = .var 6) (hi : (lw ns p x2 x3 x4 x5 x7 x8 x9 x10 x11 x12 x13 x14).ρ[i]? = some (prS ps)) :
    (evB cf (.comp [("pair", 6)] e (.nm 6) (.ex (.var i)) .nil)).v (lw ns p x2 x3 x4 x5 x7 x8 x9 x10 x11 x12 x13 x14) = some (.own (.ow ((ps.map prD).map .im)), lw ns p x2 x3 x4 x5 x7 x8 x9 x10 x11 x12 x13 x14) :=
  copy_io cf "pair" 6 i (lw ns p x2 x3 x4 x5 x7 x8 x9 x10 x11 x12 x13 x14).ρ none (by simp [lw]) rfl (ps.map prD) (by rw [List.length_map]; exact hz) e he hi
/-- graph_of, twice -/
theorem turn_step (k : Nat) (ns : List Int) (n : Nat) (ps : List (Nat × Nat)) (g : Good n ps) (hn1 : 1 ≤ n) (hn2 : n ≤ 40) (hz : ps.length ≤ 1600) (p : List D) (j : Nat) (x10 : Sl) :
    ∃ y10, runs (callF tab (k + 7)) l36_1 (st ns n ps p (prS ps) (inS j) x10 .no .no .no .no) = some (.nx (st ns n ps p (prS ps) (inS j) y10 .no .no .no .no)) := by
  have hll := lns_len (lns_upL n (grM n (tabM n ps)))
  have hnn : n * n ≤ 40 * 40 := Nat.mul_le_mul hn2 hn2
  have hlen : (lins n ps).length ≤ 1600 := by show (upL (grM n (tabM n ps)) n).length ≤ 1600; omega
  have eg := graph_of_ok k n hn1 hn2 ps hz g
  have es := same_pairs (k + 4) (lins n ps) (by omega)
  have es2 := same_pairs (k + 4) ps (by omega)
  refine ⟨.c (.ow (((lins n ps).map prD).map .im ++ [.im (.tup [.int 0, .int (j : Int)])])), ?_⟩
  unfold l36_1
  have s1 := e_call (cf := callF tab (k + 7)) (f := 13) (es := .cons (.var 2) (.cons (.var 5) .nil)) (S := st ns n ps p (prS ps) (inS j) x10 .no .no .no .no) (S2 := st ns n ps p (prS ps) (inS j) x10 .no .no .no .no) (rs := [.own (.im (.int (n : Int))), .own (.im (.lst (ps.map prD)))]) rfl rfl eg
  refine r_seq (S1 := st ns n ps p (prS ps) (inS j) (owS (lins n ps)) .no .no .no .no) (by rw [r_asg, s1]; rfl) ?_
  have q1 : (evB (callF tab (k + 7)) (.call 26 (.cons (.var 10) (.cons (.var 8) .nil)))).v (st ns n ps p (prS ps) (inS j) (owS (lins n ps)) .no .no .no .no) = some (.own (.im (.bl true)), st ns n ps p (prS ps) (inS j) (owS (lins n ps)) .no .no .no .no) := by
    refine e_callB (rs := [.bor (.ow (((lins n ps).map prD).map .im)), .own (.im (.lst ((lins n ps).map prD)))]) rfl rfl (u := none) ?_ rfl
    show callF tab (k + 7) 26 [.lst (Cell.frzs (((lins n ps).map prD).map .im)), .lst ((lins n ps).map prD)] none = _
    rw [x_frzs_map]
    exact es
  have q2 := e_call (cf := callF tab (k + 7)) (f := 26) (es := .cons (.var 5) (.cons (.var 3) .nil)) (S := st ns n ps p (prS ps) (inS j) (owS (lins n ps)) .no .no .no .no) (S2 := st ns n ps p (prS ps) (inS j) (owS (lins n ps)) .no .no .no .no) (rs := [.own (.im (.lst (ps.map prD))), .own (.im (.lst (ps.map prD)))]) rfl rfl es2
  refine r_seq (r_skip ((t_orF (t_not (t_of_v q1))).trans (t_not (t_of_v q2)))) ?_
  refine r_seq ?_ rfl
  rw [r_app1]
  show ((if (((lins n ps).map prD).map Cell.im).length < 16777216 then some ((((lins n ps).map prD).map Cell.im) ++ [Cell.im (.tup [.int 0, .int (j : Int)])]) else none).map fun cs' => st ns n ps p (prS ps) (inS j) (.c (.ow cs')) .no .no .no .no).map Out.nx = _
  rw [if_pos (by rw [List.length_map, List.length_map]; omega)]
  rfl
/-- a list of pairs -/
theorem val_step (k : Nat) (ns : List Int) (n : Nat) (ps : List (Nat × Nat)) (hn1 : 1 ≤ n) (hn2 : n ≤ 40) (p : List D) (as w : List (Nat × Nat)) (ha : Ask n (lins n ps) as) (hal : as.length ≤ 1600) (hw : Vd n w) (hwl : w.length ≤ 1601) (x5 x9 x10 x12 : Sl) :
    runs (callF tab (k + 7)) l36_2 (st ns n ps p x5 x9 x10 (prS as) x12 (prS w) .no) = some (.nx (st ns n ps p (prS w) x9 x10 (prS as) x12 (prS w) .no)) := by
  obtain ⟨e1, e2⟩ := both_ok k n hn1 hn2 (lins n ps) as w (lns_upL n _) ha hal hw
  have c1 := cp (callF tab (k + 7)) ns p (inS n) (prS ps) (.c (.im (matB (tabM n ps)))) x5 (prS (clo n ps)) (prS (lins n ps)) x9 x10 (prS as) x12 (prS w) .no 13 w (by omega) e36_2 rfl rfl
  unfold l36_2
  refine r_seq (S1 := st ns n ps p (owS w) x9 x10 (prS as) x12 (prS w) .no) (by
    rw [r_asg]
    show ((evB (callF tab (k + 7)) (.comp [("pair", 6)] e36_2 (.nm 6) (.ex (.var 13)) .nil)).v (lw ns p (inS n) (prS ps) (.c (.im (matB (tabM n ps)))) x5 (prS (clo n ps)) (prS (lins n ps)) x9 x10 (prS as) x12 (prS w) .no)).bind _ = _
    rw [c1]; rfl) ?_
  rw [r_frz]
  show runs _ _ (st ns n ps p (.c (.im (.lst (Cell.frzs ((w.map prD).map .im))))) x9 x10 (prS as) x12 (prS w) .no) = _
  rw [x_frzs_map]
  have s14 := e_call (cf := callF tab (k + 7)) (f := 14) (es := .cons (.var 2) (.cons (.var 11) (.cons (.var 5) .nil))) (S := st ns n ps p (prS w) x9 x10 (prS as) x12 (prS w) .no) (S2 := st ns n ps p (prS w) x9 x10 (prS as) x12 (prS w) .no) (rs := [.own (.im (.int (n : Int))), .own (.im (.lst (as.map prD))), .own (.im (.lst (w.map prD)))]) rfl rfl e1
  have s31 := e_call (cf := callF tab (k + 7)) (f := 31) (es := .cons (.var 2) (.cons (.var 8) (.cons (.var 13) .nil))) (S := st ns n ps p (prS w) x9 x10 (prS as) x12 (prS w) .no) (S2 := st ns n ps p (prS w) x9 x10 (prS as) x12 (prS w) .no) (rs := [.own (.im (.int (n : Int))), .own (.im (.lst ((lins n ps).map prD))), .own (.im (.lst (w.map prD)))]) rfl rfl e2
  have s26 := e_call (cf := callF tab (k + 7)) (f := 26) (c := .im (.bl true)) (u := none) (e_two s14 s31) (cs := [.im (.bl (mkO n (lins n ps) w)), .im (.bl (mkO n (lins n ps) w))]) rfl (same_bl (k + 6) _)
  have s27 := e_call (cf := callF tab (k + 7)) (f := 26) (es := .cons (.var 5) (.cons (.var 13) .nil)) (S := st ns n ps p (prS w) x9 x10 (prS as) x12 (prS w) .no) (S2 := st ns n ps p (prS w) x9 x10 (prS as) x12 (prS w) .no) (rs := [.own (.im (.lst (w.map prD))), .own (.im (.lst (w.map prD)))]) rfl rfl (same_pairs (k + 4) w (by omega))
  exact r_seq (r_skip ((t_orF (t_not (t_of_v s26))).trans (t_not (t_of_v s27)))) rfl
/-- of what is no list of pairs -/
theorem no_step (k : Nat) (ns : List Int) (n : Nat) (ps : List (Nat × Nat)) (hn1 : 1 ≤ n) (hn2 : n ≤ 40) (p : List D) (as : List (Nat × Nat)) (ha : Ask n (lins n ps) as) (hal : as.length ≤ 1600) (d : D) (hd : NoP (k + 2) n d) (x5 x9 x10 x12 : Sl) :
    runs (callF tab (k + 7)) l36_3 (st ns n ps p x5 x9 x10 (prS as) x12 (.c (.im d)) .no) = some (.nx (st ns n ps p x5 x9 x10 (prS as) x12 (.c (.im d)) .no)) := by
  have e1 := is_order_no k n hn1 hn2 as hal ha.ok d hd
  have s14 := e_call (cf := callF tab (k + 7)) (f := 14) (es := .cons (.var 2) (.cons (.var 11) (.cons (.var 13) .nil))) (S := st ns n ps p x5 x9 x10 (prS as) x12 (.c (.im d)) .no) (S2 := st ns n ps p x5 x9 x10 (prS as) x12 (.c (.im d)) .no) (rs := [.own (.im (.int (n : Int))), .own (.im (.lst (as.map prD))), .own (.im d)]) rfl rfl e1
  have s26 := e_call (cf := callF tab (k + 7)) (f := 26) (c := .im (.bl true)) (u := none) (e_two s14 (b := .bl false) (rb := .own (.im (.bl false))) rfl) (cs := [.im (.bl false), .im (.bl false)]) rfl (same_bl (k + 6) _)
  unfold l36_3
  exact r_seq (r_skip (t_not (t_of_v s26))) rfl
/-! the other lines -/
theorem zn {n : Nat} (h : 1 ≤ n) : prD (0, n - 1) = .tup [.int 0, .int ((n : Int) - 1)] := by
  show D.tup [.int ((0 : Nat) : Int), .int ((n - 1 : Nat) : Int)] = _
  rw [show ((n - 1 : Nat) : Int) = (n : Int) - 1 by omega]; rfl
theorem e_zn {cf : CF} {S : Sta} {n : Nat} (h : 1 ≤ n) (h2 : S.ρ[2]? = some (inS n)) : (evB cf (.tup (.cons (.int 0) (.cons (.bin .Sub (.var 2) (.int 1)) .nil)))).v S = some (.own (.im (prD (0, n - 1))), S) := by
  have hb := e_bin (cf := cf) (op := .Sub) (a := .var 2) (b := .int 1) (ra := .own (.im (.int (n : Int)))) (rb := .own (.im (.int 1))) (S := S) (S1 := S) (S2 := S) (c := .im (.int ((n : Int) - 1))) (e_var h2) rfl rfl rfl
  rw [x_tup, x_mkV_v, e_two (a := .int 0) (ca := .im (.int 0)) rfl hb, zn h]
  rfl
theorem ne_pr (q r : Nat × Nat) : scmp .NotEq (prD q) (prD r) = some (!decide (q = r)) := by
  show (if ((prD q).shp 60 && (prD r).shp 60) = true then some (!(prD q).eqv (prD r)) else none) = _
  rw [shp_prD 59 q, shp_prD 59 r, eqv_prD q r]
  rfl
theorem any_pr (q : Nat × Nat) : ∀ l : List (Nat × Nat), ((l.map prD).any fun z => z.eqv (prD q)) = decide (q ∈ l)
  | [] => rfl
  | r :: l => by
    rw [List.map_cons, List.any_cons, any_pr q l, eqv_prD r q]
    by_cases h1 : q = r
    · subst h1; simp
    · have : ¬ r = q := fun e => h1 e.symm
      simp [h1, this]
theorem notin_pr (q : Nat × Nat) (l : List (Nat × Nat)) : scmp .NotIn (prD q) (.lst (l.map prD)) = some (!decide (q ∈ l)) := by
  show (if ((prD q).shp 60 && D.shps 59 (l.map prD)) = true then some (!((l.map prD).any fun z => z.eqv (prD q))) else none) = _
  rw [shp_prD 59 q, shps_prD 58 l, any_pr]
  rfl
theorem oth_comp (cf : CF) (ns : List Int) (p : List D) (n : Nat) (h1 : 1 ≤ n) (x3 x4 x5 x7 x9 x10 x11 x12 x13 : Sl) (ls : List (Nat × Nat)) (hz : ls.length ≤ 10000) (e : ME) (c : Es) (he : e = .var 15) (hc : c = .cons (.cmp .NotEq (.var 15) (.tup (.cons (.int 0) (.cons (.bin .Sub (.var 2) (.int 1)) .nil)))) .nil) :
    (evB cf (.comp [("line", 15)] e (.nm 15) (.ex (.var 8)) c)).v (lw ns p (inS n) x3 x4 x5 x7 (prS ls) x9 x10 x11 x12 x13 .no) = some (.own (.ow (((ls.filter fun q => !decide (q = (0, n - 1))).map prD).map .im)), lw ns p (inS n) x3 x4 x5 x7 (prS ls) x9 x10 x11 x12 x13 .no) := by
  subst he hc
  let sf : Sl → Sta := fun y => ⟨[.c (.im (.scr ns)), .c (.ow (p.map .im)), inS n, x3, x4, x5, .no, x7, prS ls, x9, x10, x11, x12, x13, .no, y], none⟩
  obtain ⟨acc, S1, c1, y15, rfl, h2⟩ := comp_nx (vs := [15]) (t := .nm 15) (cond := (evsB cf (.cons (.cmp .NotEq (.var 15) (.tup (.cons (.int 0) (.cons (.bin .Sub (.var 2) (.int 1)) .nil)))) .nil)).t) (el := (evB cf (.var 15)).v)
    (fun j S acc => ∃ (y : Sl), S = sf y ∧ acc = (((ls.take j).filter fun q => !decide (q = (0, n - 1))).map prD).map .im) 0 (ls.map prD)
    (sf .no) [] 0 ⟨.no, rfl, rfl⟩ (by rw [List.length_map, List.length_nil]; omega) (fun j dd S acc hd ⟨y, g1, g2⟩ => by
      subst g1 g2
      rw [List.getElem?_map] at hd
      simp only [Option.map_eq_some_iff] at hd
      obtain ⟨q, hq, rfl⟩ := hd
      have hcd : (evB cf (.cmp .NotEq (.var 15) (.tup (.cons (.int 0) (.cons (.bin .Sub (.var 2) (.int 1)) .nil))))).t (sf (.c (.im (prD q)))) = some (!decide (q = (0, n - 1)), sf (.c (.im (prD q)))) :=
        e_cmpT (a := .var 15) (ra := .own (.im (prD q))) (S1 := sf (.c (.im (prD q)))) rfl (e_zn h1 rfl) rfl (ne_pr q (0, n - 1))
      refine ⟨_, rfl, !decide (q = (0, n - 1)), sf (.c (.im (prD q))), hcd, ?_⟩
      rw [Nat.zero_add, List.take_add_one, hq, List.filter_append]
      by_cases hlt : q = (0, n - 1)
      · rw [if_neg (by simpa using hlt)]
        exact ⟨_, rfl, by simp [hlt]⟩
      · rw [if_pos (by simpa using hlt)]
        exact ⟨.im (prD q), sf (.c (.im (prD q))), rfl, _, rfl, by simp [hlt]⟩)
  have src : evIB cf (.ex (.var 8)) (lw ns p (inS n) x3 x4 x5 x7 (prS ls) x9 x10 x11 x12 x13 .no) = some (false, ls.map prD, lw ns p (inS n) x3 x4 x5 x7 (prS ls) x9 x10 x11 x12 x13 .no) := rfl
  rw [x_comp, x_mkV_v, src, Option.bind_some]
  rw [if_neg (by simp [lw, Sl.isIm])]
  simp only [List.map_cons, List.map_nil]
  show ((compL [15] (.nm 15) _ _ (ls.map prD) (sf .no) []).map _) = _
  rw [c1]
  rw [Nat.zero_add, List.length_map, List.take_length] at h2
  rw [h2]
  simp [backS, lw, sf]
end K04
namespace K04
open L2 Mi
/-- the one line put in or left out -/
theorem oth_put (cf : CF) (ns : List Int) (n : Nat) (h1 : 1 ≤ n) (hn2 : n ≤ 40) (ps : List (Nat × Nat)) (p : List D) (x5 x9 x10 x11 x12 x13 : Sl) :
    run cf (.ife (.cmp .NotIn (.tup (.cons (.int 0) (.cons (.bin .Sub (.var 2) (.int 1)) .nil))) (.var 8)) (.cons (.app1 14 (.tup (.cons (.int 0) (.cons (.bin .Sub (.var 2) (.int 1)) .nil))))
    .nil) .nil) (st ns n ps p x5 x9 x10 x11 x12 x13 (owS ((lins n ps).filter fun q => !decide (q = (0, n - 1))))) = some (.nx (st ns n ps p x5 x9 x10 x11 x12 x13 (owS (othL n (lins n ps))))) := by
  have hll := lns_len (lns_upL n (grM n (tabM n ps)))
  have hnn : n * n ≤ 40 * 40 := Nat.mul_le_mul hn2 hn2
  have hlen : (lins n ps).length ≤ 1600 := by show (upL (grM n (tabM n ps)) n).length ≤ 1600; omega
  have hfl := List.length_filter_le (fun q => !decide (q = (0, n - 1))) (lins n ps)
  have hc := e_cmpT (cf := cf) (op := .NotIn) (b := .var 8) (rb := .own (.im (.lst ((lins n ps).map prD)))) (S := st ns n ps p x5 x9 x10 x11 x12 x13 (owS ((lins n ps).filter fun q => !decide (q = (0, n - 1))))) (e_zn h1 rfl) rfl rfl (notin_pr (0, n - 1) (lins n ps))
  by_cases h : (0, n - 1) ∈ lins n ps
  · rw [decide_eq_true h] at hc
    rw [r_skip hc]
    unfold othL
    rw [if_pos h, List.append_nil]
  · rw [decide_eq_false h] at hc
    rw [r_ifeT hc]
    refine r_seq ?_ rfl
    rw [r_app1, e_zn h1 rfl]
    show ((if ((((lins n ps).filter fun q => !decide (q = (0, n - 1))).map prD).map Cell.im).length < 16777216 then some (((((lins n ps).filter fun q => !decide (q = (0, n - 1))).map prD).map Cell.im) ++ [Cell.im (prD (0, n - 1))]) else none).map fun cs' => st ns n ps p x5 x9 x10 x11 x12 x13 (.c (.ow cs'))).map Out.nx = _
    rw [if_pos (by rw [List.length_map, List.length_map]; omega)]
    unfold othL
    rw [if_neg h]
    show some (Out.nx (st ns n ps p x5 x9 x10 x11 x12 x13 (.c (.ow _)))) = some (Out.nx (st ns n ps p x5 x9 x10 x11 x12 x13 (.c (.ow _))))
    rw [List.map_append, List.map_append]
    rfl
/-- the last question -/
theorem last_step (k : Nat) (ns : List Int) (n : Nat) (ps : List (Nat × Nat)) (g : Good n ps) (hn1 : 1 ≤ n) (hn2 : n ≤ 40) (p : List D) (x5 x9 x10 x11 x12 x13 : Sl) :
    run (callF tab (k + 8)) (.ife (.and (.cmp .Gt (.var 2) (.int 1)) (.one (.not (.call 26 (.cons (.lst (.cons (.call 14 (.cons (.var 2) (.cons (.var 14) (.cons (.var 7) .nil)))) (.cons (.call 14 (.cons (.var 2) (.cons (.var 8) (.cons (.var 7) .nil)))) .nil))) (.cons (.lst (.cons (.bl false) (.cons (.bl true) .nil))) .nil)))))) (.cons (.ret (.bl false))
    .nil) .nil) (st ns n ps p x5 x9 x10 x11 x12 x13 (owS (othL n (lins n ps)))) = some (.nx (st ns n ps p x5 x9 x10 x11 x12 x13 (owS (othL n (lins n ps))))) := by
  have hll := lns_len (lns_upL n (grM n (tabM n ps)))
  have hnn : n * n ≤ 40 * 40 := Nat.mul_le_mul hn2 hn2
  have hlen : (lins n ps).length ≤ 800 := by show (upL (grM n (tabM n ps)) n).length ≤ 800; omega
  have hl : Lns n (lins n ps) := lns_upL n _
  have hol := oth_len (n := n) (ls := lins n ps)
  have hc : (evB (callF tab (k + 8)) (.cmp .Gt (.var 2) (.int 1))).t (st ns n ps p x5 x9 x10 x11 x12 x13 (owS (othL n (lins n ps)))) = some (decide (1 < n), st ns n ps p x5 x9 x10 x11 x12 x13 (owS (othL n (lins n ps)))) :=
    e_cmpT (a := .var 2) (b := .int 1) (ra := .own (.im (.int (n : Int)))) (rb := .own (.im (.int 1))) rfl rfl rfl (by
      show some (decide ((1 : Int) < (n : Int))) = _
      congr 1
      by_cases h : 1 < n
      · rw [decide_eq_true h, decide_eq_true (by omega)]
      · rw [decide_eq_false h, decide_eq_false (by omega)])
  by_cases h : 1 < n
  · rw [decide_eq_true h] at hc
    have e1 := is_order_ok (k + 1) n hn1 hn2 (othL n (lins n ps)) (by omega) (vd_oth (by omega) hl) (clo n ps) (good_clo g).vd
    rw [ord_oth (by omega) hn2 g] at e1
    have e2 := is_order_ok (k + 1) n hn1 hn2 (lins n ps) (by omega) (ask_self hl).ok (clo n ps) (good_clo g).vd
    rw [ord_due hn2 g] at e2
    have s1 : (evB (callF tab (k + 8)) (.call 14 (.cons (.var 2) (.cons (.var 14) (.cons (.var 7) .nil))))).v (st ns n ps p x5 x9 x10 x11 x12 x13 (owS (othL n (lins n ps)))) = some (.own (.im (.bl false)), st ns n ps p x5 x9 x10 x11 x12 x13 (owS (othL n (lins n ps)))) := by
      refine e_callB (rs := [.own (.im (.int (n : Int))), .bor (.ow (((othL n (lins n ps)).map prD).map .im)), .own (.im (.lst ((clo n ps).map prD)))]) rfl rfl (u := none) ?_ rfl
      show callF tab (k + 8) 14 [.int (n : Int), .lst (Cell.frzs (((othL n (lins n ps)).map prD).map .im)), .lst ((clo n ps).map prD)] none = _
      rw [x_frzs_map]
      exact e1
    have s2 := e_call (cf := callF tab (k + 8)) (f := 14) (es := .cons (.var 2) (.cons (.var 8) (.cons (.var 7) .nil))) (S := st ns n ps p x5 x9 x10 x11 x12 x13 (owS (othL n (lins n ps)))) (S2 := st ns n ps p x5 x9 x10 x11 x12 x13 (owS (othL n (lins n ps)))) (rs := [.own (.im (.int (n : Int))), .own (.im (.lst ((lins n ps).map prD))), .own (.im (.lst ((clo n ps).map prD)))]) rfl rfl e2
    have s3 : (evB (callF tab (k + 8)) (.lst (.cons (.call 14 (.cons (.var 2) (.cons (.var 14) (.cons (.var 7) .nil)))) (.cons (.call 14 (.cons (.var 2) (.cons (.var 8) (.cons (.var 7) .nil)))) .nil)))).v (st ns n ps p x5 x9 x10 x11 x12 x13 (owS (othL n (lins n ps)))) = some (.own (.ow [.im (.bl false), .im (.bl true)]), st ns n ps p x5 x9 x10 x11 x12 x13 (owS (othL n (lins n ps)))) := by
      rw [x_lst, x_mkV_v, e_two s1 s2]; rfl
    have es := same_seq (k + 6) (.lst [.bl false, .bl true]) [.bl false, .bl true] (.inl rfl) (by decide) fun x hx => by
      simp only [List.mem_cons, List.not_mem_nil, or_false] at hx
      rcases hx with rfl | rfl
      · exact same_bl (k + 6) false
      · exact same_bl (k + 6) true
    have s4 := e_call (cf := callF tab (k + 8)) (f := 26) (c := .im (.bl true)) (u := none) (e_two s3 (b := .lst (.cons (.bl false) (.cons (.bl true) .nil))) (rb := .own (.ow [.im (.bl false), .im (.bl true)])) rfl) (cs := [.ow [.im (.bl false), .im (.bl true)], .ow [.im (.bl false), .im (.bl true)]]) rfl es
    exact r_skip ((t_andT hc).trans (t_not (t_of_v s4)))
  · rw [decide_eq_false h] at hc
    exact r_skip (t_andF hc)
theorem law_ok (k : Nat) (ns : List Int) (hns : ns.length ≤ 63) : callF tab (k + 9) 36 [.scr ns] none = some (.im (.bl true), none) := by
  obtain ⟨p, e1, hp⟩ := stream_ok (k + 6) ns hns
  obtain ⟨n0, ps0, p1, e2, g0, hn1, hn2, hz0, hp1⟩ := any_ok (k + 3) p hp
  obtain ⟨ps1, p3, e4, hm4, hl4, hp3⟩ := listed_pairs (k + 5) ps0 (by omega) p1 hp1
  have g1 := good_mem g0 hm4
  obtain ⟨n, ps, p5, g, hq1, hq2, hqz, hp5, e6⟩ := law_great (k + 1) ns n0 ps1 g1 hn1 (by omega) (by omega) p3 hp3
  have hnn : n * n ≤ 40 * 40 := Nat.mul_le_mul hq2 hq2
  have hcl : (clo n ps).length ≤ 1600 := by have := clo_len n ps; omega
  have hl : Lns n (lins n ps) := lns_upL n _
  have hll := lns_len hl
  obtain ⟨er, hsq⟩ := rows_ok (k + 7) n (by omega) ps g.lt
  have edue := lpairs_ok (k + 7) n (by omega) (tabM n ps) hsq
  have elin := law_lines_ok (k + 6) n (by omega) (tabM n ps) hsq
  obtain ⟨as, p6, ew, ha, hal, hp6⟩ := ways_ok (k + 4) n (lins n ps) hl (by omega) p5 hp5
  obtain ⟨T, erep, eqT⟩ := repr_ok as (by omega) fun q hq => by have := ha.ok q hq; omega
  have hne : clo n ps ≠ [] → ps ≠ [] := fun h e => h (by
    subst e
    cases hcl : clo n [] with
    | nil => rfl
    | cons q l =>
      have hq : q ∈ clo n [] := by rw [hcl]; exact List.mem_cons_self ..
      have := ((mem_clo (n := n) (ps := []) (fun _ h => (nomatch h)) (x := q.1) (y := q.2)).mp hq).2.2
      have : ∀ a b, ¬ Pt [] a b := fun a b h => by cases h with | one h => exact nomatch h | step h _ => exact nomatch h
      exact absurd ‹Pt [] q.1 q.2› (this _ _))
  obtain ⟨vs, p7, enr, hvs, hvl, hp7⟩ := near_ok (k + 6) n hq1 ps (clo n ps) hqz hcl g.vd (good_clo g).vd hne p6 hp6
  obtain ⟨F, p8, ewr, hF, hp8⟩ := wrong_ok (k + 6) (k + 3) n hq1 ps hqz g.vd p7 hp7
  obtain ⟨p9, esm, hp9⟩ := small_ok k p8 hp8
  obtain ⟨S1, l1, y9, y10, rfl⟩ := loop_nx (t := .nm 9) (b := runs (callF tab (k + 8)) l36_1) (fun i S => ∃ y9 y10, S = st ns n ps p5 (prS ps) y9 y10 .no .no .no .no) (rngD 0 ((2 : Nat) : Int)) (st ns n ps p5 (prS ps) .no .no .no .no .no .no) 0 ⟨.no, .no, rfl⟩ (fun j d S hd hi => by
    obtain ⟨y9, y10, rfl⟩ := hi
    obtain ⟨rfl, hj⟩ := rng_get hd
    obtain ⟨z10, e⟩ := turn_step (k + 1) ns n ps g hq1 hq2 hqz p5 j y10
    exact ⟨_, rfl, _, .inl e, _, _, rfl⟩)
  obtain ⟨S2, l2, y5, y13, rfl⟩ := loop_nx (t := .nm 13) (b := runs (callF tab (k + 8)) l36_2) (fun i S => ∃ y5 y13, S = st ns n ps p7 y5 y9 y10 (prS as) (.c (.im (.str T))) y13 .no) ([.lst (ps.map prD), .lst ((clo n ps).map prD)] ++ vs.map fun l => D.lst (l.map prD)) (st ns n ps p7 (prS ps) y9 y10 (prS as) (.c (.im (.str T))) .no .no) 0 ⟨_, .no, rfl⟩ (fun j d S hd hi => by
    obtain ⟨y5, y13, rfl⟩ := hi
    have : ∃ w, d = .lst (w.map prD) ∧ Vd n w ∧ w.length ≤ 1601 := by
      rcases List.mem_append.mp (List.mem_of_getElem? hd) with hd | hd
      · simp only [List.mem_cons, List.not_mem_nil, or_false] at hd
        rcases hd with rfl | rfl
        · exact ⟨ps, rfl, g.vd, by omega⟩
        · exact ⟨clo n ps, rfl, (good_clo g).vd, by omega⟩
      · obtain ⟨l, hl, rfl⟩ := List.mem_map.mp hd
        exact ⟨l, rfl, hvs l hl⟩
    obtain ⟨w, rfl, hw, hwl⟩ := this
    exact ⟨_, rfl, _, .inl (val_step (k + 1) ns n ps hq1 hq2 p7 as w ha (by omega) hw hwl y5 y9 y10 _), _, _, rfl⟩)
  obtain ⟨S3, l3, z13, rfl⟩ := loop_nx (t := .nm 13) (b := runs (callF tab (k + 8)) l36_3) (fun i S => ∃ y13, S = st ns n ps p8 y5 y9 y10 (prS as) (.c (.im (.str T))) y13 .no) (Cell.frzs F) (st ns n ps p8 y5 y9 y10 (prS as) (.c (.im (.str T))) y13 .no) 0 ⟨_, rfl⟩ (fun j d S hd hi => by
    obtain ⟨y13, rfl⟩ := hi
    have : NoP (k + 3) n d := by
      have : Cell.frzs F = F.map Cell.frz := by
        clear hd hF l1 l2 ewr
        induction F with
        | nil => rfl
        | cons c F ih => rw [x_frzs_cons, ih]; rfl
      rw [this] at hd
      obtain ⟨c, hc, rfl⟩ := List.mem_map.mp (List.mem_of_getElem? hd)
      exact hF c hc
    exact ⟨_, rfl, _, .inl (no_step (k + 1) ns n ps hq1 hq2 p8 as ha (by omega) d this y5 y9 y10 _), _, rfl⟩)
  have oc := oth_comp (callF tab (k + 8)) ns p8 n hq1 (prS ps) (.c (.im (matB (tabM n ps)))) y5 (prS (clo n ps)) y9 y10 (prS as) (.c (.im (.str T))) z13 (lins n ps) (by omega) e36_3 c36_3 rfl rfl
  have op := oth_put (callF tab (k + 8)) ns n hq1 hq2 ps p8 y5 y9 y10 (prS as) (.c (.im (.str T))) z13
  have lst := last_step k ns n ps g hq1 hq2 p8 y5 y9 y10 (prS as) (.c (.im (.str T))) z13
  refine call_rt (ρ := (st ns n ps p9 y5 y9 y10 (prS as) (.c (.im (.str T))) z13 (owS (othL n (lins n ps)))).ρ) rfl rfl rfl rfl ?_
  unfold f36
  have s1 := e_call (cf := callF tab (k + 8)) (f := 16) (es := .cons (.var 0) .nil) (S := ⟨[.c (.im (.scr ns)), .no, .no, .no, .no, .no, .no, .no, .no, .no, .no, .no, .no, .no, .no, .no], none⟩) (S2 := ⟨[.c (.im (.scr ns)), .no, .no, .no, .no, .no, .no, .no, .no, .no, .no, .no, .no, .no, .no, .no], none⟩) (rs := [.own (.im (.scr ns))]) rfl rfl e1
  refine r_seq (S1 := lw ns p .no .no .no .no .no .no .no .no .no .no .no .no) (by
    rw [r_asg]
    show ((evB (callF tab (k + 8)) (.call 16 (.cons (.var 0) .nil))).v ⟨[.c (.im (.scr ns)), .no, .no, .no, .no, .no, .no, .no, .no, .no, .no, .no, .no, .no, .no, .no], none⟩).bind _ = _
    rw [s1]; rfl) ?_
  have s2 := e_callPl (cf := callF tab (k + 8)) (f := 29) (i := 1) (es := .nil) (S := lw ns p .no .no .no .no .no .no .no .no .no .no .no .no) (S2 := lw ns p .no .no .no .no .no .no .no .no .no .no .no .no) (u0 := p) (u := p) (rl := []) (cs := []) rfl rfl rfl rfl e2
  refine r_seq (S1 := lw ns p1 (inS n0) (prS ps0) .no .no .no .no .no .no .no .no .no .no) (by rw [r_asgT, s2]; rfl) ?_
  have s4 := e_callPl (cf := callF tab (k + 8)) (f := 28) (i := 1) (es := .cons (.var 3) .nil) (S := lw ns p1 (inS n0) (prS ps0) .no .no .no .no .no .no .no .no .no .no) (S2 := lw ns p1 (inS n0) (prS ps0) .no .no .no .no .no .no .no .no .no .no) (u0 := p1) (u := p1) (rl := [.own (.im (.lst (ps0.map prD)))]) (cs := [.im (.lst (ps0.map prD))]) rfl rfl rfl rfl e4
  refine r_seq (S1 := lw ns p3 (inS n0) (.c (.ow ((ps1.map prD).map .im))) .no .no .no .no .no .no .no .no .no .no) (by rw [r_asg, s4]; rfl) ?_
  rw [r_frz]
  show runs _ _ (lw ns p3 (inS n0) (.c (.im (.lst (Cell.frzs ((ps1.map prD).map .im))))) .no .no .no .no .no .no .no .no .no .no) = _
  rw [x_frzs_map]
  refine r_seq e6 ?_
  have s5 := e_call (cf := callF tab (k + 8)) (f := 19) (es := .cons (.var 2) (.cons (.var 3) .nil)) (S := lw ns p5 (inS n) (prS ps) .no .no .no .no .no .no .no .no .no .no) (S2 := lw ns p5 (inS n) (prS ps) .no .no .no .no .no .no .no .no .no .no) (rs := [.own (.im (.int (n : Int))), .own (.im (.lst (ps.map prD)))]) rfl rfl er
  have s6 := cp (callF tab (k + 8)) ns p5 (inS n) (prS ps) .no .no .no .no .no .no .no .no .no .no 3 ps (by omega) e36_1 rfl rfl
  refine r_seq (S1 := lw ns p5 (inS n) (prS ps) (.c (matC bitD (tabM n ps))) (.c (.ow ((ps.map prD).map .im))) .no .no .no .no .no .no .no .no) (by
    rw [r_par, x_cons_v, s5, Option.bind_some, x_cons_v, s6]; rfl) ?_
  rw [r_frz]
  show runs _ _ (lw ns p5 (inS n) (prS ps) (.c (.im (matC bitD (tabM n ps)).frz)) (.c (.im (.lst (Cell.frzs ((ps.map prD).map .im))))) .no .no .no .no .no .no .no .no) = _
  rw [x_frzs_map, mat_frzE]
  show runs _ _ (lw ns p5 (inS n) (prS ps) (.c (.im (matB (tabM n ps)))) (prS ps) .no .no .no .no .no .no .no .no) = _
  have s7 := e_call (cf := callF tab (k + 8)) (f := 20) (es := .cons (.var 4) .nil) (S := lw ns p5 (inS n) (prS ps) (.c (.im (matB (tabM n ps)))) (prS ps) .no .no .no .no .no .no .no .no) (S2 := lw ns p5 (inS n) (prS ps) (.c (.im (matB (tabM n ps)))) (prS ps) .no .no .no .no .no .no .no .no) (rs := [.own (.im (matB (tabM n ps)))]) rfl rfl edue
  have s8 := e_call (cf := callF tab (k + 8)) (f := 25) (es := .cons (.var 4) .nil) (S := lw ns p5 (inS n) (prS ps) (.c (.im (matB (tabM n ps)))) (prS ps) .no .no .no .no .no .no .no .no) (S2 := lw ns p5 (inS n) (prS ps) (.c (.im (matB (tabM n ps)))) (prS ps) .no .no .no .no .no .no .no .no) (rs := [.own (.im (matB (tabM n ps)))]) rfl rfl elin
  refine r_seq (S1 := lw ns p5 (inS n) (prS ps) (.c (.im (matB (tabM n ps)))) (prS ps) (prS (clo n ps)) (.c (.ow (((lins n ps).map prD).map .im))) .no .no .no .no .no .no) (by
    rw [r_par, e_two s7 s8]; rfl) ?_
  rw [r_frz]
  show runs _ _ (lw ns p5 (inS n) (prS ps) (.c (.im (matB (tabM n ps)))) (prS ps) (prS (clo n ps)) (.c (.im (.lst (Cell.frzs (((lins n ps).map prD).map .im))))) .no .no .no .no .no .no) = _
  rw [x_frzs_map]
  refine r_seq (S1 := st ns n ps p5 (prS ps) y9 y10 .no .no .no .no) (r_for (S1 := st ns n ps p5 (prS ps) .no .no .no .no .no .no) (i_rg1 (n := 2) rfl (by omega)) l1) ?_
  have s9 := e_callPl (cf := callF tab (k + 8)) (f := 32) (i := 1) (es := .cons (.var 8) .nil) (S := st ns n ps p5 (prS ps) y9 y10 .no .no .no .no) (S2 := st ns n ps p5 (prS ps) y9 y10 .no .no .no .no) (u0 := p5) (u := p5) (rl := [.own (.im (.lst ((lins n ps).map prD)))]) (cs := [.im (.lst ((lins n ps).map prD))]) rfl rfl rfl rfl ew
  refine r_seq (S1 := st ns n ps p6 (prS ps) y9 y10 (owS as) .no .no .no) (by rw [r_asg, s9]; rfl) ?_
  rw [r_frz]
  show runs _ _ (st ns n ps p6 (prS ps) y9 y10 (.c (.im (.lst (Cell.frzs ((as.map prD).map .im))))) .no .no .no) = _
  rw [x_frzs_map]
  have rp : ∀ p x5 x9 x10 x12 x13 x14, (evB (callF tab (k + 8)) (.blt "repr" (.cons (.var 11) .nil))).v (st ns n ps p x5 x9 x10 (prS as) x12 x13 x14) = some (.own (.im (.str T)), st ns n ps p x5 x9 x10 (prS as) x12 x13 x14) := fun p x5 x9 x10 x12 x13 x14 =>
    e_blt (rs := [.own (.im (.lst (as.map prD)))]) rfl erep
  refine r_seq (S1 := st ns n ps p6 (prS ps) y9 y10 (prS as) (.c (.im (.str T))) .no .no) (by
    rw [r_asg]
    show ((evB (callF tab (k + 8)) (.blt "repr" (.cons (.var 11) .nil))).v (st ns n ps p6 (prS ps) y9 y10 (prS as) .no .no .no)).bind _ = _
    rw [rp]; rfl) ?_
  rw [r_frz]
  show runs _ _ (st ns n ps p6 (prS ps) y9 y10 (prS as) (.c (.im (.str T))) .no .no) = _
  have s10 := e_callPl (cf := callF tab (k + 8)) (f := 33) (i := 1) (es := .cons (.var 2) (.cons (.var 3) (.cons (.var 7) .nil))) (S := st ns n ps p6 (prS ps) y9 y10 (prS as) (.c (.im (.str T))) .no .no) (S2 := st ns n ps p6 (prS ps) y9 y10 (prS as) (.c (.im (.str T))) .no .no) (u0 := p6) (u := p6) (rl := [.own (.im (.int (n : Int))), .own (.im (.lst (ps.map prD))), .own (.im (.lst ((clo n ps).map prD)))]) (cs := [.im (.int (n : Int)), .im (.lst (ps.map prD)), .im (.lst ((clo n ps).map prD))]) rfl rfl rfl rfl enr
  have s11 := e_cat (cf := callF tab (k + 8)) (S := st ns n ps p6 (prS ps) y9 y10 (prS as) (.c (.im (.str T))) .no .no) (a := .lst (.cons (.var 3) (.cons (.var 7) .nil))) (ca := .ow [.im (.lst (ps.map prD)), .im (.lst ((clo n ps).map prD))]) (xs := [.lst (ps.map prD), .lst ((clo n ps).map prD)]) (ys := vs.map fun l => D.lst (l.map prD)) rfl s10 rfl rfl (by rw [List.length_map]; simp; omega)
  refine r_seq (S1 := st ns n ps p7 y5 y9 y10 (prS as) (.c (.im (.str T))) y13 .no) (r_for (S1 := st ns n ps p7 (prS ps) y9 y10 (prS as) (.c (.im (.str T))) .no .no) (by
    rw [x_iex, s11, Option.bind_some]
    show (some (Cell.frzs (([D.lst (ps.map prD), D.lst ((clo n ps).map prD)] ++ vs.map fun l => D.lst (l.map prD)).map .im))).map _ = _
    rw [x_frzs_map]; rfl) l2) ?_
  have s12 := e_callPl (cf := callF tab (k + 8)) (f := 34) (i := 1) (es := .cons (.var 2) (.cons (.var 3) .nil)) (S := st ns n ps p7 y5 y9 y10 (prS as) (.c (.im (.str T))) y13 .no) (S2 := st ns n ps p7 y5 y9 y10 (prS as) (.c (.im (.str T))) y13 .no) (u0 := p7) (u := p7) (rl := [.own (.im (.int (n : Int))), .own (.im (.lst (ps.map prD)))]) (cs := [.im (.int (n : Int)), .im (.lst (ps.map prD))]) rfl rfl rfl rfl ewr
  refine r_seq (S1 := st ns n ps p8 y5 y9 y10 (prS as) (.c (.im (.str T))) z13 .no) (r_for (S1 := st ns n ps p8 y5 y9 y10 (prS as) (.c (.im (.str T))) y13 .no) (ds := Cell.frzs F) (by
    rw [x_iex, s12]; rfl) l3) ?_
  refine r_seq (S1 := st ns n ps p8 y5 y9 y10 (prS as) (.c (.im (.str T))) z13 (owS ((lins n ps).filter fun q => !decide (q = (0, n - 1))))) (by
    rw [r_asg]
    show ((evB (callF tab (k + 8)) (.comp [("line", 15)] e36_3 (.nm 15) (.ex (.var 8)) c36_3)).v (lw ns p8 (inS n) (prS ps) (.c (.im (matB (tabM n ps)))) y5 (prS (clo n ps)) (prS (lins n ps)) y9 y10 (prS as) (.c (.im (.str T))) z13 .no)).bind _ = _
    rw [oc]; rfl) ?_
  refine r_seq op ?_
  refine r_seq lst ?_
  have s13 := e_callPl (cf := callF tab (k + 8)) (f := 35) (i := 1) (es := .nil) (S := st ns n ps p8 y5 y9 y10 (prS as) (.c (.im (.str T))) z13 (owS (othL n (lins n ps)))) (S2 := st ns n ps p8 y5 y9 y10 (prS as) (.c (.im (.str T))) z13 (owS (othL n (lins n ps)))) (u0 := p8) (u := p8) (rl := []) (cs := []) rfl rfl rfl rfl esm
  have s14 : (evB (callF tab (k + 8)) (.cmp .Eq (.blt "repr" (.cons (.var 11) .nil)) (.var 12))).v (st ns n ps p8 y5 y9 y10 (prS as) (.c (.im (.str T))) z13 (owS (othL n (lins n ps)))) = some (.own (.im (.bl true)), st ns n ps p8 y5 y9 y10 (prS as) (.c (.im (.str T))) z13 (owS (othL n (lins n ps)))) := by
    rw [x_cmp, x_mkV_v, rp, Option.bind_some]
    show ((scmp .Eq (.str T) (.str T)).map _) = _
    rw [eqT]; rfl
  rw [r_cons, r_ret, v_andT s14, x_one, s13]
  rfl
theorem plain : ∀ ns : List Int, ns.length ≤ 63 → callF tab 14 36 [.scr ns] none = some (.im (.bl true), none) := fun ns h => law_ok 5 ns h
end K04
namespace K04
open PySem PySem.Spec PyProof.Rows L2 Mi
theorem all_mk {l : PySem.W.OpenLaw} {w : World} {K : PySem.W.Frag} {h : Heap} {mg : Str → Option Value} {fa : Addr} {g0 g1 g2 g3 g4 g5 g6 g7 g8 g9 g10 g11 g12 g13 g14 g15 g16 g17 g18 g19 g20 g21 g22 g23 g24 g25 g26 g27 g28 g29 g30 g31 g32 g33 g34 g35 g36 : Addr} (X : K.In h) (G : h.Ns mainGlobals mg) (hfa : mg "law" = some (.ref fa))
    {od0 an0 od1 an1 od2 an2 od3 an3 od4 an4 od5 an5 od6 an6 od7 an7 od8 an8 od9 an9 od10 an10 od11 an11 od12 an12 od13 an13 od14 an14 od15 an15 od16 an16 od17 an17 od18 an18 od19 an19 od20 an20 od21 an21 od22 an22 od23 an23 od24 an24 od25 an25 od26 an26 od27 an27 od28 an28 od29 an29 od30 an30 od31 an31 od32 an32 od33 an33 od34 an34 od35 an35 od36 an36 : Option Addr} {sl0 sl1 sl2 sl3 sl4 sl5 sl6 sl7 sl8 sl9 sl10 sl11 sl12 sl13 sl14 sl15 sl16 sl17 sl18 sl19 sl20 sl21 sl22 sl23 sl24 sl25 sl26 sl27 sl28 sl29 sl30 sl31 sl32 sl33 sl34 sl35 sl36 : Array (Option Value)} {oc0 kV0 dc0 pm0 cd0 ct0 oc1 kV1 dc1 pm1 cd1 ct1 oc2 kV2 dc2 pm2 cd2 ct2 oc3 kV3 dc3 pm3 cd3 ct3 oc4 kV4 dc4 pm4 cd4 ct4 oc5 kV5 dc5 pm5 cd5 ct5 oc6 kV6 dc6 pm6 cd6 ct6 oc7 kV7 dc7 pm7 cd7 ct7 oc8 kV8 dc8 pm8 cd8 ct8 oc9 kV9 dc9 pm9 cd9 ct9 oc10 kV10 dc10 pm10 cd10 ct10 oc11 kV11 dc11 pm11 cd11 ct11 oc12 kV12 dc12 pm12 cd12 ct12 oc13 kV13 dc13 pm13 cd13 ct13 oc14 kV14 dc14 pm14 cd14 ct14 oc15 kV15 dc15 pm15 cd15 ct15 oc16 kV16 dc16 pm16 cd16 ct16 oc17 kV17 dc17 pm17 cd17 ct17 oc18 kV18 dc18 pm18 cd18 ct18 oc19 kV19 dc19 pm19 cd19 ct19 oc20 kV20 dc20 pm20 cd20 ct20 oc21 kV21 dc21 pm21 cd21 ct21 oc22 kV22 dc22 pm22 cd22 ct22 oc23 kV23 dc23 pm23 cd23 ct23 oc24 kV24 dc24 pm24 cd24 ct24 oc25 kV25 dc25 pm25 cd25 ct25 oc26 kV26 dc26 pm26 cd26 ct26 oc27 kV27 dc27 pm27 cd27 ct27 oc28 kV28 dc28 pm28 cd28 ct28 oc29 kV29 dc29 pm29 cd29 ct29 oc30 kV30 dc30 pm30 cd30 ct30 oc31 kV31 dc31 pm31 cd31 ct31 oc32 kV32 dc32 pm32 cd32 ct32 oc33 kV33 dc33 pm33 cd33 ct33 oc34 kV34 dc34 pm34 cd34 ct34 oc35 kV35 dc35 pm35 cd35 ct35 oc36 kV36 dc36 pm36 cd36 ct36 : Value}
    (a0 : PySem.W.nsIn K mainGlobals "is_number" = some (some (.ref g0))) (l0 : K.lookup g0 = some ⟨oc0, od0, .func (PySem.W.fnOf "is_number" "is_number" (defArgs s0) (defBody s0) (defScope s0) .none kV0 dc0 pm0 an0 cd0 ct0), sl0⟩) (c0 : PySem.W.codeIn K cd0 "is_number" = true) (k0 : PySem.W.keepIn K (.ref g0) = true)
    (a1 : PySem.W.nsIn K mainGlobals "is_place" = some (some (.ref g1))) (l1 : K.lookup g1 = some ⟨oc1, od1, .func (PySem.W.fnOf "is_place" "is_place" (defArgs s1) (defBody s1) (defScope s1) .none kV1 dc1 pm1 an1 cd1 ct1), sl1⟩) (c1 : PySem.W.codeIn K cd1 "is_place" = true) (k1 : PySem.W.keepIn K (.ref g1) = true)
    (a2 : PySem.W.nsIn K mainGlobals "is_pair" = some (some (.ref g2))) (l2 : K.lookup g2 = some ⟨oc2, od2, .func (PySem.W.fnOf "is_pair" "is_pair" (defArgs s2) (defBody s2) (defScope s2) .none kV2 dc2 pm2 an2 cd2 ct2), sl2⟩) (c2 : PySem.W.codeIn K cd2 "is_pair" = true) (k2 : PySem.W.keepIn K (.ref g2) = true)
    (a3 : PySem.W.nsIn K mainGlobals "are_pairs" = some (some (.ref g3))) (l3 : K.lookup g3 = some ⟨oc3, od3, .func (PySem.W.fnOf "are_pairs" "are_pairs" (defArgs s3) (defBody s3) (defScope s3) .none kV3 dc3 pm3 an3 cd3 ct3), sl3⟩) (c3 : PySem.W.codeIn K cd3 "are_pairs" = true) (k3 : PySem.W.keepIn K (.ref g3) = true)
    (a4 : PySem.W.nsIn K mainGlobals "check_size" = some (some (.ref g4))) (l4 : K.lookup g4 = some ⟨oc4, od4, .func (PySem.W.fnOf "check_size" "check_size" (defArgs s4) (defBody s4) (defScope s4) .none kV4 dc4 pm4 an4 cd4 ct4), sl4⟩) (c4 : PySem.W.codeIn K cd4 "check_size" = true) (k4 : PySem.W.keepIn K (.ref g4) = true)
    (a5 : PySem.W.nsIn K mainGlobals "check_pairs" = some (some (.ref g5))) (l5 : K.lookup g5 = some ⟨oc5, od5, .func (PySem.W.fnOf "check_pairs" "check_pairs" (defArgs s5) (defBody s5) (defScope s5) .none kV5 dc5 pm5 an5 cd5 ct5), sl5⟩) (c5 : PySem.W.codeIn K cd5 "check_pairs" = true) (k5 : PySem.W.keepIn K (.ref g5) = true)
    (a6 : PySem.W.nsIn K mainGlobals "ahead_rows" = some (some (.ref g6))) (l6 : K.lookup g6 = some ⟨oc6, od6, .func (PySem.W.fnOf "ahead_rows" "ahead_rows" (defArgs s6) (defBody s6) (defScope s6) .none kV6 dc6 pm6 an6 cd6 ct6), sl6⟩) (c6 : PySem.W.codeIn K cd6 "ahead_rows" = true) (k6 : PySem.W.keepIn K (.ref g6) = true)
    (a7 : PySem.W.nsIn K mainGlobals "checked_rows" = some (some (.ref g7))) (l7 : K.lookup g7 = some ⟨oc7, od7, .func (PySem.W.fnOf "checked_rows" "checked_rows" (defArgs s7) (defBody s7) (defScope s7) .none kV7 dc7 pm7 an7 cd7 ct7), sl7⟩) (c7 : PySem.W.codeIn K cd7 "checked_rows" = true) (k7 : PySem.W.keepIn K (.ref g7) = true)
    (a8 : PySem.W.nsIn K mainGlobals "pairs_by" = some (some (.ref g8))) (l8 : K.lookup g8 = some ⟨oc8, od8, .func (PySem.W.fnOf "pairs_by" "pairs_by" (defArgs s8) (defBody s8) (defScope s8) .none kV8 dc8 pm8 an8 cd8 ct8), sl8⟩) (c8 : PySem.W.codeIn K cd8 "pairs_by" = true) (k8 : PySem.W.keepIn K (.ref g8) = true)
    (a9 : PySem.W.nsIn K mainGlobals "line_rows" = some (some (.ref g9))) (l9 : K.lookup g9 = some ⟨oc9, od9, .func (PySem.W.fnOf "line_rows" "line_rows" (defArgs s9) (defBody s9) (defScope s9) .none kV9 dc9 pm9 an9 cd9 ct9), sl9⟩) (c9 : PySem.W.codeIn K cd9 "line_rows" = true) (k9 : PySem.W.keepIn K (.ref g9) = true)
    (a10 : PySem.W.nsIn K mainGlobals "checked_lines" = some (some (.ref g10))) (l10 : K.lookup g10 = some ⟨oc10, od10, .func (PySem.W.fnOf "checked_lines" "checked_lines" (defArgs s10) (defBody s10) (defScope s10) .none kV10 dc10 pm10 an10 cd10 ct10), sl10⟩) (c10 : PySem.W.codeIn K cd10 "checked_lines" = true) (k10 : PySem.W.keepIn K (.ref g10) = true)
    (a11 : PySem.W.nsIn K mainGlobals "graph_rows" = some (some (.ref g11))) (l11 : K.lookup g11 = some ⟨oc11, od11, .func (PySem.W.fnOf "graph_rows" "graph_rows" (defArgs s11) (defBody s11) (defScope s11) .none kV11 dc11 pm11 an11 cd11 ct11), sl11⟩) (c11 : PySem.W.codeIn K cd11 "graph_rows" = true) (k11 : PySem.W.keepIn K (.ref g11) = true)
    (a12 : PySem.W.nsIn K mainGlobals "lines_by" = some (some (.ref g12))) (l12 : K.lookup g12 = some ⟨oc12, od12, .func (PySem.W.fnOf "lines_by" "lines_by" (defArgs s12) (defBody s12) (defScope s12) .none kV12 dc12 pm12 an12 cd12 ct12), sl12⟩) (c12 : PySem.W.codeIn K cd12 "lines_by" = true) (k12 : PySem.W.keepIn K (.ref g12) = true)
    (a13 : PySem.W.nsIn K mainGlobals "graph_of" = some (some (.ref g13))) (l13 : K.lookup g13 = some ⟨oc13, od13, .func (PySem.W.fnOf "graph_of" "graph_of" (defArgs s13) (defBody s13) (defScope s13) .none kV13 dc13 pm13 an13 cd13 ct13), sl13⟩) (c13 : PySem.W.codeIn K cd13 "graph_of" = true) (k13 : PySem.W.keepIn K (.ref g13) = true)
    (a14 : PySem.W.nsIn K mainGlobals "is_order_on" = some (some (.ref g14))) (l14 : K.lookup g14 = some ⟨oc14, od14, .func (PySem.W.fnOf "is_order_on" "is_order_on" (defArgs s14) (defBody s14) (defScope s14) .none kV14 dc14 pm14 an14 cd14 ct14), sl14⟩) (c14 : PySem.W.codeIn K cd14 "is_order_on" = true) (k14 : PySem.W.keepIn K (.ref g14) = true)
    (a15 : PySem.W.nsIn K mainGlobals "_law_pool" = some (some (.ref g15))) (l15 : K.lookup g15 = some ⟨oc15, od15, .func (PySem.W.fnOf "_law_pool" "_law_pool" (defArgs s15) (defBody s15) (defScope s15) .none kV15 dc15 pm15 an15 cd15 ct15), sl15⟩) (c15 : PySem.W.codeIn K cd15 "_law_pool" = true) (k15 : PySem.W.keepIn K (.ref g15) = true)
    (a16 : PySem.W.nsIn K mainGlobals "_law_stream" = some (some (.ref g16))) (l16 : K.lookup g16 = some ⟨oc16, od16, .func (PySem.W.fnOf "_law_stream" "_law_stream" (defArgs s16) (defBody s16) (defScope s16) .none kV16 dc16 pm16 an16 cd16 ct16), sl16⟩) (c16 : PySem.W.codeIn K cd16 "_law_stream" = true) (k16 : PySem.W.keepIn K (.ref g16) = true)
    (a17 : PySem.W.nsIn K mainGlobals "_law_pick" = some (some (.ref g17))) (l17 : K.lookup g17 = some ⟨oc17, od17, .func (PySem.W.fnOf "_law_pick" "_law_pick" (defArgs s17) (defBody s17) (defScope s17) .none kV17 dc17 pm17 an17 cd17 ct17), sl17⟩) (c17 : PySem.W.codeIn K cd17 "_law_pick" = true) (k17 : PySem.W.keepIn K (.ref g17) = true)
    (a18 : PySem.W.nsIn K mainGlobals "_law_turn" = some (some (.ref g18))) (l18 : K.lookup g18 = some ⟨oc18, od18, .func (PySem.W.fnOf "_law_turn" "_law_turn" (defArgs s18) (defBody s18) (defScope s18) .none kV18 dc18 pm18 an18 cd18 ct18), sl18⟩) (c18 : PySem.W.codeIn K cd18 "_law_turn" = true) (k18 : PySem.W.keepIn K (.ref g18) = true)
    (a19 : PySem.W.nsIn K mainGlobals "_law_rows" = some (some (.ref g19))) (l19 : K.lookup g19 = some ⟨oc19, od19, .func (PySem.W.fnOf "_law_rows" "_law_rows" (defArgs s19) (defBody s19) (defScope s19) .none kV19 dc19 pm19 an19 cd19 ct19), sl19⟩) (c19 : PySem.W.codeIn K cd19 "_law_rows" = true) (k19 : PySem.W.keepIn K (.ref g19) = true)
    (a20 : PySem.W.nsIn K mainGlobals "_law_pairs" = some (some (.ref g20))) (l20 : K.lookup g20 = some ⟨oc20, od20, .func (PySem.W.fnOf "_law_pairs" "_law_pairs" (defArgs s20) (defBody s20) (defScope s20) .none kV20 dc20 pm20 an20 cd20 ct20), sl20⟩) (c20 : PySem.W.codeIn K cd20 "_law_pairs" = true) (k20 : PySem.W.keepIn K (.ref g20) = true)
    (a21 : PySem.W.nsIn K mainGlobals "_law_renamed" = some (some (.ref g21))) (l21 : K.lookup g21 = some ⟨oc21, od21, .func (PySem.W.fnOf "_law_renamed" "_law_renamed" (defArgs s21) (defBody s21) (defScope s21) .none kV21 dc21 pm21 an21 cd21 ct21), sl21⟩) (c21 : PySem.W.codeIn K cd21 "_law_renamed" = true) (k21 : PySem.W.keepIn K (.ref g21) = true)
    (a22 : PySem.W.nsIn K mainGlobals "_law_knot" = some (some (.ref g22))) (l22 : K.lookup g22 = some ⟨oc22, od22, .func (PySem.W.fnOf "_law_knot" "_law_knot" (defArgs s22) (defBody s22) (defScope s22) .none kV22 dc22 pm22 an22 cd22 ct22), sl22⟩) (c22 : PySem.W.codeIn K cd22 "_law_knot" = true) (k22 : PySem.W.keepIn K (.ref g22) = true)
    (a23 : PySem.W.nsIn K mainGlobals "_law_made" = some (some (.ref g23))) (l23 : K.lookup g23 = some ⟨oc23, od23, .func (PySem.W.fnOf "_law_made" "_law_made" (defArgs s23) (defBody s23) (defScope s23) .none kV23 dc23 pm23 an23 cd23 ct23), sl23⟩) (c23 : PySem.W.codeIn K cd23 "_law_made" = true) (k23 : PySem.W.keepIn K (.ref g23) = true)
    (a24 : PySem.W.nsIn K mainGlobals "_law_drawn" = some (some (.ref g24))) (l24 : K.lookup g24 = some ⟨oc24, od24, .func (PySem.W.fnOf "_law_drawn" "_law_drawn" (defArgs s24) (defBody s24) (defScope s24) .none kV24 dc24 pm24 an24 cd24 ct24), sl24⟩) (c24 : PySem.W.codeIn K cd24 "_law_drawn" = true) (k24 : PySem.W.keepIn K (.ref g24) = true)
    (a25 : PySem.W.nsIn K mainGlobals "_law_lines" = some (some (.ref g25))) (l25 : K.lookup g25 = some ⟨oc25, od25, .func (PySem.W.fnOf "_law_lines" "_law_lines" (defArgs s25) (defBody s25) (defScope s25) .none kV25 dc25 pm25 an25 cd25 ct25), sl25⟩) (c25 : PySem.W.codeIn K cd25 "_law_lines" = true) (k25 : PySem.W.keepIn K (.ref g25) = true)
    (a26 : PySem.W.nsIn K mainGlobals "_law_same" = some (some (.ref g26))) (l26 : K.lookup g26 = some ⟨oc26, od26, .func (PySem.W.fnOf "_law_same" "_law_same" (defArgs s26) (defBody s26) (defScope s26) .none kV26 dc26 pm26 an26 cd26 ct26), sl26⟩) (c26 : PySem.W.codeIn K cd26 "_law_same" = true) (k26 : PySem.W.keepIn K (.ref g26) = true)
    (a27 : PySem.W.nsIn K mainGlobals "_law_mixed" = some (some (.ref g27))) (l27 : K.lookup g27 = some ⟨oc27, od27, .func (PySem.W.fnOf "_law_mixed" "_law_mixed" (defArgs s27) (defBody s27) (defScope s27) .none kV27 dc27 pm27 an27 cd27 ct27), sl27⟩) (c27 : PySem.W.codeIn K cd27 "_law_mixed" = true) (k27 : PySem.W.keepIn K (.ref g27) = true)
    (a28 : PySem.W.nsIn K mainGlobals "_law_listed" = some (some (.ref g28))) (l28 : K.lookup g28 = some ⟨oc28, od28, .func (PySem.W.fnOf "_law_listed" "_law_listed" (defArgs s28) (defBody s28) (defScope s28) .none kV28 dc28 pm28 an28 cd28 ct28), sl28⟩) (c28 : PySem.W.codeIn K cd28 "_law_listed" = true) (k28 : PySem.W.keepIn K (.ref g28) = true)
    (a29 : PySem.W.nsIn K mainGlobals "_law_any" = some (some (.ref g29))) (l29 : K.lookup g29 = some ⟨oc29, od29, .func (PySem.W.fnOf "_law_any" "_law_any" (defArgs s29) (defBody s29) (defScope s29) .none kV29 dc29 pm29 an29 cd29 ct29), sl29⟩) (c29 : PySem.W.codeIn K cd29 "_law_any" = true) (k29 : PySem.W.keepIn K (.ref g29) = true)
    (a30 : PySem.W.nsIn K mainGlobals "_law_great" = some (some (.ref g30))) (l30 : K.lookup g30 = some ⟨oc30, od30, .func (PySem.W.fnOf "_law_great" "_law_great" (defArgs s30) (defBody s30) (defScope s30) .none kV30 dc30 pm30 an30 cd30 ct30), sl30⟩) (c30 : PySem.W.codeIn K cd30 "_law_great" = true) (k30 : PySem.W.keepIn K (.ref g30) = true)
    (a31 : PySem.W.nsIn K mainGlobals "_law_makes" = some (some (.ref g31))) (l31 : K.lookup g31 = some ⟨oc31, od31, .func (PySem.W.fnOf "_law_makes" "_law_makes" (defArgs s31) (defBody s31) (defScope s31) .none kV31 dc31 pm31 an31 cd31 ct31), sl31⟩) (c31 : PySem.W.codeIn K cd31 "_law_makes" = true) (k31 : PySem.W.keepIn K (.ref g31) = true)
    (a32 : PySem.W.nsIn K mainGlobals "_law_drawn_ways" = some (some (.ref g32))) (l32 : K.lookup g32 = some ⟨oc32, od32, .func (PySem.W.fnOf "_law_drawn_ways" "_law_drawn_ways" (defArgs s32) (defBody s32) (defScope s32) .none kV32 dc32 pm32 an32 cd32 ct32), sl32⟩) (c32 : PySem.W.codeIn K cd32 "_law_drawn_ways" = true) (k32 : PySem.W.keepIn K (.ref g32) = true)
    (a33 : PySem.W.nsIn K mainGlobals "_law_near" = some (some (.ref g33))) (l33 : K.lookup g33 = some ⟨oc33, od33, .func (PySem.W.fnOf "_law_near" "_law_near" (defArgs s33) (defBody s33) (defScope s33) .none kV33 dc33 pm33 an33 cd33 ct33), sl33⟩) (c33 : PySem.W.codeIn K cd33 "_law_near" = true) (k33 : PySem.W.keepIn K (.ref g33) = true)
    (a34 : PySem.W.nsIn K mainGlobals "_law_wrong" = some (some (.ref g34))) (l34 : K.lookup g34 = some ⟨oc34, od34, .func (PySem.W.fnOf "_law_wrong" "_law_wrong" (defArgs s34) (defBody s34) (defScope s34) .none kV34 dc34 pm34 an34 cd34 ct34), sl34⟩) (c34 : PySem.W.codeIn K cd34 "_law_wrong" = true) (k34 : PySem.W.keepIn K (.ref g34) = true)
    (a35 : PySem.W.nsIn K mainGlobals "_law_small" = some (some (.ref g35))) (l35 : K.lookup g35 = some ⟨oc35, od35, .func (PySem.W.fnOf "_law_small" "_law_small" (defArgs s35) (defBody s35) (defScope s35) .none kV35 dc35 pm35 an35 cd35 ct35), sl35⟩) (c35 : PySem.W.codeIn K cd35 "_law_small" = true) (k35 : PySem.W.keepIn K (.ref g35) = true)
    (a36 : PySem.W.nsIn K mainGlobals "law" = some (some (.ref g36))) (l36 : K.lookup g36 = some ⟨oc36, od36, .func (PySem.W.fnOf "law" "law" (defArgs s36) (defBody s36) (defScope s36) .none kV36 dc36 pm36 an36 cd36 ct36), sl36⟩) (c36 : PySem.W.codeIn K cd36 "law" = true) (k36 : PySem.W.keepIn K (.ref g36) = true)
    {tv0 : Tok} (v0 : PySem.W.nsIn K mainGlobals "MOST_PAIRS" = some (some (.int 1600 tv0)))
    {tv1 : Tok} (v1 : PySem.W.nsIn K mainGlobals "MOST_PLACES" = some (some (.int 40 tv1)))
    (z0 : PySem.W.nsIn K mainGlobals "len" = some none) (z1 : PySem.W.nsIn K mainGlobals "int" = some none) (z2 : PySem.W.nsIn K mainGlobals "max" = some none) (z3 : PySem.W.nsIn K mainGlobals "min" = some none) (z4 : PySem.W.nsIn K mainGlobals "sum" = some none) (z5 : PySem.W.nsIn K mainGlobals "any" = some none) (z6 : PySem.W.nsIn K mainGlobals "all" = some none) (z7 : PySem.W.nsIn K mainGlobals "abs" = some none) (z8 : PySem.W.nsIn K mainGlobals "list" = some none) (z9 : PySem.W.nsIn K mainGlobals "sorted" = some none) (z10 : PySem.W.nsIn K mainGlobals "range" = some none) (z11 : PySem.W.nsIn K mainGlobals "enumerate" = some none) (z12 : PySem.W.nsIn K mainGlobals "zip" = some none) (z13 : PySem.W.nsIn K mainGlobals "isinstance" = some none) (z14 : PySem.W.nsIn K mainGlobals "bool" = some none) (z15 : PySem.W.nsIn K mainGlobals "str" = some none) (z16 : PySem.W.nsIn K mainGlobals "tuple" = some none) (z17 : PySem.W.nsIn K mainGlobals "repr" = some none) :
    ∃ fd : FuncData, (∀ (s : Shared) (v : Value), BindsTo s fd ⟨[v], []⟩ [("script", v)]) ∧ ∀ base : Heap, K.In base → base.Ns mainGlobals mg → FnG l.prog w K mg base (2 * 14) fa fd ["script"] (spF (callF tab 14) 36 1 K) := by
  have e := hfa.symm.trans (PySem.W.mg_of X G a36)
  cases e
  have F0 := fun_mk (st := s0) l0 c0 k0
  have d0 : Df K mg tx f0 _ _ s0 _ := ⟨PySem.W.mg_of X G a0, k0, F0.binds (ps := ["value"]) fun _ _ _ _ _ _ us hl => match us, hl with | [_], _ => rfl, F0, sc0, fun _ => by decide, m0⟩
  have F1 := fun_mk (st := s1) l1 c1 k1
  have d1 : Df K mg tx f1 _ _ s1 _ := ⟨PySem.W.mg_of X G a1, k1, F1.binds (ps := ["n", "value"]) fun _ _ _ _ _ _ us hl => match us, hl with | [_, _], _ => rfl, F1, sc1, fun _ => by decide, m1⟩
  have F2 := fun_mk (st := s2) l2 c2 k2
  have d2 : Df K mg tx f2 _ _ s2 _ := ⟨PySem.W.mg_of X G a2, k2, F2.binds (ps := ["n", "value"]) fun _ _ _ _ _ _ us hl => match us, hl with | [_, _], _ => rfl, F2, sc2, fun _ => by decide, m2⟩
  have F3 := fun_mk (st := s3) l3 c3 k3
  have d3 : Df K mg tx f3 _ _ s3 _ := ⟨PySem.W.mg_of X G a3, k3, F3.binds (ps := ["n", "value"]) fun _ _ _ _ _ _ us hl => match us, hl with | [_, _], _ => rfl, F3, sc3, fun _ => by decide, m3⟩
  have F4 := fun_mk (st := s4) l4 c4 k4
  have d4 : Df K mg tx f4 _ _ s4 _ := ⟨PySem.W.mg_of X G a4, k4, F4.binds (ps := ["n"]) fun _ _ _ _ _ _ us hl => match us, hl with | [_], _ => rfl, F4, sc4, fun _ => by decide, m4⟩
  have F5 := fun_mk (st := s5) l5 c5 k5
  have d5 : Df K mg tx f5 _ _ s5 _ := ⟨PySem.W.mg_of X G a5, k5, F5.binds (ps := ["n", "pairs"]) fun _ _ _ _ _ _ us hl => match us, hl with | [_, _], _ => rfl, F5, sc5, fun _ => by decide, m5⟩
  have F6 := fun_mk (st := s6) l6 c6 k6
  have d6 : Df K mg tx f6 _ _ s6 _ := ⟨PySem.W.mg_of X G a6, k6, F6.binds (ps := ["n", "pairs"]) fun _ _ _ _ _ _ us hl => match us, hl with | [_, _], _ => rfl, F6, sc6, fun _ => by decide, m6⟩
  have F7 := fun_mk (st := s7) l7 c7 k7
  have d7 : Df K mg tx f7 _ _ s7 _ := ⟨PySem.W.mg_of X G a7, k7, F7.binds (ps := ["n", "pairs"]) fun _ _ _ _ _ _ us hl => match us, hl with | [_, _], _ => rfl, F7, sc7, fun _ => by decide, m7⟩
  have F8 := fun_mk (st := s8) l8 c8 k8
  have d8 : Df K mg tx f8 _ _ s8 _ := ⟨PySem.W.mg_of X G a8, k8, F8.binds (ps := ["rows"]) fun _ _ _ _ _ _ us hl => match us, hl with | [_], _ => rfl, F8, sc8, fun _ => by decide, m8⟩
  have F9 := fun_mk (st := s9) l9 c9 k9
  have d9 : Df K mg tx f9 _ _ s9 _ := ⟨PySem.W.mg_of X G a9, k9, F9.binds (ps := ["n", "lines"]) fun _ _ _ _ _ _ us hl => match us, hl with | [_, _], _ => rfl, F9, sc9, fun _ => by decide, m9⟩
  have F10 := fun_mk (st := s10) l10 c10 k10
  have d10 : Df K mg tx f10 _ _ s10 _ := ⟨PySem.W.mg_of X G a10, k10, F10.binds (ps := ["n", "lines"]) fun _ _ _ _ _ _ us hl => match us, hl with | [_, _], _ => rfl, F10, sc10, fun _ => by decide, m10⟩
  have F11 := fun_mk (st := s11) l11 c11 k11
  have d11 : Df K mg tx f11 _ _ s11 _ := ⟨PySem.W.mg_of X G a11, k11, F11.binds (ps := ["rows"]) fun _ _ _ _ _ _ us hl => match us, hl with | [_], _ => rfl, F11, sc11, fun _ => by decide, m11⟩
  have F12 := fun_mk (st := s12) l12 c12 k12
  have d12 : Df K mg tx f12 _ _ s12 _ := ⟨PySem.W.mg_of X G a12, k12, F12.binds (ps := ["rows"]) fun _ _ _ _ _ _ us hl => match us, hl with | [_], _ => rfl, F12, sc12, fun _ => by decide, m12⟩
  have F13 := fun_mk (st := s13) l13 c13 k13
  have d13 : Df K mg tx f13 _ _ s13 _ := ⟨PySem.W.mg_of X G a13, k13, F13.binds (ps := ["n", "pairs"]) fun _ _ _ _ _ _ us hl => match us, hl with | [_, _], _ => rfl, F13, sc13, fun _ => by decide, m13⟩
  have F14 := fun_mk (st := s14) l14 c14 k14
  have d14 : Df K mg tx f14 _ _ s14 _ := ⟨PySem.W.mg_of X G a14, k14, F14.binds (ps := ["n", "lines", "value"]) fun _ _ _ _ _ _ us hl => match us, hl with | [_, _, _], _ => rfl, F14, sc14, fun _ => by decide, m14⟩
  have F15 := fun_mk (st := s15) l15 c15 k15
  have d15 : Df K mg tx f15 _ _ s15 _ := ⟨PySem.W.mg_of X G a15, k15, F15.binds (ps := ["script"]) fun _ _ _ _ _ _ us hl => match us, hl with | [_], _ => rfl, F15, sc15, fun _ => by decide, m15⟩
  have F16 := fun_mk (st := s16) l16 c16 k16
  have d16 : Df K mg tx f16 _ _ s16 _ := ⟨PySem.W.mg_of X G a16, k16, F16.binds (ps := ["script"]) fun _ _ _ _ _ _ us hl => match us, hl with | [_], _ => rfl, F16, sc16, fun _ => by decide, m16⟩
  have F17 := fun_mk (st := s17) l17 c17 k17
  have d17 : Df K mg tx f17 _ _ s17 _ := ⟨PySem.W.mg_of X G a17, k17, F17.binds (ps := ["pool", "many"]) fun _ _ _ _ _ _ us hl => match us, hl with | [_, _], _ => rfl, F17, sc17, fun _ => by decide, m17⟩
  have F18 := fun_mk (st := s18) l18 c18 k18
  have d18 : Df K mg tx f18 _ _ s18 _ := ⟨PySem.W.mg_of X G a18, k18, F18.binds (ps := ["pool", "n"]) fun _ _ _ _ _ _ us hl => match us, hl with | [_, _], _ => rfl, F18, sc18, fun _ => by decide, m18⟩
  have F19 := fun_mk (st := s19) l19 c19 k19
  have d19 : Df K mg tx f19 _ _ s19 _ := ⟨PySem.W.mg_of X G a19, k19, F19.binds (ps := ["n", "pairs"]) fun _ _ _ _ _ _ us hl => match us, hl with | [_, _], _ => rfl, F19, sc19, fun _ => by decide, m19⟩
  have F20 := fun_mk (st := s20) l20 c20 k20
  have d20 : Df K mg tx f20 _ _ s20 _ := ⟨PySem.W.mg_of X G a20, k20, F20.binds (ps := ["rows"]) fun _ _ _ _ _ _ us hl => match us, hl with | [_], _ => rfl, F20, sc20, fun _ => by decide, m20⟩
  have F21 := fun_mk (st := s21) l21 c21 k21
  have d21 : Df K mg tx f21 _ _ s21 _ := ⟨PySem.W.mg_of X G a21, k21, F21.binds (ps := ["pool", "n", "pairs"]) fun _ _ _ _ _ _ us hl => match us, hl with | [_, _, _], _ => rfl, F21, sc21, fun _ => by decide, m21⟩
  have F22 := fun_mk (st := s22) l22 c22 k22
  have d22 : Df K mg tx f22 _ _ s22 _ := ⟨PySem.W.mg_of X G a22, k22, F22.binds (ps := ["pool"]) fun _ _ _ _ _ _ us hl => match us, hl with | [_], _ => rfl, F22, sc22, fun _ => by decide, m22⟩
  have F23 := fun_mk (st := s23) l23 c23 k23
  have d23 : Df K mg tx f23 _ _ s23 _ := ⟨PySem.W.mg_of X G a23, k23, F23.binds (ps := ["pool", "deep"]) fun _ _ _ _ _ _ us hl => match us, hl with | [_, _], _ => rfl, F23, sc23, fun _ => by decide, m23⟩
  have F24 := fun_mk (st := s24) l24 c24 k24
  have d24 : Df K mg tx f24 _ _ s24 _ := ⟨PySem.W.mg_of X G a24, k24, F24.binds (ps := ["pool", "n"]) fun _ _ _ _ _ _ us hl => match us, hl with | [_, _], _ => rfl, F24, sc24, fun _ => by decide, m24⟩
  have F25 := fun_mk (st := s25) l25 c25 k25
  have d25 : Df K mg tx f25 _ _ s25 _ := ⟨PySem.W.mg_of X G a25, k25, F25.binds (ps := ["rows"]) fun _ _ _ _ _ _ us hl => match us, hl with | [_], _ => rfl, F25, sc25, fun _ => by decide, m25⟩
  have F26 := fun_mk (st := s26) l26 c26 k26
  have d26 : Df K mg tx f26 _ _ s26 _ := ⟨PySem.W.mg_of X G a26, k26, F26.binds (ps := ["one", "other"]) fun _ _ _ _ _ _ us hl => match us, hl with | [_, _], _ => rfl, F26, sc26, fun _ => by decide, m26⟩
  have F27 := fun_mk (st := s27) l27 c27 k27
  have d27 : Df K mg tx f27 _ _ s27 _ := ⟨PySem.W.mg_of X G a27, k27, F27.binds (ps := ["pool", "rows"]) fun _ _ _ _ _ _ us hl => match us, hl with | [_, _], _ => rfl, F27, sc27, fun _ => by decide, m27⟩
  have F28 := fun_mk (st := s28) l28 c28 k28
  have d28 : Df K mg tx f28 _ _ s28 _ := ⟨PySem.W.mg_of X G a28, k28, F28.binds (ps := ["pool", "pairs"]) fun _ _ _ _ _ _ us hl => match us, hl with | [_, _], _ => rfl, F28, sc28, fun _ => by decide, m28⟩
  have F29 := fun_mk (st := s29) l29 c29 k29
  have d29 : Df K mg tx f29 _ _ s29 _ := ⟨PySem.W.mg_of X G a29, k29, F29.binds (ps := ["pool"]) fun _ _ _ _ _ _ us hl => match us, hl with | [_], _ => rfl, F29, sc29, fun _ => by decide, m29⟩
  have F30 := fun_mk (st := s30) l30 c30 k30
  have d30 : Df K mg tx f30 _ _ s30 _ := ⟨PySem.W.mg_of X G a30, k30, F30.binds (ps := ["pool"]) fun _ _ _ _ _ _ us hl => match us, hl with | [_], _ => rfl, F30, sc30, fun _ => by decide, m30⟩
  have F31 := fun_mk (st := s31) l31 c31 k31
  have d31 : Df K mg tx f31 _ _ s31 _ := ⟨PySem.W.mg_of X G a31, k31, F31.binds (ps := ["n", "lines", "pairs"]) fun _ _ _ _ _ _ us hl => match us, hl with | [_, _, _], _ => rfl, F31, sc31, fun _ => by decide, m31⟩
  have F32 := fun_mk (st := s32) l32 c32 k32
  have d32 : Df K mg tx f32 _ _ s32 _ := ⟨PySem.W.mg_of X G a32, k32, F32.binds (ps := ["pool", "lines"]) fun _ _ _ _ _ _ us hl => match us, hl with | [_, _], _ => rfl, F32, sc32, fun _ => by decide, m32⟩
  have F33 := fun_mk (st := s33) l33 c33 k33
  have d33 : Df K mg tx f33 _ _ s33 _ := ⟨PySem.W.mg_of X G a33, k33, F33.binds (ps := ["pool", "n", "pairs", "due"]) fun _ _ _ _ _ _ us hl => match us, hl with | [_, _, _, _], _ => rfl, F33, sc33, fun _ => by decide, m33⟩
  have F34 := fun_mk (st := s34) l34 c34 k34
  have d34 : Df K mg tx f34 _ _ s34 _ := ⟨PySem.W.mg_of X G a34, k34, F34.binds (ps := ["pool", "n", "pairs"]) fun _ _ _ _ _ _ us hl => match us, hl with | [_, _, _], _ => rfl, F34, sc34, fun _ => by decide, m34⟩
  have F35 := fun_mk (st := s35) l35 c35 k35
  have d35 : Df K mg tx f35 _ _ s35 _ := ⟨PySem.W.mg_of X G a35, k35, F35.binds (ps := ["pool"]) fun _ _ _ _ _ _ us hl => match us, hl with | [_], _ => rfl, F35, sc35, fun _ => by decide, m35⟩
  have F36 := fun_mk (st := s36) l36 c36 k36
  have d36 : Df K mg tx f36 _ _ s36 _ := ⟨PySem.W.mg_of X G a36, k36, F36.binds (ps := ["script"]) fun _ _ _ _ _ _ us hl => match us, hl with | [_], _ => rfl, F36, sc36, fun _ => by decide, m36⟩
  have T : Tx K mg tab tx := by
    refine ⟨rfl, fun i fn hi => ?_, fun x i hx => ?_, fun x hx => ?_⟩
    · match i, hi with
      | 0, hi => cases hi; exact ⟨_, _, _, _, d0⟩
      | 1, hi => cases hi; exact ⟨_, _, _, _, d1⟩
      | 2, hi => cases hi; exact ⟨_, _, _, _, d2⟩
      | 3, hi => cases hi; exact ⟨_, _, _, _, d3⟩
      | 4, hi => cases hi; exact ⟨_, _, _, _, d4⟩
      | 5, hi => cases hi; exact ⟨_, _, _, _, d5⟩
      | 6, hi => cases hi; exact ⟨_, _, _, _, d6⟩
      | 7, hi => cases hi; exact ⟨_, _, _, _, d7⟩
      | 8, hi => cases hi; exact ⟨_, _, _, _, d8⟩
      | 9, hi => cases hi; exact ⟨_, _, _, _, d9⟩
      | 10, hi => cases hi; exact ⟨_, _, _, _, d10⟩
      | 11, hi => cases hi; exact ⟨_, _, _, _, d11⟩
      | 12, hi => cases hi; exact ⟨_, _, _, _, d12⟩
      | 13, hi => cases hi; exact ⟨_, _, _, _, d13⟩
      | 14, hi => cases hi; exact ⟨_, _, _, _, d14⟩
      | 15, hi => cases hi; exact ⟨_, _, _, _, d15⟩
      | 16, hi => cases hi; exact ⟨_, _, _, _, d16⟩
      | 17, hi => cases hi; exact ⟨_, _, _, _, d17⟩
      | 18, hi => cases hi; exact ⟨_, _, _, _, d18⟩
      | 19, hi => cases hi; exact ⟨_, _, _, _, d19⟩
      | 20, hi => cases hi; exact ⟨_, _, _, _, d20⟩
      | 21, hi => cases hi; exact ⟨_, _, _, _, d21⟩
      | 22, hi => cases hi; exact ⟨_, _, _, _, d22⟩
      | 23, hi => cases hi; exact ⟨_, _, _, _, d23⟩
      | 24, hi => cases hi; exact ⟨_, _, _, _, d24⟩
      | 25, hi => cases hi; exact ⟨_, _, _, _, d25⟩
      | 26, hi => cases hi; exact ⟨_, _, _, _, d26⟩
      | 27, hi => cases hi; exact ⟨_, _, _, _, d27⟩
      | 28, hi => cases hi; exact ⟨_, _, _, _, d28⟩
      | 29, hi => cases hi; exact ⟨_, _, _, _, d29⟩
      | 30, hi => cases hi; exact ⟨_, _, _, _, d30⟩
      | 31, hi => cases hi; exact ⟨_, _, _, _, d31⟩
      | 32, hi => cases hi; exact ⟨_, _, _, _, d32⟩
      | 33, hi => cases hi; exact ⟨_, _, _, _, d33⟩
      | 34, hi => cases hi; exact ⟨_, _, _, _, d34⟩
      | 35, hi => cases hi; exact ⟨_, _, _, _, d35⟩
      | 36, hi => cases hi; exact ⟨_, _, _, _, d36⟩
      | n + 37, hi => cases hi
    · simp only [tx, List.mem_cons, List.not_mem_nil, or_false, Prod.mk.injEq] at hx
      rcases hx with ⟨rfl, rfl⟩ | ⟨rfl, rfl⟩
      · exact ⟨_, PySem.W.mg_of X G v0⟩
      · exact ⟨_, PySem.W.mg_of X G v1⟩
    · simp only [List.mem_cons, List.not_mem_nil, or_false] at hx
      rcases hx with rfl | rfl | rfl | rfl | rfl | rfl | rfl | rfl | rfl | rfl | rfl | rfl | rfl | rfl | rfl | rfl | rfl | rfl
      · exact PySem.W.mg_none_of X G z0
      · exact PySem.W.mg_none_of X G z1
      · exact PySem.W.mg_none_of X G z2
      · exact PySem.W.mg_none_of X G z3
      · exact PySem.W.mg_none_of X G z4
      · exact PySem.W.mg_none_of X G z5
      · exact PySem.W.mg_none_of X G z6
      · exact PySem.W.mg_none_of X G z7
      · exact PySem.W.mg_none_of X G z8
      · exact PySem.W.mg_none_of X G z9
      · exact PySem.W.mg_none_of X G z10
      · exact PySem.W.mg_none_of X G z11
      · exact PySem.W.mg_none_of X G z12
      · exact PySem.W.mg_none_of X G z13
      · exact PySem.W.mg_none_of X G z14
      · exact PySem.W.mg_none_of X G z15
      · exact PySem.W.mg_none_of X G z16
      · exact PySem.W.mg_none_of X G z17
  exact ⟨_, fun s v => .of_eq rfl, fun base _ _ => fn_ok T 14 36 f36 rfl d36⟩
end K04
open PySem PySem.W PyProof.Rows
set_option maxHeartbeats 0 in
theorem PySem.Challenge.cw_spanorder_k04_whole_orders_on_a_graph_holds : PySem.Challenge.rw_spanorder_k04_whole_orders_on_a_graph.Holds := by
  w_on; o_law; k_head; (case hw => w_witness2)
  k_fill
  refine Mi.walkG (l := PySem.Challenge.rw_spanorder_k04_whole_orders_on_a_graph) (n := 63) (k := 2 * 14) (x := "script") (sp := fun w => Mi.spF (Mi.callF K04.tab 14) 36 1 _) rfl (by decide) rfl ⟨rfl, by decide, by decide⟩ (fun w h Y => PySem.W.kIn_of Y) ?F (fun _ _ a nums hl hS => Mi.law_sp K04.plain hl hS)
  case F =>
    intro w mg fa h KX G hmg
    refine' K04.all_mk KX G hmg ?a0 ?l0 ?c0 ?k0 ?a1 ?l1 ?c1 ?k1 ?a2 ?l2 ?c2 ?k2 ?a3 ?l3 ?c3 ?k3 ?a4 ?l4 ?c4 ?k4 ?a5 ?l5 ?c5 ?k5 ?a6 ?l6 ?c6 ?k6 ?a7 ?l7 ?c7 ?k7 ?a8 ?l8 ?c8 ?k8 ?a9 ?l9 ?c9 ?k9 ?a10 ?l10 ?c10 ?k10 ?a11 ?l11 ?c11 ?k11 ?a12 ?l12 ?c12 ?k12 ?a13 ?l13 ?c13 ?k13 ?a14 ?l14 ?c14 ?k14 ?a15 ?l15 ?c15 ?k15 ?a16 ?l16 ?c16 ?k16 ?a17 ?l17 ?c17 ?k17 ?a18 ?l18 ?c18 ?k18 ?a19 ?l19 ?c19 ?k19 ?a20 ?l20 ?c20 ?k20 ?a21 ?l21 ?c21 ?k21 ?a22 ?l22 ?c22 ?k22 ?a23 ?l23 ?c23 ?k23 ?a24 ?l24 ?c24 ?k24 ?a25 ?l25 ?c25 ?k25 ?a26 ?l26 ?c26 ?k26 ?a27 ?l27 ?c27 ?k27 ?a28 ?l28 ?c28 ?k28 ?a29 ?l29 ?c29 ?k29 ?a30 ?l30 ?c30 ?k30 ?a31 ?l31 ?c31 ?k31 ?a32 ?l32 ?c32 ?k32 ?a33 ?l33 ?c33 ?k33 ?a34 ?l34 ?c34 ?k34 ?a35 ?l35 ?c35 ?k35 ?a36 ?l36 ?c36 ?k36 ?v0 ?v1 ?z0 ?z1 ?z2 ?z3 ?z4 ?z5 ?z6 ?z7 ?z8 ?z9 ?z10 ?z11 ?z12 ?z13 ?z14 ?z15 ?z16 ?z17
    (case a0 => k_is); (case l0 => k_is); (case c0 => k_is); (case k0 => k_is); (case a1 => k_is); (case l1 => k_is); (case c1 => k_is); (case k1 => k_is)
    (case a2 => k_is); (case l2 => k_is); (case c2 => k_is); (case k2 => k_is); (case a3 => k_is); (case l3 => k_is); (case c3 => k_is); (case k3 => k_is)
    (case a4 => k_is); (case l4 => k_is); (case c4 => k_is); (case k4 => k_is); (case a5 => k_is); (case l5 => k_is); (case c5 => k_is); (case k5 => k_is)
    (case a6 => k_is); (case l6 => k_is); (case c6 => k_is); (case k6 => k_is); (case a7 => k_is); (case l7 => k_is); (case c7 => k_is); (case k7 => k_is)
    (case a8 => k_is); (case l8 => k_is); (case c8 => k_is); (case k8 => k_is); (case a9 => k_is); (case l9 => k_is); (case c9 => k_is); (case k9 => k_is)
    (case a10 => k_is); (case l10 => k_is); (case c10 => k_is); (case k10 => k_is); (case a11 => k_is); (case l11 => k_is); (case c11 => k_is); (case k11 => k_is)
    (case a12 => k_is); (case l12 => k_is); (case c12 => k_is); (case k12 => k_is); (case a13 => k_is); (case l13 => k_is); (case c13 => k_is); (case k13 => k_is)
    (case a14 => k_is); (case l14 => k_is); (case c14 => k_is); (case k14 => k_is); (case a15 => k_is); (case l15 => k_is); (case c15 => k_is); (case k15 => k_is)
    (case a16 => k_is); (case l16 => k_is); (case c16 => k_is); (case k16 => k_is); (case a17 => k_is); (case l17 => k_is); (case c17 => k_is); (case k17 => k_is)
    (case a18 => k_is); (case l18 => k_is); (case c18 => k_is); (case k18 => k_is); (case a19 => k_is); (case l19 => k_is); (case c19 => k_is); (case k19 => k_is)
    (case a20 => k_is); (case l20 => k_is); (case c20 => k_is); (case k20 => k_is); (case a21 => k_is); (case l21 => k_is); (case c21 => k_is); (case k21 => k_is)
    (case a22 => k_is); (case l22 => k_is); (case c22 => k_is); (case k22 => k_is); (case a23 => k_is); (case l23 => k_is); (case c23 => k_is); (case k23 => k_is)
    (case a24 => k_is); (case l24 => k_is); (case c24 => k_is); (case k24 => k_is); (case a25 => k_is); (case l25 => k_is); (case c25 => k_is); (case k25 => k_is)
    (case a26 => k_is); (case l26 => k_is); (case c26 => k_is); (case k26 => k_is); (case a27 => k_is); (case l27 => k_is); (case c27 => k_is); (case k27 => k_is)
    (case a28 => k_is); (case l28 => k_is); (case c28 => k_is); (case k28 => k_is); (case a29 => k_is); (case l29 => k_is); (case c29 => k_is); (case k29 => k_is)
    (case a30 => k_is); (case l30 => k_is); (case c30 => k_is); (case k30 => k_is); (case a31 => k_is); (case l31 => k_is); (case c31 => k_is); (case k31 => k_is)
    (case a32 => k_is); (case l32 => k_is); (case c32 => k_is); (case k32 => k_is); (case a33 => k_is); (case l33 => k_is); (case c33 => k_is); (case k33 => k_is)
    (case a34 => k_is); (case l34 => k_is); (case c34 => k_is); (case k34 => k_is); (case a35 => k_is); (case l35 => k_is); (case c35 => k_is); (case k35 => k_is)
    (case a36 => k_is); (case l36 => k_is); (case c36 => k_is); (case k36 => k_is); (case v0 => k_is); (case v1 => k_is); (case z0 => k_is); (case z1 => k_is)
    (case z2 => k_is); (case z3 => k_is); (case z4 => k_is); (case z5 => k_is); (case z6 => k_is); (case z7 => k_is); (case z8 => k_is); (case z9 => k_is)
    (case z10 => k_is); (case z11 => k_is); (case z12 => k_is); (case z13 => k_is); (case z14 => k_is); (case z15 => k_is); (case z16 => k_is); (case z17 => k_is)
