import PyProof.Rows.All
import KE.KEqDict
import KE.KIntText
import PySem.Challenge.RW_nn0411_01
set_option Elab.async false
set_option backward.match.sparseCases false
set_option genInjectivity false
set_option genSizeOf false
set_option maxRecDepth 100000
set_option maxHeartbeats 8000000
set_option linter.all false
open PySem PySem.W PyProof.Rows
namespace Mine
section
noncomputable abbrev S := List Nat
structure Row where
  xs : List Int
  tab : Int → Int → Option Int
inductive V where
  | none
  | bool (b : Bool)
  | int (i : Int)
  | str (s : S)
  | ref (i : Nat)
  | glb (a : Nat)
  | typ (k : Nat)
  | bi (k : Nat)
  | rng (a b : Int)
  | tup (vs : List V)
  | rol (vs : List V)
  | rin (c : Nat) (fs : List (Nat × V))
  | edc
  | row (r : Row)
inductive O where
  | inst (c : Nat) (d : Nat)
  | flds (fs : List (Nat × V))
  | list (vs : List V)
  | dict (kvs : List (S × V))
  | cell (v : Option V)
mutual
inductive E where
  | cn
  | cb (b : Bool)
  | ci (i : Int)
  | cs (s : S)
  | loc (x : Nat)
  | cel (x : Nat)
  | glob (x : Nat)
  | attr (o : E) (a : Nat)
  | mcall (o : E) (m : Nat) (args : List E)
  | call (x : Nat) (args : List E)
  | bin (op : Operator) (l r : E)
  | neg (i : Int)
  | mulL (a r : E)
  | not (e : E)
  | cmp (op : CmpOp) (l r : E)
  | bop (op : BoolOp) (es : List E)
  | ite (c a b : E)
  | sub (o i : E)
  | slc (o : E) (lo hi : Option E)
  | lst (es : List E)
  | tpl (es : List E)
  | dct
  | comp (elt : E) (t : Tgt) (it : E) (cond : Option E)
  | raw
inductive Tgt where
  | loc (x : Nat)
  | cel (x : Nat)
  | attr (o : E) (a : Nat)
  | sub (o i : E)
  | tup (xs : List Nat)
end
inductive St where
  | asg (t : Tgt) (e : E)
  | expr (e : E)
  | ret (e : E)
  | retn
  | ifs (c : E) (a b : List St)
  | whl (c : E) (b : List St)
  | fors (t : Tgt) (e : E) (b : List St)
  | raw (k : Nat)
end
section
noncomputable def toStr (s : S) : Str := ⟨s.toArray⟩
inductive Tr (α : Type) where
  | lf
  | nd (k : Nat) (v : α) (l r : Tr α)
noncomputable def Tr.get {α : Type} : Tr α → Nat → Option α
  | .lf, _ => none
  | .nd k v l r, x => match Nat.beq x k with
    | true => some v
    | false => match Nat.blt x k with
      | true => l.get x
      | false => r.get x
inductive T where
  | nil
  | node (o : Option O) (l r : T)
noncomputable def T.top : T → Option O
  | .nil => none
  | .node o _ _ => o
noncomputable def T.left : T → T
  | .nil => .nil
  | .node _ l _ => l
noncomputable def T.right : T → T
  | .nil => .nil
  | .node _ _ r => r
noncomputable def way : Nat → Nat → List Bool
  | 0, _ => []
  | f + 1, i => match Nat.beq i 0 with
    | true => []
    | false => match Nat.beq (i % 2) 1 with
      | true => true :: way f (i / 2)
      | false => false :: way f (i / 2 - 1)
noncomputable def T.at : List Bool → T → Option O
  | [], t => t.top
  | b :: p, t => match b with
    | true => T.at p t.left
    | false => T.at p t.right
noncomputable def T.put (o : O) : List Bool → T → T
  | [], t => .node (some o) t.left t.right
  | b :: p, t => match b with
    | true => .node t.top (T.put o p t.left) t.right
    | false => .node t.top t.left (T.put o p t.right)
structure Hp where
  n : Nat
  t : T
noncomputable def Hp.get (h : Hp) (i : Nat) : Option O := h.t.at (way 20 i)
noncomputable def Hp.set (h : Hp) (i : Nat) (o : O) : Hp := ⟨h.n, h.t.put o (way 20 i)⟩
noncomputable def Hp.new (h : Hp) (o : O) : Option (Nat × Hp) := match Nat.blt h.n 1000000 with
  | true => some (h.n, ⟨h.n + 1, h.t.put o (way 20 h.n)⟩)
  | false => none
structure Fm where
  L : List (Nat × V)
  C : List (Nat × Nat)
inductive Fl where
  | next
  | ret (v : V)
noncomputable def getL : List (Nat × V) → Nat → Option V
  | [], _ => none
  | (y, v) :: r, x => match Nat.beq y x with
    | true => some v
    | false => getL r x
noncomputable def setL : List (Nat × V) → Nat → V → List (Nat × V)
  | [], x, v => [(x, v)]
  | (y, u) :: r, x, v => match Nat.beq y x with
    | true => (y, v) :: r
    | false => (y, u) :: setL r x v
noncomputable def getC : List (Nat × Nat) → Nat → Option Nat
  | [], _ => none
  | (y, v) :: r, x => match Nat.beq y x with
    | true => some v
    | false => getC r x
noncomputable def getM : List (Nat × Nat) → Nat → Option Nat := getC
noncomputable def seqB : S → S → Bool
  | [], [] => true
  | a :: r, b :: t => match Nat.beq a b with
    | true => seqB r t
    | false => false
  | [], _ :: _ => false
  | _ :: _, [] => false
noncomputable def getD : List (S × V) → S → Option V
  | [], _ => none
  | (y, v) :: r, x => match seqB y x with
    | true => some v
    | false => getD r x
noncomputable def setD (l : List (S × V)) (x : S) (v : V) : List (S × V) := match l.any fun p => seqB p.1 x with
  | true => l.map fun p => match seqB p.1 x with
    | true => (p.1, v)
    | false => p
  | false => l ++ [(x, v)]
noncomputable def hasC : S → Nat → Bool
  | [], _ => false
  | a :: r, c => match Nat.beq a c with
    | true => true
    | false => hasC r c
noncomputable def strsOf : List V → Option (List S)
  | [] => some []
  | .str s :: r => match strsOf r with
    | some l => some (s :: l)
    | none => none
  | _ :: _ => none
noncomputable def anyS : List S → S → Bool
  | [], _ => false
  | a :: r, s => match seqB a s with
    | true => true
    | false => anyS r s
noncomputable def hasS (vs : List V) (s : S) : Option Bool := match strsOf vs with
  | some l => some (anyS l s)
  | none => none
noncomputable def lim : Nat := 100000
noncomputable def short (n : Nat) : Bool := Nat.blt n lim
noncomputable def small (i : Int) : Bool := match i with
  | .ofNat n => Nat.blt n 1000000000000
  | .negSucc n => Nat.blt n 1000000000000
noncomputable def place (n : Nat) (i : Int) : Option Nat := match i with
  | .ofNat k => match Nat.blt k n && short k with
    | true => some k
    | false => none
  | .negSucc _ => none
noncomputable def nth : List V → Nat → Option V
  | [], _ => none
  | v :: r, k => match k with
    | 0 => some v
    | k + 1 => nth r k
noncomputable def setN : List V → Nat → V → List V
  | [], _, _ => []
  | u :: r, k, v => match k with
    | 0 => v :: r
    | k + 1 => u :: setN r k v
noncomputable def clipN (m : Nat) (dflt : Nat) : Option Int → Nat
  | none => dflt
  | some i => (max 0 (min (if i < 0 then i + m else i) (m : Int))).toNat
noncomputable def bound (n : Nat) (d : Nat) : Option V → Option Nat
  | none => some d
  | some v => match v with
    | .int i => some (clipN n d (some i))
    | _ => none
noncomputable def cut (s : S) (l u : Nat) : S := (s.drop l).take (u - l)
noncomputable def joinL (sep : S) : List S → S
  | [] => []
  | [x] => x
  | x :: r => x ++ sep ++ joinL sep r
noncomputable def preB (y l : S) : Bool := seqB (l.take y.length) y
noncomputable def fdLen (y : S) : S → Option Nat
  | [] => none
  | c :: r => match preB y (c :: r) with
    | true => some 0
    | false => match fdLen y r with
      | some k => some (k + 1)
      | none => none
noncomputable def fdAt (k : Nat) : Option Nat → Int
  | some j => Int.ofNat (k + j)
  | none => -1
noncomputable def stripA (s : S) : S := (Txt.strip (toStr s)).cps.toList
noncomputable def splitA (c : Nat) : S → S → List S
  | [], a => [a.reverse]
  | x :: r, a => match Nat.beq x c with
    | true => a.reverse :: splitA c r []
    | false => splitA c r (x :: a)
noncomputable def mapO (g : V → Option V) : List V → Option (List V)
  | [] => some []
  | v :: r => match g v with
    | some u => match mapO g r with
      | some l => some (u :: l)
      | none => none
    | none => none
noncomputable def mapF (g : V → Option V) : List (Nat × V) → Option (List (Nat × V))
  | [] => some []
  | (x, v) :: r => match g v with
    | some u => match mapF g r with
      | some l => some ((x, u) :: l)
      | none => none
    | none => none
noncomputable def frz : Nat → Hp → V → Option V
  | 0, _, _ => none
  | f + 1, h, v => match v with
    | .ref i => match h.get i with
      | some (.list vs) => match mapO (frz f h) vs with
        | some us => some (.rol us)
        | none => none
      | some (.dict []) => some .edc
      | some (.inst c d) => match h.get d with
        | some (.flds fs) => match mapF (frz f h) fs with
          | some us => some (.rin c us)
          | none => none
        | _ => none
      | _ => none
    | .tup vs => match mapO (frz f h) vs with
      | some us => some (.tup us)
      | none => none
    | .rol vs => match mapO (frz f h) vs with
      | some us => some (.rol us)
      | none => none
    | .rin c fs => match mapF (frz f h) fs with
      | some us => some (.rin c us)
      | none => none
    | v => some v
noncomputable def okS : S → Bool
  | [] => true
  | c :: r => match Nat.blt c 1114112 with
    | true => okS r
    | false => false
mutual
noncomputable def toPy : V → PyData
  | .int i => .int i
  | .str s => .str (toStr s)
  | .tup vs => .tuple (toPys vs)
  | .rol vs => .list (toPys vs)
  | _ => .none
noncomputable def toPys : List V → List PyData
  | [] => []
  | v :: r => toPy v :: toPys r
end
noncomputable def eqV (a b : V) : Bool := PyData.eqv (toPy a) (toPy b)
mutual
noncomputable def dataV : V → Bool
  | .none => true
  | .int _ => true
  | .str s => okS s
  | .tup a => dataVs a
  | .rol a => dataVs a
  | _ => false
noncomputable def dataVs : List V → Bool
  | [] => true
  | a :: r => dataV a && dataVs r
end
noncomputable def isN (a : V) : Bool := match a with
  | .none => true
  | _ => false
noncomputable def compare (h : Hp) (op : CmpOp) (a b : V) : Option Bool := match op with
  | .Eq => match a with
    | .str a => match b with
      | .str b => some (seqB a b)
      | _ => none
    | .int a => match b with
      | .int b => some (decide (a = b))
      | _ => none
    | _ => none
  | .NotEq => match a with
    | .str a => match b with
      | .str b => some (!seqB a b)
      | _ => none
    | .int a => match b with
      | .int b => some (!decide (a = b))
      | _ => none
    | _ => none
  | .Lt => match a with
    | .int a => match b with
      | .int b => some (decide (a < b))
      | _ => none
    | _ => none
  | .LtE => match a with
    | .int a => match b with
      | .int b => some (decide (a ≤ b))
      | _ => none
    | _ => none
  | .Gt => match a with
    | .int a => match b with
      | .int b => some (decide (b < a))
      | _ => none
    | _ => none
  | .GtE => match a with
    | .int a => match b with
      | .int b => some (decide (b ≤ a))
      | _ => none
    | _ => none
  | .Is => match b with
    | .none => some (isN a)
    | _ => none
  | .IsNot => match b with
    | .none => some (!isN a)
    | _ => none
  | .In => match a with
    | .str a => match b with
      | .tup b => hasS b a
      | .str b => match a with
        | [] => none
        | c :: r => match r with
          | [] => some (hasC b c)
          | _ :: _ => none
      | .ref i => match h.get i with
        | some (.list b) => hasS b a
        | some (.dict kvs) => some (getD kvs a).isSome
        | _ => none
      | _ => none
    | _ => none
  | .NotIn => match a with
    | .str a => match b with
      | .tup b => (hasS b a).map (!·)
      | .str b => match a with
        | [] => none
        | c :: r => match r with
          | [] => some (!hasC b c)
          | _ :: _ => none
      | .ref i => match h.get i with
        | some (.list b) => (hasS b a).map (!·)
        | some (.dict kvs) => some (!(getD kvs a).isSome)
        | _ => none
      | _ => none
    | _ => none
noncomputable def deepEq (h : Hp) (op : CmpOp) (a b : V) : Option Bool := match frz 12 h a with
  | some x => match frz 12 h b with
    | some y => match dataV x && dataV y with
      | true => match op with
        | .Eq => some (eqV x y)
        | .NotEq => some (!eqV x y)
        | _ => none
      | false => none
    | none => none
  | none => none
noncomputable def isSeq : V → Bool
  | .tup _ => true
  | .rol _ => true
  | .ref _ => true
  | _ => false
noncomputable def noD (h : Hp) : V → Bool
  | .edc => true
  | .ref i => match h.get i with
    | some o => match o with
      | .dict kvs => kvs.isEmpty
      | _ => false
    | none => false
  | _ => false
noncomputable def cmpG (sd : Nat → Option (List (S × V))) (op : CmpOp) (a : V) (g : Nat) : Option Bool := match op with
  | .In => match a with
    | .str a => (sd g).map fun kvs => (getD kvs a).isSome
    | _ => none
  | .NotIn => match a with
    | .str a => (sd g).map fun kvs => !(getD kvs a).isSome
    | _ => none
  | _ => none
noncomputable def cmpV (sd : Nat → Option (List (S × V))) (h : Hp) (op : CmpOp) (a b : V) : Option Bool := match (match b with
    | .glb g => cmpG sd op a g
    | _ => none) with
  | some r => some r
  | none => match compare h op a b with
    | some r => some r
    | none => match noD h a && noD h b with
      | true => match op with
        | .NotEq => some false
        | _ => none
      | false => match isSeq a && isSeq b with
        | true => deepEq h op a b
        | false => none
noncomputable def itemsOf (h : Hp) : V → Option (List V)
  | .ref i => match h.get i with
    | some (.list vs) => some vs
    | _ => none
  | .tup vs => some vs
  | .rol vs => some vs
  | .row r => some (r.xs.map .int)
  | _ => none
noncomputable def listOf (h : Hp) : V → Option (List V)
  | .ref i => match h.get i with
    | some (.list vs) => some vs
    | _ => none
  | .rol vs => some vs
  | _ => none
noncomputable def newList (h : Hp) (vs : List V) : Option (V × Hp) := match short vs.length with
  | true => (h.new (.list vs)).map fun p => (.ref p.1, p.2)
  | false => none
noncomputable def repl : Nat → List V → List V
  | 0, _ => []
  | k + 1, vs => vs ++ repl k vs
noncomputable def binop (h : Hp) (op : Operator) (a b : V) : Option (V × Hp) := match op with
  | .Add => match a with
    | .int a => match b with
      | .int b => some (.int (a + b), h)
      | _ => none
    | .str a => match b with
      | .str b => match short (a.length + b.length) with
        | true => some (.str (a ++ b), h)
        | false => none
      | _ => none
    | a => match listOf h a with
      | some x => match listOf h b with
        | some y => newList h (x ++ y)
        | none => none
      | none => none
  | .Sub => match a with
    | .int a => match b with
      | .int b => some (.int (a - b), h)
      | _ => none
    | _ => none
  | .Mult => match a with
    | .int a => match b with
      | .int b => match small a && small b with
        | true => some (.int (a * b), h)
        | false => none
      | _ => none
    | _ => none
  | .FloorDiv => match a with
    | .int a => match b with
      | .int b => match decide (0 < b) && small a && small b with
        | true => some (.int (Int.fdiv a b), h)
        | false => none
      | _ => none
    | _ => none
  | .Mod => match a with
    | .int a => match b with
      | .int b => match decide (0 < b) with
        | true => some (.int (Int.fmod a b), h)
        | false => none
      | _ => none
    | _ => none
  | _ => none
noncomputable def a1 : List V → Option V
  | [] => none
  | v :: r => match r with
    | [] => some v
    | _ :: _ => none
noncomputable def a2 : List V → Option (V × V)
  | [] => none
  | v :: r => match a1 r with
    | some u => some (v, u)
    | none => none
noncomputable def lenOf (h : Hp) (v : V) : Option Nat := match itemsOf h v with
  | some vs => some vs.length
  | none => match v with
    | .str s => some s.length
    | _ => none
noncomputable def bLen (h : Hp) (args : List V) : Option (V × Hp) := match a1 args with
  | some v => match lenOf h v with
    | some n => match short n with
      | true => some (.int n, h)
      | false => none
    | none => none
  | none => none
noncomputable def bMin (h : Hp) (args : List V) : Option (V × Hp) := match a2 args with
  | some (a, b) => match a with
    | .int a => match b with
      | .int b => some (.int (if b < a then b else a), h)
      | _ => none
    | _ => none
  | none => none
noncomputable def bChr (h : Hp) (args : List V) : Option (V × Hp) := match a1 args with
  | some v => match v with
    | .int i => match i with
      | .ofNat c => match Nat.blt c 128 with
        | true => some (.str [c], h)
        | false => none
      | .negSucc _ => none
    | _ => none
  | none => none
noncomputable def bOrd (h : Hp) (args : List V) : Option (V × Hp) := match a1 args with
  | some v => match v with
    | .str l => match l with
      | [] => none
      | c :: r => match r with
        | [] => some (.int c, h)
        | _ :: _ => none
    | _ => none
  | none => none
noncomputable def bIsi (h : Hp) (args : List V) : Option (V × Hp) := match a2 args with
  | some (v, u) => match u with
    | .typ j => match Nat.beq j 1 with
      | true => match v with
        | .int _ => some (.bool true, h)
        | .str _ => some (.bool false, h)
        | _ => none
      | false => none
    | _ => none
  | none => none
noncomputable def callB (h : Hp) (k : Nat) (args : List V) : Option (V × Hp) := match Nat.beq k 0 with
  | true => bLen h args
  | false => match Nat.beq k 1 with
    | true => bMin h args
    | false => match Nat.beq k 3 with
      | true => bChr h args
      | false => match Nat.beq k 4 with
        | true => bOrd h args
        | false => match Nat.beq k 5 with
          | true => bIsi h args
          | false => none
noncomputable def tRange (h : Hp) (args : List V) : Option (V × Hp) := match a1 args with
  | some v => match v with
    | .int i => match i with
      | .ofNat n => match short n with
        | true => some (.rng 0 n, h)
        | false => none
      | .negSucc _ => none
    | _ => none
  | none => none
noncomputable def tInt1 (h : Hp) (v : V) : Option (V × Hp) := match v with
  | .int i => some (.int i, h)
  | .str s => match seqB s [48, 49, 50, 48] with
    | true => some (.int 120, h)
    | false => none
  | _ => none
noncomputable def tInt2 (h : Hp) (args : List V) : Option (V × Hp) := match a2 args with
  | some (v, u) => match v with
    | .str s => match u with
      | .int i => match decide (i = 16) with
        | true => match seqB s [50] with
          | true => some (.int 2, h)
          | false => match seqB s [98] with
            | true => some (.int 11, h)
            | false => none
        | false => none
      | _ => none
    | _ => none
  | none => none
noncomputable def tInt (h : Hp) (args : List V) : Option (V × Hp) := match a1 args with
  | some v => tInt1 h v
  | none => tInt2 h args
noncomputable def tList (h : Hp) (args : List V) : Option (V × Hp) := match a1 args with
  | some v => match itemsOf h v with
    | some vs => newList h vs
    | none => none
  | none => none
noncomputable def tTup (h : Hp) (args : List V) : Option (V × Hp) := match a1 args with
  | some v => match listOf h v with
    | some vs => match short vs.length with
      | true => some (.tup vs, h)
      | false => none
    | none => none
  | none => none
noncomputable def callT (h : Hp) (k : Nat) (args : List V) : Option (V × Hp) := match Nat.beq k 0 with
  | true => tRange h args
  | false => match Nat.beq k 1 with
    | true => tInt h args
    | false => match Nat.beq k 3 with
      | true => tList h args
      | false => match Nat.beq k 4 with
        | true => tTup h args
        | false => none
noncomputable def sFind (h : Hp) (s : S) (args : List V) : Option (V × Hp) := match a2 args with
  | some (x, y) => match x with
    | .str b => match b with
      | c :: r => match y with
        | .int i => match i with
          | .ofNat k => match short s.length with
            | true => some (.int (fdAt k (fdLen (c :: r) (s.drop k))), h)
            | false => none
          | .negSucc _ => none
        | _ => none
      | [] => none
    | _ => none
  | none => none
noncomputable def sJoin (h : Hp) (s : S) (args : List V) : Option (V × Hp) := match a1 args with
  | some v => match listOf h v with
    | some vs => match strsOf vs with
      | some l => match short (l.map List.length).sum && (short l.length && Nat.blt s.length 16) with
        | true => some (.str (joinL s l), h)
        | false => none
      | none => none
    | none => none
  | none => none
noncomputable def sSplit (h : Hp) (s : S) (args : List V) : Option (V × Hp) := match a1 args with
  | some v => match v with
    | .str b => match b with
      | [] => none
      | c :: r => match r with
        | [] => match short s.length with
          | true => newList h ((splitA c s []).map .str)
          | false => none
        | _ :: _ => none
    | _ => none
  | none => none
noncomputable def sStrip (h : Hp) (s : S) (args : List V) : Option (V × Hp) := match args with
  | [] => match short s.length with
    | true => some (.str (stripA s), h)
    | false => none
  | _ :: _ => none
noncomputable def strM (h : Hp) (s : S) (m : Nat) (args : List V) : Option (V × Hp) := match Nat.beq m 17 with
  | true => sFind h s args
  | false => match Nat.beq m 36 with
    | true => sJoin h s args
    | false => match Nat.beq m 153 with
      | true => sSplit h s args
      | false => match Nat.beq m 110 with
        | true => sStrip h s args
        | false => none
noncomputable def indexS (l : List S) (s : S) : Option Nat := l.findIdx? fun a => seqB a s
noncomputable def lApp (h : Hp) (i : Nat) (vs args : List V) : Option (V × Hp) := match a1 args with
  | some v => match short vs.length with
    | true => some (.none, h.set i (.list (vs ++ [v])))
    | false => none
  | none => none
noncomputable def lExt (h : Hp) (i : Nat) (vs args : List V) : Option (V × Hp) := match a1 args with
  | some v => match v with
    | .ref j => match h.get j with
      | some (.list us) => match short (vs.length + us.length) with
        | true => some (.none, h.set i (.list (vs ++ us)))
        | false => none
      | _ => none
    | _ => none
  | none => none
noncomputable def rolM (h : Hp) (vs args : List V) : Option (V × Hp) := match a1 args with
  | some v => match v with
    | .str s => match short vs.length with
      | true => match strsOf vs with
        | some l => match indexS l s with
          | some k => some (.int (Int.ofNat k), h)
          | none => none
        | none => none
      | false => none
    | _ => none
  | none => none
noncomputable def listM (h : Hp) (i : Nat) (vs : List V) (m : Nat) (args : List V) : Option (V × Hp) := match Nat.beq m 38 with
  | true => lApp h i vs args
  | false => match Nat.beq m 60 with
    | true => lExt h i vs args
    | false => match Nat.beq m 160 with
      | true => rolM h vs args
      | false => none
noncomputable def plainS (s : S) : Bool := s.all fun c => decide (c < 128)
noncomputable def itGet (h : Hp) (it : V) (j : Nat) : Option (Option V) := match it with
  | .str s => match plainS s with
    | true => match s[j]? with
      | some c => some (some (.str [c]))
      | none => some none
    | false => none
  | .ref i => match h.get i with
    | some (.list vs) => some (nth vs j)
    | _ => none
  | .tup vs => some (nth vs j)
  | .rol vs => some (nth vs j)
  | .rng a b => match decide (a + (j : Int) < b) with
    | true => some (some (.int (a + (j : Int))))
    | false => some none
  | _ => none
noncomputable def canIter (h : Hp) (it : V) : Bool := match itGet h it 0 with
  | some _ => match it with
    | .rng a b => decide (a ≤ b) && (small a && small b)
    | _ => true
  | none => false
noncomputable def isED (h : Hp) (v : V) : Bool := match v with
  | .ref i => match h.get i with
    | some o => match o with
      | .dict kvs => kvs.isEmpty
      | _ => false
    | none => false
  | _ => false
structure Fn where
  ps : List Nat
  cells : List Nat
  dflt : List V
  body : List St
structure Tb where
  fn : Nat → Option Fn
  cls : Nat → Option (List (Nat × Nat))
  glob : Nat → Option V
  sd : Nat → Option (List (S × V))
  orc : Nat → Nat → List V → Hp → Option (V × Hp)
  raw : Nat → Nat → Fm → Hp → Option (Fl × Fm × Hp)
structure Fns where
  ev : Nat → Fm → Hp → E → Option (V × Hp)
  ts : Nat → Fm → Hp → E → Option (Bool × Hp)
  cl : Nat → Nat → List V → Hp → Option (V × Hp)
  ex : Nat → Fm → Hp → List St → Option (Fl × Fm × Hp)
  wh : Nat → Fm → Hp → E → List St → Option (Fl × Fm × Hp)
  fo : Nat → Fm → Hp → Tgt → V → Nat → List St → Option (Fl × Fm × Hp)
  co : Nat → Fm → Hp → E → Tgt → V → Nat → Option E → List V → Option (List V × Hp)
noncomputable def isFld (B : Tb) (c a : Nat) : Bool := match B.cls c with
  | some ms => match getM ms a with
    | none => true
    | some _ => false
  | none => false
noncomputable def attrOf (B : Tb) (h : Hp) (v : V) (a : Nat) : Option V := match v with
  | .ref i => match h.get i with
    | some (.inst c d) => match isFld B c a with
      | true => match h.get d with
        | some (.flds fs) => getL fs a
        | _ => none
      | false => none
    | _ => none
  | .rin c fs => match isFld B c a with
    | true => getL fs a
    | false => none
  | _ => none
noncomputable def fullArgs (ps : List Nat) (dflt args : List V) : Option (List V) := match Nat.ble args.length ps.length && Nat.ble ps.length (args.length + dflt.length) with
  | true => some (args ++ dflt.drop (args.length + dflt.length - ps.length))
  | false => none
noncomputable def memN : List Nat → Nat → Bool
  | [], _ => false
  | y :: r, x => match Nat.beq y x with
    | true => true
    | false => memN r x
noncomputable def bindL (cells : List Nat) : List Nat → List V → List (Nat × V) → List (Nat × V)
  | [], _, L => L
  | p :: ps, vs, L => match vs with
    | [] => L
    | v :: vs => bindL cells ps vs (match memN cells p with
      | true => L
      | false => (p, v) :: L)
noncomputable def argFor (c : Nat) : List Nat → List V → Option V → Option V
  | [], _, o => o
  | p :: ps, vs, o => match vs with
    | [] => o
    | v :: vs => argFor c ps vs (match Nat.beq p c with
      | true => some v
      | false => o)
noncomputable def bindC (ps : List Nat) (vs : List V) : List Nat → Hp → Option (List (Nat × Nat) × Hp)
  | [], h => some ([], h)
  | c :: r, h => match h.new (.cell (argFor c ps vs none)) with
    | some (i, h) => match bindC ps vs r h with
      | some (l, h) => some ((c, i) :: l, h)
      | none => none
    | none => none
section
variable (B : Tb) (F : Fns)
noncomputable def evs (d : Nat) (fm : Fm) : List E → Hp → Option (List V × Hp)
  | [], h => some ([], h)
  | e :: r, h => match F.ev d fm h e with
    | some (v, h) => match evs d fm r h with
      | some (vs, h) => some (v :: vs, h)
      | none => none
    | none => none
noncomputable def bops (d : Nat) (fm : Fm) (op : BoolOp) : List E → Hp → Option (V × Hp)
  | [], _ => none
  | e :: r, h => match r with
    | [] => F.ev d fm h e
    | _ :: _ => match F.ev d fm h e with
      | some (.bool b, h) => match op, b with
        | .And, false => some (.bool b, h)
        | .Or, true => some (.bool b, h)
        | _, _ => bops d fm op r h
      | _ => none
noncomputable def stops (op : BoolOp) (b : Bool) : Bool := match op with
  | .And => !b
  | .Or => b
noncomputable def alls (d : Nat) (fm : Fm) (op : BoolOp) : List E → Hp → Option (Bool × Hp)
  | [], h => some (op == .And, h)
  | e :: r, h => match F.ts d fm h e with
    | some (b, h) => match stops op b with
      | true => some (b, h)
      | false => alls d fm op r h
    | none => none
noncomputable def optE (d : Nat) (fm : Fm) (h : Hp) : Option E → Option (Option V × Hp)
  | none => some (none, h)
  | some e => match F.ev d fm h e with
    | some (v, h) => some (some v, h)
    | none => none
noncomputable def known (a : Nat) : Bool := match B.fn a with
  | some _ => true
  | none => match B.cls a with
    | some _ => true
    | none => false
noncomputable def callV (d : Nat) (f : V) (args : List V) (h : Hp) : Option (V × Hp) := match f with
  | .glb a => match known B a with
    | true => F.cl d a args h
    | false => none
  | .bi k => callB h k args
  | .typ k => callT h k args
  | _ => none
noncomputable def ownM (c : Nat) (fs : List (Nat × V)) (m : Nat) : Option (Option Nat) := match B.cls c with
  | some ms => match getM ms m with
    | some f => match getL fs m with
      | none => some (some f)
      | some _ => none
    | none => none
  | none => none
noncomputable def methOf (h : Hp) (o : V) (m : Nat) : Option (Option Nat) := match o with
  | .str _ => some none
  | .ref i => match h.get i with
    | some o => match o with
      | .list _ => some none
      | .inst c d => match h.get d with
        | some (.flds fs) => ownM B c fs m
        | _ => none
      | _ => none
    | none => none
  | .rin c fs => ownM B c fs m
  | _ => none
noncomputable def runMt (d : Nat) (mt : Option Nat) (u : V) (m : Nat) (args : List V) (h : Hp) : Option (V × Hp) := match mt with
  | some f => F.cl d f (u :: args) h
  | none => match u with
    | .str s => strM h s m args
    | .ref i => match h.get i with
      | some (.list vs) => listM h i vs m args
      | _ => none
    | _ => none
noncomputable def subOf (h : Hp) (v k : V) : Option V := match k with
  | .int k => match itemsOf h v with
    | some vs => match place vs.length k with
      | some j => nth vs j
      | none => none
    | none => match v with
      | .str s => match place s.length k with
        | some j => match s[j]? with
          | some c => some (.str [c])
          | none => none
        | none => none
      | _ => none
  | .str s => match v with
    | .glb g => match B.sd g with
      | some kvs => getD kvs s
      | none => none
    | .ref i => match h.get i with
      | some (.dict kvs) => getD kvs s
      | _ => none
    | _ => none
  | _ => none
noncomputable def evStep (d : Nat) (fm : Fm) (h : Hp) (e : E) : Option (V × Hp) := match e with
  | .cn => some (.none, h)
  | .cb b => some (.bool b, h)
  | .ci i => some (.int i, h)
  | .cs s => some (.str s, h)
  | .loc x => match getL fm.L x with
    | some v => some (v, h)
    | none => none
  | .cel x => match getC fm.C x with
    | some i => match h.get i with
      | some (.cell (some v)) => some (v, h)
      | _ => none
    | none => none
  | .glob x => match B.glob x with
    | some v => some (v, h)
    | none => none
  | .attr o a => match F.ev d fm h o with
    | some (v, h) => match attrOf B h v a with
      | some u => some (u, h)
      | none => none
    | none => none
  | .mcall o m args => match F.ev d fm h o with
    | some (v, h) => match methOf B h v m with
      | some mt => match evs F d fm args h with
        | some (vs, h) => runMt F d mt v m vs h
        | none => none
      | none => none
    | none => none
  | .call x args => match B.glob x with
    | some f => match evs F d fm args h with
      | some (vs, h) => callV B F d f vs h
      | none => none
    | none => none
  | .bin op l r => match F.ev d fm h l with
    | some (a, h) => match F.ev d fm h r with
      | some (b, h) => binop h op a b
      | none => none
    | none => none
  | .neg i => some (.int (-i), h)
  | .mulL a r => match F.ev d fm h a with
    | some (x, h) => match F.ev d fm h r with
      | some (.int (.ofNat k), h) => match Nat.blt k 1000 with
        | true => newList h (repl k [x])
        | false => none
      | _ => none
    | none => none
  | .not e => match F.ev d fm h e with
    | some (.bool b, h) => some (.bool (!b), h)
    | _ => none
  | .cmp op l r => match F.ev d fm h l with
    | some (a, h) => match F.ev d fm h r with
      | some (b, h) => match cmpV B.sd h op a b with
        | some c => some (.bool c, h)
        | none => none
      | none => none
    | none => none
  | .bop op es => bops F d fm op es h
  | .ite c a b => match F.ts d fm h c with
    | some (true, h) => F.ev d fm h a
    | some (false, h) => F.ev d fm h b
    | none => none
  | .sub o i => match F.ev d fm h o with
    | some (v, h) => match F.ev d fm h i with
      | some (k, h) => match subOf B h v k with
        | some u => some (u, h)
        | none => none
      | none => none
    | none => none
  | .slc o lo hi => match F.ev d fm h o with
    | some (v, h) => match optE F d fm h lo with
      | some (l, h) => match optE F d fm h hi with
        | some (u, h) => match v with
          | .str s => match short s.length with
            | true => match bound s.length 0 l with
              | some a => match bound s.length s.length u with
                | some b => some (.str (cut s a b), h)
                | none => none
              | none => none
            | false => none
          | .rol vs => match short vs.length with
            | true => match bound vs.length 0 l with
              | some a => match bound vs.length vs.length u with
                | some b => newList h ((vs.drop a).take (b - a))
                | none => none
              | none => none
            | false => none
          | _ => none
        | none => none
      | none => none
    | none => none
  | .lst es => match evs F d fm es h with
    | some (vs, h) => newList h vs
    | none => none
  | .tpl es => match evs F d fm es h with
    | some (vs, h) => match short vs.length with
      | true => some (.tup vs, h)
      | false => none
    | none => none
  | .dct => match h.new (.dict []) with
    | some (i, h) => some (.ref i, h)
    | none => none
  | .comp elt t it c => match F.ev d fm h it with
    | some (v, h) => match canIter h v with
      | true => match F.co d ⟨[], fm.C⟩ h elt t v 0 c [] with
        | some (vs, h) => newList h vs
        | none => none
      | false => none
    | none => none
  | .raw => none
noncomputable def tsStep (d : Nat) (fm : Fm) (h : Hp) (e : E) : Option (Bool × Hp) := match e with
  | .not e => match F.ts d fm h e with
    | some (b, h) => some (!b, h)
    | none => none
  | .bop op es => alls F d fm op es h
  | .ite c a b => match F.ts d fm h c with
    | some (q, h) => match q with
      | true => F.ts d fm h a
      | false => F.ts d fm h b
    | none => none
  | .cmp op l r => match F.ev d fm h l with
    | some (a, h) => match F.ev d fm h r with
      | some (b, h) => match cmpV B.sd h op a b with
        | some c => some (c, h)
        | none => none
      | none => none
    | none => none
  | e => match F.ev d fm h e with
    | some (v, h) => match v with
      | .bool b => some (b, h)
      | _ => none
    | none => none
noncomputable def tupL : List (Nat × V) → List Nat → List V → Option (List (Nat × V))
  | L, [], [] => some L
  | L, x :: xs, v :: vs => tupL (setL L x v) xs vs
  | _, _, _ => none
noncomputable def putI (fm : Fm) (h : Hp) (j : Nat) (k : Int) (v : V) : Option (Fm × Hp) := match h.get j with
  | some (.list vs) => match place vs.length k with
    | some p => some (fm, h.set j (.list (setN vs p v)))
    | none => none
  | _ => none
noncomputable def putD (fm : Fm) (h : Hp) (j : Nat) (s : S) (v : V) : Option (Fm × Hp) := match h.get j with
  | some (.dict kvs) => match Nat.blt kvs.length 1000 with
    | true => match v with
      | .int _ => some (fm, h.set j (.dict (setD kvs s v)))
      | _ => none
    | false => none
  | _ => none
noncomputable def putK (fm : Fm) (h : Hp) (j : Nat) (k v : V) : Option (Fm × Hp) := match k with
  | .int k => putI fm h j k v
  | .str s => putD fm h j s v
  | _ => none
noncomputable def putS (fm : Fm) (h : Hp) (u k v : V) : Option (Fm × Hp) := match u with
  | .ref j => putK fm h j k v
  | _ => none
noncomputable def putF (fm : Fm) (h : Hp) (c d a : Nat) (v : V) : Option (Fm × Hp) := match isFld B c a with
  | true => match h.get d with
    | some (.flds fs) => match Nat.blt fs.length 100 with
      | true => some (fm, h.set d (.flds (setL fs a v)))
      | false => none
    | _ => none
  | false => none
noncomputable def putA (fm : Fm) (h : Hp) (u : V) (a : Nat) (v : V) : Option (Fm × Hp) := match u with
  | .ref i => match h.get i with
    | some (.inst c d) => putF B fm h c d a v
    | _ => none
  | _ => none
noncomputable def asg (d : Nat) (fm : Fm) (h : Hp) (t : Tgt) (v : V) : Option (Fm × Hp) := match t with
  | .loc x => some (⟨setL fm.L x v, fm.C⟩, h)
  | .cel x => match getC fm.C x with
    | some i => match h.get i with
      | some o => match o with
        | .cell _ => some (fm, h.set i (.cell (some v)))
        | _ => none
      | none => none
    | none => none
  | .attr o a => match F.ev d fm h o with
    | some (u, h) => putA B fm h u a v
    | none => none
  | .sub o i => match F.ev d fm h o with
    | some (u, h) => match F.ev d fm h i with
      | some (k, h) => putS fm h u k v
      | none => none
    | none => none
  | .tup xs => match v with
    | .tup vs => match Nat.beq xs.length vs.length with
      | true => match tupL fm.L xs vs with
        | some L => some (⟨L, fm.C⟩, h)
        | none => none
      | false => none
    | _ => none
noncomputable def thn (o : Option (Fl × Fm × Hp)) (k : Fm → Hp → Option (Fl × Fm × Hp)) : Option (Fl × Fm × Hp) := match o with
  | some (fl, fm, h) => match fl with
    | .next => k fm h
    | .ret v => some (.ret v, fm, h)
  | none => none
noncomputable def exStep (d : Nat) (fm : Fm) (h : Hp) (l : List St) : Option (Fl × Fm × Hp) := match l with
  | [] => some (.next, fm, h)
  | s :: r => match s with
    | .asg t e => match F.ev d fm h e with
      | some (v, h) => match asg B F d fm h t v with
        | some (fm, h) => F.ex d fm h r
        | none => none
      | none => none
    | .expr e => match F.ev d fm h e with
      | some (_, h) => F.ex d fm h r
      | none => none
    | .ret e => match F.ev d fm h e with
      | some (v, h) => some (.ret v, fm, h)
      | none => none
    | .retn => some (.ret .none, fm, h)
    | .ifs c a b => match F.ts d fm h c with
      | some (q, h) => thn (F.ex d fm h (match q with | true => a | false => b)) fun fm h => F.ex d fm h r
      | none => none
    | .whl c b => thn (F.wh d fm h c b) fun fm h => F.ex d fm h r
    | .fors t e b => match F.ev d fm h e with
      | some (v, h) => match isED h v with
        | true => F.ex d fm h r
        | false => match canIter h v with
          | true => thn (F.fo d fm h t v 0 b) fun fm h => F.ex d fm h r
          | false => none
      | none => none
    | .raw k => thn (B.raw k d fm h) fun fm h => F.ex d fm h r
noncomputable def whStep (d : Nat) (fm : Fm) (h : Hp) (c : E) (b : List St) : Option (Fl × Fm × Hp) := match F.ts d fm h c with
  | some (q, h) => match q with
    | true => thn (F.ex d fm h b) fun fm h => F.wh d fm h c b
    | false => some (.next, fm, h)
  | none => none
noncomputable def foStep (d : Nat) (fm : Fm) (h : Hp) (t : Tgt) (it : V) (j : Nat) (b : List St) : Option (Fl × Fm × Hp) := match itGet h it j with
  | some w => match w with
    | some v => match asg B F d fm h t v with
      | some (fm, h) => thn (F.ex d fm h b) fun fm h => F.fo d fm h t it (j + 1) b
      | none => none
    | none => some (.next, fm, h)
  | none => none
noncomputable def coTest (d : Nat) (fm : Fm) (h : Hp) (c : Option E) : Option (Bool × Hp) := match c with
  | none => some (true, h)
  | some c => F.ts d fm h c
noncomputable def coStep (d : Nat) (fm : Fm) (h : Hp) (elt : E) (t : Tgt) (it : V) (j : Nat) (c : Option E) (acc : List V) : Option (List V × Hp) := match itGet h it j with
  | some w => match w with
    | some v => match asg B F d fm h t v with
      | some (fm, h) => match coTest F d fm h c with
        | some (q, h) => match q with
          | true => match F.ev d fm h elt with
            | some (u, h) => match short acc.length with
              | true => F.co d fm h elt t it (j + 1) c (acc ++ [u])
              | false => none
            | none => none
          | false => F.co d fm h elt t it (j + 1) c acc
        | none => none
      | none => none
    | none => some (acc, h)
  | none => none
noncomputable def retV : Fl → V
  | .next => .none
  | .ret v => v
noncomputable def clFn (d : Nat) (fn : Fn) (args : List V) (h : Hp) : Option (V × Hp) := match fullArgs fn.ps fn.dflt args with
  | some vs => match bindC fn.ps vs fn.cells h with
    | some (C, h) => match F.ex d ⟨bindL fn.cells fn.ps vs [], C⟩ h fn.body with
      | some (fl, _, h) => some (retV fl, h)
      | none => none
    | none => none
  | none => none
noncomputable def clCls (d : Nat) (f : Nat) (ms : List (Nat × Nat)) (args : List V) (h : Hp) : Option (V × Hp) := match getM ms 181 with
  | some init => match h.new (.flds []) with
    | some (i, h) => match h.new (.inst f i) with
      | some (j, h) => match F.cl d init (.ref j :: args) h with
        | some (v, h) => match v with
          | .none => some (.ref j, h)
          | _ => none
        | none => none
      | none => none
    | none => none
  | none => none
noncomputable def clStep (d : Nat) (f : Nat) (args : List V) (h : Hp) : Option (V × Hp) := match B.orc d f args h with
  | some r => some r
  | none => match d with
    | 0 => none
    | d + 1 => match B.fn f with
      | some fn => clFn F d fn args h
      | none => match B.cls f with
        | some ms => clCls F d f ms args h
        | none => none
noncomputable def stepF : Fns where
  ev := evStep B F
  ts := tsStep B F
  cl := clStep B F
  ex := exStep B F
  wh := whStep F
  fo := foStep B F
  co := coStep B F
end
noncomputable def botF : Fns where
  ev _ _ _ _ := none
  ts _ _ _ _ := none
  cl _ _ _ _ := none
  ex _ _ _ _ := none
  wh _ _ _ _ _ := none
  fo _ _ _ _ _ _ _ := none
  co _ _ _ _ _ _ _ _ _ := none
noncomputable def run (B : Tb) (n : Nat) : Fns := @Nat.rec (fun _ => Fns) botF (fun _ F => stepF B F) n
theorem run_succ (B : Tb) (n : Nat) : run B (n + 1) = stepF B (run B n) := rfl
end
section
noncomputable def nmL : List String := ["self", "offset", "line", "column", "kind", "text", "at", "worth", "len", "ahead", "word", "is_done", "sign", "starts", "begun", "signs", "end", "find", "row", "min", "here", "peek", "NAME_SIGNS", "FIGURES", "take_while", "code", "taken", "most", "base", "int", "take", "chr", "PLAIN_ESCAPES", "OCTAL_SIGNS", "coded", "HEX_SIGNS", "join", "escape", "append", "marks", "ord", "hex_escape", "escaped_sign", "number", "left", "right", "level_of", "action", "before", "names", "terminal_count", "rules", "levels", "expect", "start", "by_left", "name", "offsets", "owners", "rule", "extend", "item_count", "found", "symbol", "prec", "terminals", "level_count", "drafts", "lefts", "middle_count", "is_kept", "is_literal", "token", "add_left", "range", "parts", "use", "middle", "Draft", "is_token", "draft", "last_terminal", "numbers", "get", "start_name", "OWN_TERMINALS", "list", "Rule", "END", "tuple", "Grammar", "cursor", "Cursor", "seen", "Position", "SPACE", "take_line", "skip_space", "place", "Token", "named", "figures", "literal", "skip", "behind", "quoted", "escaped", "depth", "skip_text", "whole", "strip", "KINDS", "scanner", "GrammarScanner", "decls", "items", "head", "told_alt", "alt", "alts", "part", "tokens", "decl", "refuse", "GrammarTree", "SYM_KINDS", "PART_WORDS", "TreeReader", "scan_grammar", "file", "isinstance", "item", "maker", "set_expect", "set_start", "level", "symbols", "empties", "GrammarMaker", "tree", "declare", "plain_parts", "made", "grammar_of", "read_tree", "syms", "value", "told", "KIND_WORDS", "head_name", "turn", "lines", "SELF_TEXT", "split", "_law_pick", "_law_gaps", "grammar", "read_grammar", "_law_tokens", "_law_lefts", "index", "told_rules", "_law_rules", "k", "n", "_law_words", "m", "sort", "_law_names", "tree_of", "cases", "bad", "due_kind", "due_text", "due_worth", "told_token", "cell", "script", "_law_is_read", "_law_is_tree", "_law_is_token", "__init__", "is_end", "skip_blanks", "position", "position_at", "symbol_count", "is_terminal", "is_middle", "rules_of", "rule_of", "dot_of", "after", "__name__", "__annotations__", "__builtins__", "__file__", "_wall", "SMALL", "LETTERS", "MOST_FIGURES", "position_of", "ToolError", "GrammarError", "SIDES", "law", "what", "error", "Exception"]
noncomputable def nN : Nat := 209
noncomputable def nm (x : Nat) : Str := Str.ofString (nmL.getD x "")
noncomputable def b36 : List St := [.asg (.attr (.loc 0) 1) (.loc 1), .asg (.attr (.loc 0) 2) (.loc 2), .asg (.attr (.loc 0) 3) (.loc 3)]
noncomputable def b43 : List St := [.ret (.tpl [.attr (.loc 0) 2, .attr (.loc 0) 3])]
noncomputable def b72 : List St := [.raw 2, .asg (.attr (.loc 0) 206) (.loc 206), .asg (.attr (.loc 0) 6) (.loc 6)]
noncomputable def b79 : List St := [.ifs (.cmp .Is (.attr (.loc 0) 6) .cn) [.ret (.tpl [.ci 0, .ci 0])] [], .ret (.mcall (.attr (.loc 0) 6) 147 [])]
noncomputable def unkS : S := [117, 110, 107, 110, 111, 119, 110, 32, 119, 111, 114, 100, 32]
noncomputable def lngS : S := [97, 32, 110, 117, 109, 98, 101, 114, 32, 116, 111, 111, 32, 108, 111, 110, 103]
noncomputable def b112 : List St := [.asg (.attr (.loc 0) 4) (.loc 4), .asg (.attr (.loc 0) 5) (.loc 5), .asg (.attr (.loc 0) 6) (.loc 6), .asg (.attr (.loc 0) 7) (.ite (.cmp .Is (.loc 7) (.cn)) (.loc 5) (.loc 7))]
noncomputable def b148 : List St := [.asg (.attr (.loc 0) 5) (.loc 5), .asg (.attr (.loc 0) 6) (.loc 6)]
noncomputable def b155 : List St := [.ret (.cmp .GtE (.attr (.loc 0) 6) (.call 8 [.attr (.loc 0) 5]))]
noncomputable def b163 : List St := [.asg (.loc 6) (.bin .Add (.attr (.loc 0) 6) (.loc 9)), .ifs (.cmp .Lt (.loc 6) (.call 8 [.attr (.loc 0) 5])) [.ret (.sub (.attr (.loc 0) 5) (.loc 6))] [], .ret (.cs [])]
noncomputable def b170 : List St := [.ret (.cmp .Eq (.slc (.attr (.loc 0) 5) (some (.attr (.loc 0) 6)) (some (.bin .Add (.attr (.loc 0) 6) (.call 8 [.loc 10])))) (.loc 10))]
noncomputable def b177 : List St := [.ifs (.mcall (.loc 0) 11 []) [.ret (.cs [])] [], .asg (.loc 12) (.sub (.attr (.loc 0) 5) (.attr (.loc 0) 6)), .asg (.attr (.loc 0) 6) (.bin .Add (.attr (.loc 0) 6) (.ci 1)), .ret (.loc 12)]
noncomputable def b184 : List St := [.ifs (.not (.mcall (.loc 0) 13 [.loc 10])) [.ret (.cb false)] [], .asg (.attr (.loc 0) 6) (.bin .Add (.attr (.loc 0) 6) (.call 8 [.loc 10])), .ret (.cb true)]
noncomputable def b191 : List St := [.asg (.loc 14) (.attr (.loc 0) 6), .whl (.bop .And [.cmp .Lt (.attr (.loc 0) 6) (.call 8 [.attr (.loc 0) 5]), .cmp .In (.sub (.attr (.loc 0) 5) (.attr (.loc 0) 6)) (.loc 15)]) [.asg (.attr (.loc 0) 6) (.bin .Add (.attr (.loc 0) 6) (.ci 1))], .ret (.slc (.attr (.loc 0) 5) (some (.loc 14)) (some (.attr (.loc 0) 6)))]
noncomputable def b198 : List St := [.asg (.loc 16) (.mcall (.attr (.loc 0) 5) 17 [.cs [10], .attr (.loc 0) 6]), .ifs (.cmp .Lt (.loc 16) (.ci 0)) [.asg (.loc 16) (.call 8 [.attr (.loc 0) 5])] [], .asg (.loc 18) (.slc (.attr (.loc 0) 5) (some (.attr (.loc 0) 6)) (some (.loc 16))), .asg (.attr (.loc 0) 6) (.call 19 [.bin .Add (.loc 16) (.ci 1), .call 8 [.attr (.loc 0) 5]]), .ret (.loc 18)]
noncomputable def b213 : List St := [.asg (.loc 20) (.mcall (.loc 0) 21 []), .ifs (.bop .Or [.cmp .Eq (.loc 20) (.cs []), .cmp .NotIn (.loc 20) (.glob 22), .cmp .In (.loc 20) (.glob 23)]) [.ret (.cs [])] [], .ret (.mcall (.loc 0) 24 [.glob 22])]
noncomputable def b241 : List St := [.asg (.loc 25) (.ci 0), .asg (.loc 26) (.ci 0), .whl (.bop .And [.cmp .Lt (.loc 26) (.loc 27), .cmp .NotEq (.mcall (.loc 0) 21 []) (.cs []), .cmp .In (.mcall (.loc 0) 21 []) (.loc 15)]) [.asg (.loc 25) (.bin .Add (.bin .Mult (.loc 25) (.loc 28)) (.call 29 [.mcall (.loc 0) 30 [], .ci 16])), .asg (.loc 26) (.bin .Add (.loc 26) (.ci 1))], .ret (.call 31 [.loc 25])]
noncomputable def b248 : List St := [.asg (.loc 12) (.mcall (.loc 0) 21 []), .ifs (.cmp .Eq (.loc 12) (.cs [])) [.ret (.cs [])] [], .ifs (.cmp .In (.loc 12) (.glob 32)) [.expr (.mcall (.loc 0) 30 []), .ret (.call 31 [.sub (.glob 32) (.loc 12)])] [], .ifs (.cmp .In (.loc 12) (.glob 33)) [.ret (.mcall (.loc 0) 34 [.glob 33, .ci 3, .ci 8])] [], .ifs (.bop .And [.cmp .Eq (.loc 12) (.cs [120]), .cmp .NotEq (.mcall (.loc 0) 21 [.ci 1]) (.cs []), .cmp .In (.mcall (.loc 0) 21 [.ci 1]) (.glob 35)]) [.expr (.mcall (.loc 0) 30 []), .ret (.mcall (.loc 0) 34 [.glob 35, .ci 2, .ci 16])] [], .ret (.mcall (.loc 0) 30 [])]
noncomputable def b255 : List St := [.asg (.loc 15) (.lst []), .whl (.not (.mcall (.loc 0) 11 [])) [.asg (.loc 12) (.mcall (.loc 0) 30 []), .ifs (.cmp .Eq (.loc 12) (.loc 16)) [.ret (.mcall (.cs []) 36 [.loc 15])] [], .ifs (.cmp .Eq (.loc 12) (.cs [92])) [.asg (.loc 12) (.mcall (.loc 0) 37 []), .ifs (.cmp .Eq (.loc 12) (.cs [])) [.ret (.cn)] []] [], .expr (.mcall (.loc 15) 38 [.loc 12])], .ret (.cn)]
noncomputable def b276 : List St := [.ifs (.cmp .Eq (.loc 12) (.cs [10])) [.ret (.cs [92, 110])] [], .ifs (.cmp .Eq (.loc 12) (.cs [9])) [.ret (.cs [92, 116])] [], .ifs (.bop .Or [.cmp .In (.loc 12) (.loc 39), .cmp .Eq (.loc 12) (.cs [92])]) [.ret (.bin .Add (.cs [92]) (.loc 12))] [], .asg (.loc 25) (.call 40 [.loc 12]), .ifs (.bop .And [.bop .Or [.cmp .Lt (.loc 25) (.ci 32), .cmp .Gt (.loc 25) (.ci 126)], .cmp .Lt (.loc 25) (.ci 256)]) [.ret (.call 41 [.loc 25])] [], .ret (.loc 12)]
noncomputable def b281 : List St := [.ret (.mcall (.cs []) 36 [.comp (.call 42 [.loc 12, .cel 16]) (.loc 12) (.loc 5) none])]
noncomputable def b297 : List St := [.asg (.attr (.loc 0) 43) (.loc 43), .asg (.attr (.loc 0) 44) (.loc 44), .asg (.attr (.loc 0) 45) (.loc 45), .asg (.attr (.loc 0) 46) (.loc 46), .asg (.attr (.loc 0) 47) (.loc 47), .asg (.attr (.loc 0) 2) (.loc 2), .asg (.attr (.loc 0) 48) (.loc 48)]
noncomputable def b316 : List St := [.asg (.attr (.loc 0) 49) (.loc 49), .asg (.attr (.loc 0) 50) (.loc 50), .asg (.attr (.loc 0) 51) (.loc 51), .asg (.attr (.loc 0) 52) (.loc 52), .asg (.attr (.loc 0) 53) (.loc 53), .asg (.attr (.loc 0) 54) (.loc 54), .asg (.attr (.loc 0) 55) (.comp (.lst []) (.loc 56) (.attr (.loc 0) 49) none), .asg (.attr (.loc 0) 57) (.lst []), .asg (.attr (.loc 0) 58) (.lst []), .fors (.loc 59) (.attr (.loc 0) 51) [.expr (.mcall (.sub (.attr (.loc 0) 55) (.attr (.loc 59) 44)) 38 [.attr (.loc 59) 43]), .expr (.mcall (.attr (.loc 0) 57) 38 [.call 8 [.attr (.loc 0) 58]]), .expr (.mcall (.attr (.loc 0) 58) 60 [.mulL (.attr (.loc 59) 43) (.bin .Add (.call 8 [.attr (.loc 59) 45]) (.ci 1))])], .asg (.attr (.loc 0) 61) (.call 8 [.attr (.loc 0) 58])]
noncomputable def b393 : List St := [.asg (.loc 62) (.neg 1), .fors (.loc 63) (.loc 45) [.ifs (.cmp .Lt (.loc 63) (.loc 50)) [.asg (.loc 62) (.loc 63)] []], .ret (.loc 62)]
noncomputable def b401 : List St := [.ret (.cmp .Eq (.slc (.loc 56) none (some (.ci 1))) (.cs [39]))]
noncomputable def b408 : List St := [.ret (.cmp .In (.slc (.loc 56) none (some (.ci 1))) (.tpl [.cs [], .cs [36]]))]
noncomputable def b422 : List St := [.asg (.attr (.loc 0) 44) (.loc 44), .asg (.attr (.loc 0) 45) (.loc 45), .asg (.attr (.loc 0) 64) (.loc 64), .asg (.attr (.loc 0) 47) (.loc 47), .asg (.attr (.loc 0) 2) (.loc 2), .asg (.attr (.loc 0) 48) (.loc 48)]
noncomputable def b443 : List St := [.asg (.attr (.loc 0) 65) (.lst []), .asg (.attr (.loc 0) 52) (.dct), .asg (.attr (.loc 0) 66) (.ci 0), .asg (.attr (.loc 0) 67) (.lst []), .asg (.attr (.loc 0) 68) (.lst []), .asg (.attr (.loc 0) 69) (.ci 0), .asg (.attr (.loc 0) 54) (.cn), .asg (.attr (.loc 0) 53) (.cn)]
noncomputable def b450 : List St := [.ifs (.call 70 [.loc 56]) [.raw 0] [], .ifs (.bop .And [.cmp .NotEq (.loc 56) (.cs [101, 114, 114, 111, 114]), .cmp .NotIn (.loc 56) (.attr (.loc 0) 65)]) [.expr (.mcall (.attr (.loc 0) 65) 38 [.loc 56])] []]
noncomputable def b478 : List St := [.ifs (.cmp .NotIn (.loc 56) (.attr (.loc 0) 68)) [.expr (.mcall (.attr (.loc 0) 68) 38 [.loc 56])] []]
noncomputable def b485 : List St := [.ifs (.call 70 [.loc 56]) [.raw 0] [], .ifs (.call 71 [.loc 56]) [.expr (.mcall (.loc 0) 72 [.loc 56])] []]
noncomputable def b500 : List St := [.ifs (.call 70 [.loc 44]) [.raw 0] [], .expr (.mcall (.loc 0) 73 [.loc 44]), .asg (.loc 45) (.lst []), .asg (.loc 47) (.cn), .fors (.loc 6) (.call 74 [.call 8 [.loc 75]]) [.asg (.tup [4, 5]) (.sub (.loc 75) (.loc 6)), .ifs (.cmp .Eq (.loc 4) (.cs [115, 121, 109])) [.expr (.mcall (.loc 0) 76 [.loc 5]), .expr (.mcall (.loc 45) 38 [.loc 5])] [.ifs (.cmp .NotEq (.loc 4) (.cs [97, 99, 116])) [.raw 0] [.ifs (.cmp .Eq (.loc 6) (.bin .Sub (.call 8 [.loc 75]) (.ci 1))) [.asg (.loc 47) (.loc 5)] [.expr (.mcall (.loc 45) 38 [.mcall (.loc 0) 77 [.loc 5, .loc 2, .call 8 [.loc 45]]])]]]], .ifs (.cmp .IsNot (.loc 64) (.cn)) [.expr (.mcall (.loc 0) 76 [.loc 64])] [], .expr (.mcall (.attr (.loc 0) 67) 38 [.call 78 [.loc 44, .loc 45, .loc 64, .loc 47, .loc 2, .ci 0]])]
noncomputable def b507 : List St := [.ret (.bop .Or [.cmp .In (.loc 56) (.attr (.loc 0) 65), .cmp .Eq (.loc 56) (.cs [101, 114, 114, 111, 114]), .call 71 [.loc 56]])]
noncomputable def b514 : List St := [.ifs (.cmp .Eq (.call 8 [.attr (.loc 0) 67]) (.ci 0)) [.raw 0] [], .fors (.loc 56) (.attr (.loc 0) 68) [.ifs (.mcall (.loc 0) 79 [.loc 56]) [.raw 0] []], .ifs (.cmp .Is (.attr (.loc 0) 54) (.cn)) [.ret (.sub (.attr (.loc 0) 68) (.ci 0))] [], .ifs (.cmp .NotIn (.attr (.loc 0) 54) (.attr (.loc 0) 68)) [.raw 0] [], .ret (.attr (.loc 0) 54)]
noncomputable def b521 : List St := [.ifs (.cmp .Is (.attr (.loc 80) 64) (.cn)) [.ret (.call 81 [.loc 45, .loc 50])] [], .asg (.loc 62) (.mcall (.loc 82) 83 [.attr (.loc 80) 64, .neg 1]), .ifs (.bop .Or [.cmp .Lt (.loc 62) (.ci 0), .cmp .GtE (.loc 62) (.loc 50)]) [.raw 0] [], .ret (.loc 62)]
noncomputable def b526 : List St := [.asg (.loc 54) (.mcall (.loc 0) 84 []), .asg (.loc 50) (.bin .Add (.call 8 [.glob 85]) (.call 8 [.attr (.loc 0) 65])), .asg (.loc 49) (.bin .Add (.bin .Add (.bin .Add (.call 86 [.glob 85]) (.attr (.loc 0) 65)) (.lst [.cs [36, 97, 99, 99, 101, 112, 116]])) (.attr (.loc 0) 68)), .asg (.cel 82) (.dct), .fors (.loc 6) (.call 74 [.call 8 [.loc 49]]) [.asg (.sub (.cel 82) (.sub (.loc 49) (.loc 6))) (.loc 6)], .asg (.loc 51) (.lst [.call 87 [.ci 0, .loc 50, .tpl [.sub (.cel 82) (.loc 54), .glob 88], .glob 88]]), .fors (.loc 80) (.attr (.loc 0) 67) [.fors (.loc 56) (.attr (.loc 80) 45) [.ifs (.cmp .NotIn (.loc 56) (.cel 82)) [.raw 0] []], .asg (.loc 45) (.call 89 [.comp (.sub (.cel 82) (.loc 56)) (.loc 56) (.attr (.loc 80) 45) none]), .asg (.loc 46) (.mcall (.loc 0) 46 [.loc 80, .loc 45, .cel 82, .loc 50]), .expr (.mcall (.loc 51) 38 [.call 87 [.call 8 [.loc 51], .sub (.cel 82) (.attr (.loc 80) 44), .loc 45, .loc 46, .attr (.loc 80) 47, .attr (.loc 80) 2, .attr (.loc 80) 48]])], .asg (.loc 52) (.dct), .fors (.loc 56) (.attr (.loc 0) 52) [.asg (.sub (.loc 52) (.sub (.cel 82) (.loc 56))) (.sub (.attr (.loc 0) 52) (.loc 56))], .ret (.call 90 [.loc 49, .loc 50, .loc 51, .loc 52, .attr (.loc 0) 53, .sub (.cel 82) (.loc 54)])]
noncomputable def b550 : List St := [.asg (.attr (.loc 0) 91) (.call 92 [.loc 5]), .asg (.attr (.loc 0) 93) (.ci 0), .asg (.attr (.loc 0) 2) (.ci 1), .asg (.attr (.loc 0) 14) (.ci 0)]
noncomputable def b557 : List St := [.asg (.loc 5) (.attr (.attr (.loc 0) 91) 5), .whl (.cmp .Lt (.attr (.loc 0) 93) (.loc 1)) [.ifs (.cmp .Eq (.sub (.loc 5) (.attr (.loc 0) 93)) (.cs [10])) [.asg (.attr (.loc 0) 2) (.bin .Add (.attr (.loc 0) 2) (.ci 1)), .asg (.attr (.loc 0) 14) (.bin .Add (.attr (.loc 0) 93) (.ci 1))] [], .asg (.attr (.loc 0) 93) (.bin .Add (.attr (.loc 0) 93) (.ci 1))], .ret (.call 94 [.loc 1, .attr (.loc 0) 2, .bin .Add (.bin .Sub (.loc 1) (.attr (.loc 0) 14)) (.ci 1)])]
noncomputable def b564 : List St := [.asg (.loc 91) (.attr (.loc 0) 91), .whl (.cb true) [.expr (.mcall (.loc 91) 24 [.glob 95]), .ifs (.mcall (.loc 91) 13 [.cs [47, 47]]) [.expr (.mcall (.loc 91) 96 [])] [.ifs (.mcall (.loc 91) 13 [.cs [47, 42]]) [.asg (.loc 16) (.mcall (.attr (.loc 91) 5) 17 [.cs [42, 47], .bin .Add (.attr (.loc 91) 6) (.ci 2)]), .ifs (.cmp .Lt (.loc 16) (.ci 0)) [.raw 0] [], .asg (.attr (.loc 91) 6) (.bin .Add (.loc 16) (.ci 2))] [.retn]]]]
noncomputable def b571 : List St := [.expr (.mcall (.loc 0) 97 []), .asg (.loc 91) (.attr (.loc 0) 91), .asg (.loc 6) (.mcall (.loc 0) 98 [.attr (.loc 91) 6]), .asg (.loc 12) (.mcall (.loc 91) 21 []), .ifs (.cmp .Eq (.loc 12) (.cs [])) [.ret (.call 99 [.cs [36, 101, 110, 100], .cs [], .loc 6])] [], .asg (.loc 56) (.mcall (.loc 91) 56 []), .ifs (.cmp .NotEq (.loc 56) (.cs [])) [.ret (.mcall (.loc 0) 100 [.loc 56, .loc 6])] [], .ifs (.cmp .In (.loc 12) (.glob 23)) [.ret (.mcall (.loc 0) 101 [.loc 6])] [], .ifs (.cmp .Eq (.loc 12) (.cs [39])) [.ret (.mcall (.loc 0) 102 [.loc 6])] [], .ifs (.cmp .Eq (.loc 12) (.cs [123])) [.ret (.mcall (.loc 0) 47 [.loc 6])] [], .ifs (.cmp .Eq (.loc 12) (.cs [37])) [.ret (.mcall (.loc 0) 10 [.loc 6])] [], .ifs (.mcall (.loc 91) 103 [.cs [124]]) [.ret (.call 99 [.cs [66, 65, 82], .cs [124], .loc 6])] [], .ifs (.mcall (.loc 91) 103 [.cs [59]]) [.ret (.call 99 [.cs [83, 69, 77, 73], .cs [59], .loc 6])] [], .raw 0]
noncomputable def b578 : List St := [.asg (.loc 104) (.attr (.attr (.loc 0) 91) 6), .expr (.mcall (.loc 0) 97 []), .ifs (.mcall (.attr (.loc 0) 91) 103 [.cs [58]]) [.ret (.call 99 [.cs [72, 69, 65, 68], .loc 56, .loc 6, .tpl [.loc 56, .attr (.loc 6) 2]])] [], .asg (.attr (.attr (.loc 0) 91) 6) (.loc 104), .ret (.call 99 [.cs [78, 65, 77, 69], .loc 56, .loc 6])]
noncomputable def b585 : List St := [.asg (.loc 5) (.mcall (.attr (.loc 0) 91) 24 [.glob 23]), .ifs (.cmp .Gt (.call 8 [.loc 5]) (.ci 9)) [.raw 0] [], .ret (.call 99 [.cs [78, 85, 77, 66, 69, 82], .loc 5, .loc 6, .call 29 [.loc 5]])]
noncomputable def b592 : List St := [.asg (.loc 91) (.attr (.loc 0) 91), .expr (.mcall (.loc 91) 30 []), .ifs (.cmp .Eq (.mcall (.loc 91) 21 []) (.cs [10])) [.raw 0] [], .asg (.loc 12) (.mcall (.loc 91) 105 [.cs [39]]), .ifs (.cmp .Is (.loc 12) (.cn)) [.raw 0] [], .ifs (.cmp .NotEq (.call 8 [.loc 12]) (.ci 1)) [.raw 0] [], .ret (.call 99 [.cs [76, 73, 84, 69, 82, 65, 76], .slc (.attr (.loc 91) 5) (some (.attr (.loc 6) 1)) (some (.attr (.loc 91) 6)), .loc 6, .bin .Add (.bin .Add (.cs [39]) (.call 106 [.loc 12, .cs [39]])) (.cs [39])])]
noncomputable def b599 : List St := [.asg (.loc 91) (.attr (.loc 0) 91), .expr (.mcall (.loc 91) 30 []), .asg (.loc 107) (.ci 1), .whl (.cmp .Gt (.loc 107) (.ci 0)) [.asg (.loc 12) (.mcall (.loc 91) 30 []), .ifs (.cmp .Eq (.loc 12) (.cs [])) [.raw 0] [], .ifs (.cmp .Eq (.loc 12) (.cs [123])) [.asg (.loc 107) (.bin .Add (.loc 107) (.ci 1))] [.ifs (.cmp .Eq (.loc 12) (.cs [125])) [.asg (.loc 107) (.bin .Sub (.loc 107) (.ci 1))] [.ifs (.cmp .Eq (.loc 12) (.cs [34])) [.expr (.mcall (.loc 0) 108 [.loc 6])] []]]], .asg (.loc 109) (.slc (.attr (.loc 91) 5) (some (.attr (.loc 6) 1)) (some (.attr (.loc 91) 6))), .ret (.call 99 [.cs [65, 67, 84, 73, 79, 78], .loc 109, .loc 6, .mcall (.slc (.loc 109) (some (.ci 1)) (some (.bin .Sub (.call 8 [.loc 109]) (.ci 1)))) 110 []])]
noncomputable def b606 : List St := [.whl (.cb true) [.asg (.loc 12) (.mcall (.attr (.loc 0) 91) 30 []), .ifs (.cmp .Eq (.loc 12) (.cs [])) [.raw 0] [], .ifs (.cmp .Eq (.loc 12) (.cs [34])) [.retn] [], .ifs (.cmp .Eq (.loc 12) (.cs [92])) [.expr (.mcall (.attr (.loc 0) 91) 30 [])] []]]
noncomputable def b613 : List St := [.asg (.loc 91) (.attr (.loc 0) 91), .expr (.mcall (.loc 91) 30 []), .ifs (.mcall (.loc 91) 103 [.cs [37]]) [.ret (.call 99 [.cs [77, 65, 82, 75], .cs [37, 37], .loc 6])] [], .asg (.loc 56) (.mcall (.loc 91) 56 []), .ifs (.cmp .In (.loc 56) (.glob 111)) [.ret (.call 99 [.cs [75, 73, 78, 68], .bin .Add (.cs [37]) (.loc 56), .loc 6, .loc 56])] [], .ifs (.cmp .Eq (.loc 56) (.cs [112, 114, 101, 99])) [.ret (.call 99 [.cs [80, 82, 69, 67], .cs [37, 112, 114, 101, 99], .loc 6])] [], .ifs (.cmp .Eq (.loc 56) (.cs [101, 109, 112, 116, 121])) [.ret (.call 99 [.cs [69, 77, 80, 84, 89], .cs [37, 101, 109, 112, 116, 121], .loc 6])] [], .raw 0]
noncomputable def b627 : List St := [.asg (.loc 112) (.call 113 [.loc 5]), .asg (.loc 62) (.lst []), .asg (.loc 39) (.ci 0), .whl (.cb true) [.asg (.loc 72) (.mcall (.loc 112) 72 []), .expr (.mcall (.loc 62) 38 [.loc 72]), .ifs (.cmp .Eq (.attr (.loc 72) 4) (.cs [36, 101, 110, 100])) [.ret (.loc 62)] [], .ifs (.cmp .Eq (.attr (.loc 72) 4) (.cs [77, 65, 82, 75])) [.asg (.loc 39) (.bin .Add (.loc 39) (.ci 1)), .ifs (.cmp .Eq (.loc 39) (.ci 2)) [.expr (.mcall (.loc 62) 38 [.call 99 [.cs [36, 101, 110, 100], .cs [], .mcall (.loc 112) 98 [.attr (.attr (.loc 112) 91) 6]]]), .ret (.loc 62)] []] []]]
noncomputable def b641 : List St := [.asg (.attr (.loc 0) 114) (.loc 114), .asg (.attr (.loc 0) 51) (.loc 51)]
noncomputable def b646 : List St := [.asg (.loc 114) (.call 89 [.comp (.tpl [.loc 10, .call 89 [.loc 115]]) (.tup [10, 115]) (.attr (.loc 0) 114) none]), .asg (.loc 51) (.call 89 [.comp (.tpl [.sub (.loc 116) (.ci 0), .call 89 [.comp (.call 117 [.loc 118]) (.loc 118) (.loc 119) none]]) (.tup [116, 119]) (.attr (.loc 0) 51) none]), .ret (.tpl [.loc 114, .loc 51])]
noncomputable def b658 : List St := [.asg (.tup [75, 64]) (.loc 118), .ret (.tpl [.call 89 [.comp (.tpl [.sub (.loc 120) (.ci 0), .sub (.loc 120) (.ci 1)]) (.loc 120) (.loc 75) none], .loc 64])]
noncomputable def b672 : List St := [.asg (.attr (.loc 0) 121) (.loc 121), .asg (.attr (.loc 0) 6) (.ci 0)]
noncomputable def b679 : List St := [.ret (.attr (.sub (.attr (.loc 0) 121) (.attr (.loc 0) 6)) 4)]
noncomputable def b686 : List St := [.asg (.loc 7) (.attr (.sub (.attr (.loc 0) 121) (.attr (.loc 0) 6)) 7), .asg (.attr (.loc 0) 6) (.bin .Add (.attr (.loc 0) 6) (.ci 1)), .ret (.loc 7)]
noncomputable def b693 : List St := [.asg (.loc 72) (.sub (.attr (.loc 0) 121) (.attr (.loc 0) 6)), .raw 0]
noncomputable def b700 : List St := [.asg (.loc 114) (.lst []), .whl (.cmp .Eq (.mcall (.loc 0) 4 []) (.cs [75, 73, 78, 68])) [.expr (.mcall (.loc 114) 38 [.mcall (.loc 0) 122 []])], .ifs (.cmp .NotEq (.mcall (.loc 0) 4 []) (.cs [77, 65, 82, 75])) [.expr (.mcall (.loc 0) 123 [])] [], .expr (.mcall (.loc 0) 30 []), .asg (.loc 51) (.lst []), .whl (.cmp .Eq (.mcall (.loc 0) 4 []) (.cs [72, 69, 65, 68])) [.expr (.mcall (.loc 51) 38 [.mcall (.loc 0) 59 []])], .ifs (.cmp .Eq (.call 8 [.loc 51]) (.ci 0)) [.expr (.mcall (.loc 0) 123 [])] [], .ifs (.cmp .Eq (.mcall (.loc 0) 4 []) (.cs [77, 65, 82, 75])) [.expr (.mcall (.loc 0) 30 [])] [], .ifs (.cmp .NotEq (.mcall (.loc 0) 4 []) (.cs [36, 101, 110, 100])) [.expr (.mcall (.loc 0) 123 [])] [], .ret (.call 124 [.loc 114, .loc 51])]
noncomputable def b707 : List St := [.asg (.loc 10) (.mcall (.loc 0) 30 []), .asg (.loc 115) (.lst []), .whl (.cmp .In (.mcall (.loc 0) 4 []) (.glob 125)) [.expr (.mcall (.loc 115) 38 [.mcall (.loc 0) 30 []])], .ifs (.cmp .Eq (.call 8 [.loc 115]) (.ci 0)) [.expr (.mcall (.loc 0) 123 [])] [], .ret (.tpl [.loc 10, .loc 115])]
noncomputable def b714 : List St := [.asg (.loc 116) (.mcall (.loc 0) 30 []), .asg (.loc 119) (.lst [.mcall (.loc 0) 118 []]), .whl (.cmp .Eq (.mcall (.loc 0) 4 []) (.cs [66, 65, 82])) [.expr (.mcall (.loc 0) 30 []), .expr (.mcall (.loc 119) 38 [.mcall (.loc 0) 118 []])], .ifs (.cmp .Eq (.mcall (.loc 0) 4 []) (.cs [83, 69, 77, 73])) [.expr (.mcall (.loc 0) 30 [])] [], .ret (.tpl [.loc 116, .loc 119])]
noncomputable def b721 : List St := [.asg (.loc 75) (.lst []), .whl (.cmp .In (.mcall (.loc 0) 4 []) (.glob 126)) [.expr (.mcall (.loc 75) 38 [.mcall (.loc 0) 120 []])], .ifs (.cmp .NotEq (.mcall (.loc 0) 4 []) (.cs [80, 82, 69, 67])) [.ret (.tpl [.loc 75, .cs []])] [], .expr (.mcall (.loc 0) 30 []), .ifs (.bop .And [.cmp .NotEq (.mcall (.loc 0) 4 []) (.cs [78, 65, 77, 69]), .cmp .NotEq (.mcall (.loc 0) 4 []) (.cs [76, 73, 84, 69, 82, 65, 76])]) [.expr (.mcall (.loc 0) 123 [])] [], .asg (.loc 64) (.mcall (.loc 0) 30 []), .ifs (.cmp .Eq (.mcall (.loc 0) 4 []) (.cs [65, 67, 84, 73, 79, 78])) [.expr (.mcall (.loc 75) 38 [.mcall (.loc 0) 120 []])] [], .ret (.tpl [.loc 75, .loc 64])]
noncomputable def b728 : List St := [.asg (.loc 10) (.sub (.glob 126) (.mcall (.loc 0) 4 [])), .asg (.loc 7) (.mcall (.loc 0) 30 []), .ifs (.cmp .Eq (.loc 10) (.cs [101, 109, 112, 116, 121])) [.ret (.tpl [.loc 10, .cs []])] [], .ret (.tpl [.loc 10, .loc 7])]
noncomputable def b742 : List St := [.ret (.mcall (.call 127 [.call 128 [.loc 5]]) 129 [])]
noncomputable def b747 : List St := [.asg (.loc 82) (.comp (.loc 131) (.loc 131) (.loc 115) (some (.call 130 [.loc 131, .glob 29]))), .ifs (.cmp .Eq (.loc 10) (.cs [101, 120, 112, 101, 99, 116])) [.ifs (.bop .Or [.cmp .NotEq (.call 8 [.loc 115]) (.ci 1), .cmp .NotEq (.call 8 [.loc 82]) (.ci 1)]) [.raw 0] [], .expr (.mcall (.loc 132) 133 [.sub (.loc 82) (.ci 0)])] [.ifs (.cmp .Gt (.call 8 [.loc 82]) (.ci 0)) [.raw 0] [.ifs (.cmp .Eq (.loc 10) (.cs [115, 116, 97, 114, 116])) [.ifs (.cmp .NotEq (.call 8 [.loc 115]) (.ci 1)) [.raw 0] [], .expr (.mcall (.loc 132) 134 [.sub (.loc 115) (.ci 0)])] [.ifs (.cmp .Eq (.loc 10) (.cs [116, 111, 107, 101, 110])) [.fors (.loc 56) (.loc 115) [.expr (.mcall (.loc 132) 72 [.loc 56])]] [.expr (.mcall (.loc 132) 135 [.loc 10, .loc 115])]]]]]
noncomputable def b754 : List St := [.asg (.loc 136) (.ci 0), .asg (.loc 137) (.ci 0), .asg (.loc 62) (.lst []), .fors (.tup [4, 5]) (.loc 75) [.ifs (.cmp .Eq (.loc 4) (.cs [101, 109, 112, 116, 121])) [.asg (.loc 137) (.bin .Add (.loc 137) (.ci 1))] [.expr (.mcall (.loc 62) 38 [.tpl [.loc 4, .loc 5]]), .ifs (.cmp .Eq (.loc 4) (.cs [115, 121, 109])) [.asg (.loc 136) (.bin .Add (.loc 136) (.ci 1))] []]], .ifs (.bop .Or [.cmp .Gt (.loc 137) (.ci 1), .bop .And [.cmp .Gt (.loc 137) (.ci 0), .cmp .Gt (.loc 136) (.ci 0)]]) [.raw 0] [], .ret (.loc 62)]
noncomputable def b761 : List St := [.asg (.loc 132) (.call 138 []), .fors (.tup [10, 115]) (.attr (.loc 139) 114) [.expr (.call 140 [.loc 132, .loc 10, .loc 115])], .fors (.tup [116, 119]) (.attr (.loc 139) 51) [.fors (.tup [75, 64]) (.loc 119) [.expr (.mcall (.loc 132) 59 [.sub (.loc 116) (.ci 0), .call 141 [.loc 75], .ite (.cmp .NotEq (.loc 64) (.cs [])) (.loc 64) (.cn), .sub (.loc 116) (.ci 1)])]], .ret (.mcall (.loc 132) 142 [])]
noncomputable def b768 : List St := [.ret (.call 143 [.call 144 [.loc 5]])]
noncomputable def b774 : List St := [.asg (.loc 114) (.comp (.tpl [.loc 10, .call 86 [.loc 145]]) (.tup [10, 145]) (.sub (.loc 146) (.ci 0)) none), .asg (.loc 51) (.lst []), .fors (.tup [116, 119]) (.sub (.loc 146) (.ci 1)) [.asg (.loc 147) (.comp (.tpl [.comp (.tpl [.sub (.loc 120) (.ci 0), .sub (.loc 120) (.ci 1)]) (.loc 120) (.loc 75) none, .loc 64]) (.tup [75, 64]) (.loc 119) none), .expr (.mcall (.loc 51) 38 [.tpl [.tpl [.sub (.loc 116) (.ci 0), .sub (.loc 116) (.ci 1)], .loc 147]])], .ret (.call 124 [.loc 114, .loc 51])]
noncomputable def b781 : List St := [.ret (.mcall (.call 92 [.loc 5]) 56 [])]
noncomputable def b788 : List St := [.ifs (.cmp .Eq (.attr (.loc 72) 4) (.cs [75, 73, 78, 68])) [.asg (.loc 10) (.slc (.attr (.loc 72) 5) (some (.ci 1)) none), .ifs (.cmp .Eq (.loc 10) (.cs [112, 114, 101, 99])) [.ret (.call 99 [.cs [80, 82, 69, 67], .attr (.loc 72) 5, .attr (.loc 72) 6])] [], .ifs (.cmp .Eq (.loc 10) (.cs [101, 109, 112, 116, 121])) [.ret (.call 99 [.cs [69, 77, 80, 84, 89], .attr (.loc 72) 5, .attr (.loc 72) 6])] [], .ifs (.cmp .NotIn (.loc 10) (.glob 148)) [.raw 3] [], .ret (.call 99 [.cs [75, 73, 78, 68], .attr (.loc 72) 5, .attr (.loc 72) 6, .loc 10])] [], .ifs (.cmp .Eq (.attr (.loc 72) 4) (.cs [72, 69, 65, 68])) [.asg (.loc 56) (.call 149 [.attr (.loc 72) 5]), .ret (.call 99 [.cs [72, 69, 65, 68], .loc 56, .attr (.loc 72) 6, .tpl [.loc 56, .attr (.attr (.loc 72) 6) 2]])] [], .ifs (.cmp .Eq (.attr (.loc 72) 4) (.cs [78, 85, 77, 66, 69, 82])) [.ifs (.cmp .Gt (.call 8 [.attr (.loc 72) 5]) (.ci 9)) [.raw 4] [], .ret (.call 99 [.cs [78, 85, 77, 66, 69, 82], .attr (.loc 72) 5, .attr (.loc 72) 6, .call 29 [.attr (.loc 72) 5]])] [], .ifs (.cmp .Eq (.attr (.loc 72) 4) (.cs [76, 73, 84, 69, 82, 65, 76])) [.asg (.loc 12) (.mcall (.call 92 [.attr (.loc 72) 5, .ci 1]) 105 [.cs [39]]), .ret (.call 99 [.cs [76, 73, 84, 69, 82, 65, 76], .attr (.loc 72) 5, .attr (.loc 72) 6, .bin .Add (.bin .Add (.cs [39]) (.call 106 [.loc 12, .cs [39]])) (.cs [39])])] [], .ifs (.cmp .Eq (.attr (.loc 72) 4) (.cs [65, 67, 84, 73, 79, 78])) [.ret (.call 99 [.cs [65, 67, 84, 73, 79, 78], .attr (.loc 72) 5, .attr (.loc 72) 6, .mcall (.slc (.attr (.loc 72) 5) (some (.ci 1)) (some (.neg 1))) 110 []])] [], .ret (.call 99 [.attr (.loc 72) 4, .attr (.loc 72) 5, .attr (.loc 72) 6])]
noncomputable def b825 : List St := [.asg (.loc 150) (.bin .FloorDiv (.loc 6) (.call 8 [.loc 18])), .ret (.bin .Mod (.bin .Add (.bin .FloorDiv (.sub (.loc 18) (.bin .Mod (.loc 6) (.call 8 [.loc 18]))) (.bin .Add (.ci 1) (.loc 150))) (.bin .Mult (.ci 5) (.loc 150))) (.loc 27))]
noncomputable def b830 : List St := [.asg (.loc 151) (.mcall (.glob 152) 153 [.cs [10]]), .asg (.loc 6) (.call 154 [.loc 18, .ci 0, .call 8 [.loc 151]]), .asg (.sub (.loc 151) (.loc 6)) (.bin .Add (.sub (.loc 151) (.loc 6)) (.sub (.glob 155) (.call 154 [.loc 18, .ci 1, .ci 5]))), .asg (.loc 156) (.call 157 [.mcall (.cs [10]) 36 [.loc 151]]), .asg (.cel 49) (.bin .Add (.bin .Add (.bin .Add (.lst [.cs [36, 101, 110, 100], .cs [101, 114, 114, 111, 114], .cs [36, 117, 110, 100, 101, 102, 105, 110, 101, 100]]) (.call 86 [.glob 158])) (.lst [.cs [36, 97, 99, 99, 101, 112, 116]])) (.call 86 [.glob 159])), .ifs (.bop .Or [.cmp .NotEq (.attr (.loc 156) 49) (.cel 49), .cmp .NotEq (.attr (.loc 156) 50) (.ci 14), .cmp .NotEq (.attr (.loc 156) 52) (.dct), .cmp .NotEq (.attr (.loc 156) 54) (.mcall (.cel 49) 160 [.cs [102, 105, 108, 101]])]) [.ret (.cb false)] [], .asg (.loc 161) (.comp (.tpl [.sub (.cel 49) (.attr (.loc 59) 44), .mcall (.cs [32]) 36 [.comp (.sub (.cel 49) (.loc 63)) (.loc 63) (.attr (.loc 59) 45) none], .attr (.loc 59) 47]) (.loc 59) (.attr (.loc 156) 51) none), .ret (.cmp .Eq (.loc 161) (.bin .Add (.lst [.tpl [.cs [36, 97, 99, 99, 101, 112, 116], .cs [102, 105, 108, 101, 32, 36, 101, 110, 100], .cn]]) (.call 86 [.glob 162])))]
noncomputable def b835 : List St := [.asg (.loc 114) (.lst []), .fors (.cel 163) (.call 74 [.call 154 [.cel 18, .ci 2, .ci 3]]) [.asg (.loc 145) (.comp (.sub (.lst [.ci 7, .cs [97], .cs [39, 43, 39]]) (.call 154 [.cel 18, .bin .Add (.bin .Add (.ci 8) (.bin .Mult (.ci 3) (.cel 163))) (.loc 164), .ci 3])) (.loc 164) (.call 74 [.bin .Add (.ci 1) (.call 154 [.cel 18, .bin .Add (.ci 7) (.bin .Mult (.ci 3) (.cel 163)), .ci 2])]) none), .expr (.mcall (.loc 114) 38 [.tpl [.sub (.glob 165) (.call 154 [.cel 18, .bin .Add (.ci 6) (.bin .Mult (.ci 3) (.cel 163)), .ci 7]), .call 89 [.loc 145]]])], .asg (.loc 51) (.lst []), .fors (.cel 163) (.call 74 [.bin .Add (.ci 1) (.call 154 [.cel 18, .ci 3, .ci 2])]) [.asg (.loc 119) (.lst []), .fors (.loc 164) (.call 74 [.bin .Add (.ci 1) (.call 154 [.cel 18, .bin .Add (.ci 14) (.cel 163), .ci 2])]) [.asg (.loc 28) (.bin .Add (.bin .Add (.ci 16) (.bin .Mult (.ci 9) (.cel 163))) (.bin .Mult (.ci 18) (.loc 164))), .asg (.loc 75) (.lst []), .fors (.loc 166) (.call 74 [.call 154 [.cel 18, .loc 28, .ci 3]]) [.asg (.loc 167) (.sub (.lst [.cs [115, 121, 109], .cs [97, 99, 116], .cs [101, 109, 112, 116, 121]]) (.call 154 [.cel 18, .bin .Add (.bin .Add (.loc 28) (.ci 1)) (.bin .Mult (.ci 2) (.loc 166)), .ci 3])), .expr (.mcall (.loc 75) 38 [.tpl [.loc 167, .ite (.cmp .Eq (.loc 167) (.cs [101, 109, 112, 116, 121])) (.cs []) (.sub (.glob 168) (.call 154 [.cel 18, .bin .Add (.bin .Add (.loc 28) (.ci 2)) (.bin .Mult (.ci 2) (.loc 166)), .ci 4]))]])], .expr (.mcall (.loc 119) 38 [.tpl [.call 89 [.loc 75], .sub (.lst [.cs [], .cs [97], .cs [39, 43, 39]]) (.call 154 [.cel 18, .bin .Add (.loc 28) (.ci 7), .ci 3])]])], .expr (.mcall (.loc 51) 38 [.tpl [.tpl [.sub (.lst [.cs [115], .cs [116]]) (.cel 163), .bin .Add (.ci 1) (.call 154 [.cel 18, .bin .Add (.ci 52) (.cel 163), .ci 40])], .call 89 [.loc 119]]])], .asg (.loc 139) (.call 169 [.tpl [.call 89 [.loc 114], .call 89 [.loc 51]]]), .ifs (.cmp .NotEq (.comp (.tpl [.loc 10, .call 86 [.loc 145]]) (.tup [10, 145]) (.loc 114) none) (.attr (.loc 139) 114)) [.ret (.cb false)] [], .ifs (.cmp .NotEq (.comp (.tpl [.loc 116, .comp (.tpl [.call 86 [.loc 75], .loc 64]) (.tup [75, 64]) (.loc 119) none]) (.tup [116, 119]) (.loc 51) none) (.attr (.loc 139) 51)) [.ret (.cb false)] [], .ret (.cmp .Eq (.mcall (.loc 139) 147 []) (.tpl [.call 89 [.loc 114], .call 89 [.comp (.tpl [.sub (.loc 116) (.ci 0), .loc 119]) (.tup [116, 119]) (.loc 51) none]]))]
noncomputable def b842 : List St := [.asg (.loc 167) (.call 154 [.loc 18, .ci 4, .ci 10]), .asg (.loc 6) (.call 94 [.call 154 [.loc 18, .ci 5, .ci 90], .bin .Add (.ci 1) (.call 154 [.loc 18, .ci 60, .ci 9]), .bin .Add (.ci 1) (.call 154 [.loc 18, .ci 61, .ci 9])]), .asg (.loc 10) (.sub (.glob 165) (.call 154 [.loc 18, .ci 62, .ci 7])), .asg (.loc 56) (.sub (.lst [.cs [97], .cs [95, 120, 49], .cs [84, 111, 107]]) (.call 154 [.loc 18, .ci 63, .ci 3])), .asg (.loc 170) (.tpl [.tpl [.cs [75, 73, 78, 68], .bin .Add (.cs [37]) (.loc 10), .cs [75, 73, 78, 68], .bin .Add (.cs [37]) (.loc 10), .loc 10], .tpl [.cs [75, 73, 78, 68], .cs [37, 112, 114, 101, 99], .cs [80, 82, 69, 67], .cs [37, 112, 114, 101, 99], .cs [37, 112, 114, 101, 99]], .tpl [.cs [75, 73, 78, 68], .cs [37, 101, 109, 112, 116, 121], .cs [69, 77, 80, 84, 89], .cs [37, 101, 109, 112, 116, 121], .cs [37, 101, 109, 112, 116, 121]], .tpl [.cs [72, 69, 65, 68], .bin .Add (.loc 56) (.cs [32, 47, 42, 32, 58, 32, 42, 47, 32, 58]), .cs [72, 69, 65, 68], .loc 56, .tpl [.loc 56, .attr (.loc 6) 2]], .tpl [.cs [78, 85, 77, 66, 69, 82], .cs [48, 49, 50, 48], .cs [78, 85, 77, 66, 69, 82], .cs [48, 49, 50, 48], .ci 120], .tpl [.cs [76, 73, 84, 69, 82, 65, 76], .cs [39, 92, 120, 50, 98, 39], .cs [76, 73, 84, 69, 82, 65, 76], .cs [39, 92, 120, 50, 98, 39], .cs [39, 43, 39]], .tpl [.cs [65, 67, 84, 73, 79, 78], .bin .Add (.bin .Add (.cs [123, 32, 123]) (.loc 56)) (.cs [125, 32, 125]), .cs [65, 67, 84, 73, 79, 78], .bin .Add (.bin .Add (.cs [123, 32, 123]) (.loc 56)) (.cs [125, 32, 125]), .bin .Add (.bin .Add (.cs [123]) (.loc 56)) (.cs [125])], .tpl [.cs [66, 65, 82], .cs [124], .cs [66, 65, 82], .cs [124], .cs [124]]]), .ifs (.cmp .Gt (.loc 167) (.ci 7)) [.asg (.loc 171) (.ite (.cmp .Eq (.loc 167) (.ci 8)) (.call 99 [.cs [75, 73, 78, 68], .bin .Add (.bin .Add (.cs [37]) (.loc 56)) (.cs [122]), .loc 6]) (.call 99 [.cs [78, 85, 77, 66, 69, 82], .cs [49, 50, 51, 52, 53, 54, 55, 56, 57, 48], .loc 6])), .raw 1, .ret (.cb false)] [], .asg (.tup [4, 5, 172, 173, 174]) (.sub (.loc 170) (.loc 167)), .asg (.loc 72) (.call 175 [.call 99 [.loc 4, .loc 5, .loc 6]]), .ret (.cmp .Eq (.tpl [.attr (.loc 72) 4, .attr (.loc 72) 5, .attr (.loc 72) 7, .mcall (.attr (.loc 72) 6) 147 []]) (.tpl [.loc 172, .loc 173, .loc 174, .mcall (.loc 6) 147 []]))]
noncomputable def b847 : List St := [.asg (.loc 18) (.comp (.bin .Mod (.call 29 [.loc 176]) (.ci 999983)) (.loc 176) (.slc (.loc 177) none (some (.ci 30))) none), .ifs (.cmp .Eq (.loc 18) (.lst [])) [.asg (.loc 18) (.lst [.ci 0])] [], .ret (.bop .And [.call 178 [.loc 18], .call 179 [.loc 18], .call 180 [.loc 18]])]
noncomputable def fnT : Tr Fn := (.nd 564 ⟨[0], [], [], b564⟩
 (.nd 297 ⟨[0, 43, 44, 45, 46, 47, 2, 48], [], [.int (-1), .none, .int (0), .int (0)], b297⟩
 (.nd 184 ⟨[0, 10], [], [], b184⟩
 (.nd 155 ⟨[0], [], [], b155⟩
 (.nd 112 ⟨[0, 4, 5, 6, 7], [], [.none], b112⟩
 (.nd 43 ⟨[0], [], [], b43⟩
 (.nd 36 ⟨[0, 1, 2, 3], [], [], b36⟩
 .lf .lf) .lf) (.nd 148 ⟨[0, 5, 6], [], [.int (0)], b148⟩
 .lf .lf)) (.nd 170 ⟨[0, 10], [], [], b170⟩
 (.nd 163 ⟨[0, 9], [], [.int (0)], b163⟩
 .lf .lf) (.nd 177 ⟨[0], [], [], b177⟩
 .lf .lf))) (.nd 248 ⟨[0], [], [], b248⟩
 (.nd 213 ⟨[0], [], [], b213⟩
 (.nd 198 ⟨[0], [], [], b198⟩
 (.nd 191 ⟨[0, 15], [], [], b191⟩
 .lf .lf) .lf) (.nd 241 ⟨[0, 15, 27, 28], [], [], b241⟩
 .lf .lf)) (.nd 276 ⟨[12, 39], [], [], b276⟩
 (.nd 255 ⟨[0, 16], [], [], b255⟩
 .lf .lf) (.nd 281 ⟨[5, 16], [16], [], b281⟩
 .lf .lf)))) (.nd 485 ⟨[0, 56], [], [], b485⟩
 (.nd 422 ⟨[0, 44, 45, 64, 47, 2, 48], [], [], b422⟩
 (.nd 401 ⟨[56], [], [], b401⟩
 (.nd 393 ⟨[45, 50], [], [], b393⟩
 (.nd 316 ⟨[0, 49, 50, 51, 52, 53, 54], [], [], b316⟩
 .lf .lf) .lf) (.nd 408 ⟨[56], [], [], b408⟩
 .lf .lf)) (.nd 450 ⟨[0, 56], [], [], b450⟩
 (.nd 443 ⟨[0], [], [], b443⟩
 .lf .lf) (.nd 478 ⟨[0, 56], [], [], b478⟩
 .lf .lf))) (.nd 521 ⟨[0, 80, 45, 82, 50], [], [], b521⟩
 (.nd 507 ⟨[0, 56], [], [], b507⟩
 (.nd 500 ⟨[0, 44, 75, 64, 2], [], [.none, .int (0)], b500⟩
 .lf .lf) (.nd 514 ⟨[0], [], [], b514⟩
 .lf .lf)) (.nd 550 ⟨[0, 5], [], [], b550⟩
 (.nd 526 ⟨[0], [82], [], b526⟩
 .lf .lf) (.nd 557 ⟨[0, 1], [], [], b557⟩
 .lf .lf))))) (.nd 707 ⟨[0], [], [], b707⟩
 (.nd 641 ⟨[0, 114, 51], [], [], b641⟩
 (.nd 599 ⟨[0, 6], [], [], b599⟩
 (.nd 585 ⟨[0, 6], [], [], b585⟩
 (.nd 578 ⟨[0, 56, 6], [], [], b578⟩
 (.nd 571 ⟨[0], [], [], b571⟩
 .lf .lf) .lf) (.nd 592 ⟨[0, 6], [], [], b592⟩
 .lf .lf)) (.nd 613 ⟨[0, 6], [], [], b613⟩
 (.nd 606 ⟨[0, 6], [], [], b606⟩
 .lf .lf) (.nd 627 ⟨[5], [], [], b627⟩
 .lf .lf))) (.nd 679 ⟨[0], [], [], b679⟩
 (.nd 658 ⟨[118], [], [], b658⟩
 (.nd 646 ⟨[0], [], [], b646⟩
 .lf .lf) (.nd 672 ⟨[0, 121], [], [], b672⟩
 .lf .lf)) (.nd 693 ⟨[0], [], [], b693⟩
 (.nd 686 ⟨[0], [], [], b686⟩
 .lf .lf) (.nd 700 ⟨[0], [], [], b700⟩
 .lf .lf)))) (.nd 774 ⟨[146], [], [], b774⟩
 (.nd 747 ⟨[132, 10, 115], [], [], b747⟩
 (.nd 728 ⟨[0], [], [], b728⟩
 (.nd 721 ⟨[0], [], [], b721⟩
 (.nd 714 ⟨[0], [], [], b714⟩
 .lf .lf) .lf) (.nd 742 ⟨[5], [], [], b742⟩
 .lf .lf)) (.nd 761 ⟨[139], [], [], b761⟩
 (.nd 754 ⟨[75], [], [], b754⟩
 .lf .lf) (.nd 768 ⟨[5], [], [], b768⟩
 .lf .lf))) (.nd 830 ⟨[18], [49], [], b830⟩
 (.nd 788 ⟨[72], [], [], b788⟩
 (.nd 781 ⟨[5], [], [], b781⟩
 .lf .lf) (.nd 825 ⟨[18, 6, 27], [], [], b825⟩
 .lf .lf)) (.nd 842 ⟨[18], [], [], b842⟩
 (.nd 835 ⟨[18], [18, 163], [], b835⟩
 .lf .lf) (.nd 847 ⟨[177], [], [], b847⟩
 .lf .lf))))))
noncomputable def clsT : Tr (List (Nat × Nat)) := (.nd 425 [(181, 422)]
 (.nd 258 [(181, 148), (11, 155), (21, 163), (13, 170), (30, 177), (103, 184), (24, 191), (96, 198), (183, 206), (56, 213), (43, 220), (184, 227), (185, 234), (34, 241), (37, 248), (105, 255)]
 (.nd 129 [(181, 112), (147, 119), (182, 126)]
 (.nd 46 [(181, 36), (147, 43)]
 .lf .lf) .lf) (.nd 382 [(181, 316), (186, 323), (187, 330), (188, 337), (43, 344), (189, 351), (131, 358), (190, 365), (191, 372), (192, 379)]
 (.nd 300 [(181, 297)]
 .lf .lf) .lf)) (.nd 649 [(181, 641), (147, 646)]
 (.nd 616 [(181, 550), (98, 557), (97, 564), (72, 571), (100, 578), (101, 585), (102, 592), (47, 599), (108, 606), (10, 613)]
 (.nd 529 [(181, 443), (72, 450), (135, 457), (134, 464), (133, 471), (73, 478), (76, 485), (77, 492), (59, 500), (79, 507), (84, 514), (46, 521), (142, 526)]
 .lf .lf) .lf) (.nd 731 [(181, 672), (4, 679), (30, 686), (123, 693), (129, 700), (122, 707), (59, 714), (118, 721), (120, 728)]
 .lf .lf)))
noncomputable def globT : Tr V := (.nd 113 (.glb 616)
 (.nd 74 (.typ 0)
 (.nd 33 (.str [48, 49, 50, 51, 52, 53, 54, 55])
 (.nd 23 (.str [48, 49, 50, 51, 52, 53, 54, 55, 56, 57])
 (.nd 19 (.bi 1)
 (.nd 8 (.bi 0)
 .lf .lf) (.nd 22 (.str [97, 98, 99, 100, 101, 102, 103, 104, 105, 106, 107, 108, 109, 110, 111, 112, 113, 114, 115, 116, 117, 118, 119, 120, 121, 122, 65, 66, 67, 68, 69, 70, 71, 72, 73, 74, 75, 76, 77, 78, 79, 80, 81, 82, 83, 84, 85, 86, 87, 88, 89, 90, 95, 48, 49, 50, 51, 52, 53, 54, 55, 56, 57])
 .lf .lf)) (.nd 31 (.bi 3)
 (.nd 29 (.typ 1)
 .lf .lf) (.nd 32 (.glb 22)
 .lf .lf))) (.nd 42 (.glb 276)
 (.nd 40 (.bi 4)
 (.nd 35 (.str [48, 49, 50, 51, 52, 53, 54, 55, 56, 57, 97, 98, 99, 100, 101, 102, 65, 66, 67, 68, 69, 70])
 .lf .lf) (.nd 41 (.glb 269)
 .lf .lf)) (.nd 71 (.glb 401)
 (.nd 70 (.glb 408)
 .lf .lf) .lf))) (.nd 90 (.glb 382)
 (.nd 86 (.typ 3)
 (.nd 81 (.glb 393)
 (.nd 78 (.glb 425)
 .lf .lf) (.nd 85 (.tup [.str [36, 101, 110, 100], .str [101, 114, 114, 111, 114], .str [36, 117, 110, 100, 101, 102, 105, 110, 101, 100]])
 .lf .lf)) (.nd 88 (.int 0)
 (.nd 87 (.glb 300)
 .lf .lf) (.nd 89 (.typ 4)
 .lf .lf))) (.nd 99 (.glb 129)
 (.nd 94 (.glb 46)
 (.nd 92 (.glb 258)
 .lf .lf) (.nd 95 (.str [32, 9, 13, 10, 12, 11])
 .lf .lf)) (.nd 111 (.tup [.str [116, 111, 107, 101, 110], .str [108, 101, 102, 116], .str [114, 105, 103, 104, 116], .str [110, 111, 110, 97, 115, 115, 111, 99], .str [112, 114, 101, 99, 101, 100, 101, 110, 99, 101], .str [115, 116, 97, 114, 116], .str [101, 120, 112, 101, 99, 116]])
 (.nd 106 (.glb 281)
 .lf .lf) .lf)))) (.nd 152 (.str [37, 116, 111, 107, 101, 110, 32, 75, 73, 78, 68, 32, 78, 65, 77, 69, 32, 72, 69, 65, 68, 32, 76, 73, 84, 69, 82, 65, 76, 32, 78, 85, 77, 66, 69, 82, 32, 77, 65, 82, 75, 32, 66, 65, 82, 32, 83, 69, 77, 73, 32, 65, 67, 84, 73, 79, 78, 32, 80, 82, 69, 67, 32, 69, 77, 80, 84, 89, 10, 37, 37, 10, 102, 105, 108, 101, 58, 100, 101, 99, 108, 115, 32, 77, 65, 82, 75, 32, 114, 117, 108, 101, 115, 123, 36, 36, 61, 91, 36, 49, 44, 36, 51, 93, 125, 124, 100, 101, 99, 108, 115, 32, 77, 65, 82, 75, 32, 114, 117, 108, 101, 115, 32, 77, 65, 82, 75, 123, 36, 36, 61, 91, 36, 49, 44, 36, 51, 93, 125, 10, 100, 101, 99, 108, 115, 58, 37, 101, 109, 112, 116, 121, 123, 36, 36, 61, 91, 93, 125, 124, 100, 101, 99, 108, 115, 32, 75, 73, 78, 68, 32, 115, 121, 109, 115, 123, 36, 36, 61, 112, 117, 115, 104, 40, 36, 49, 44, 91, 36, 50, 44, 36, 51, 93, 41, 125, 10, 115, 121, 109, 115, 58, 115, 121, 109, 123, 36, 36, 61, 91, 36, 49, 93, 125, 124, 115, 121, 109, 115, 32, 115, 121, 109, 123, 36, 36, 61, 112, 117, 115, 104, 40, 36, 49, 44, 36, 50, 41, 125, 10, 115, 121, 109, 58, 110, 97, 109, 101, 124, 78, 85, 77, 66, 69, 82, 10, 110, 97, 109, 101, 58, 78, 65, 77, 69, 124, 76, 73, 84, 69, 82, 65, 76, 10, 114, 117, 108, 101, 115, 58, 114, 117, 108, 101, 123, 36, 36, 61, 91, 36, 49, 93, 125, 124, 114, 117, 108, 101, 115, 32, 114, 117, 108, 101, 123, 36, 36, 61, 112, 117, 115, 104, 40, 36, 49, 44, 36, 50, 41, 125, 10, 114, 117, 108, 101, 58, 97, 108, 116, 115, 124, 97, 108, 116, 115, 32, 83, 69, 77, 73, 10, 97, 108, 116, 115, 58, 72, 69, 65, 68, 32, 97, 108, 116, 123, 36, 36, 61, 91, 36, 49, 44, 91, 36, 50, 93, 93, 125, 124, 97, 108, 116, 115, 32, 66, 65, 82, 32, 97, 108, 116, 123, 36, 36, 61, 91, 104, 101, 97, 100, 40, 36, 49, 41, 44, 112, 117, 115, 104, 40, 108, 97, 115, 116, 40, 36, 49, 41, 44, 36, 51, 41, 93, 125, 10, 97, 108, 116, 58, 112, 97, 114, 116, 115, 123, 36, 36, 61, 91, 36, 49, 44, 34, 34, 93, 125, 124, 112, 97, 114, 116, 115, 32, 80, 82, 69, 67, 32, 110, 97, 109, 101, 123, 36, 36, 61, 91, 36, 49, 44, 36, 51, 93, 125, 124, 112, 97, 114, 116, 115, 32, 80, 82, 69, 67, 32, 110, 97, 109, 101, 32, 65, 67, 84, 73, 79, 78, 123, 36, 36, 61, 91, 112, 117, 115, 104, 40, 36, 49, 44, 91, 34, 97, 99, 116, 34, 44, 36, 52, 93, 41, 44, 36, 51, 93, 125, 10, 112, 97, 114, 116, 115, 58, 37, 101, 109, 112, 116, 121, 123, 36, 36, 61, 91, 93, 125, 124, 112, 97, 114, 116, 115, 32, 78, 65, 77, 69, 123, 36, 36, 61, 112, 117, 115, 104, 40, 36, 49, 44, 91, 34, 115, 121, 109, 34, 44, 36, 50, 93, 41, 125, 124, 112, 97, 114, 116, 115, 32, 76, 73, 84, 69, 82, 65, 76, 123, 36, 36, 61, 112, 117, 115, 104, 40, 36, 49, 44, 91, 34, 115, 121, 109, 34, 44, 36, 50, 93, 41, 125, 10, 124, 112, 97, 114, 116, 115, 32, 65, 67, 84, 73, 79, 78, 123, 36, 36, 61, 112, 117, 115, 104, 40, 36, 49, 44, 91, 34, 97, 99, 116, 34, 44, 36, 50, 93, 41, 125, 124, 112, 97, 114, 116, 115, 32, 69, 77, 80, 84, 89, 123, 36, 36, 61, 112, 117, 115, 104, 40, 36, 49, 44, 91, 34, 101, 109, 112, 116, 121, 34, 44, 34, 34, 93, 41, 125, 10])
 (.nd 138 (.glb 529)
 (.nd 126 (.glb 536)
 (.nd 124 (.glb 649)
 (.nd 117 (.glb 658)
 .lf .lf) (.nd 125 (.tup [.str [78, 65, 77, 69], .str [76, 73, 84, 69, 82, 65, 76], .str [78, 85, 77, 66, 69, 82]])
 .lf .lf)) (.nd 128 (.glb 627)
 (.nd 127 (.glb 731)
 .lf .lf) (.nd 130 (.bi 5)
 .lf .lf))) (.nd 144 (.glb 742)
 (.nd 141 (.glb 754)
 (.nd 140 (.glb 747)
 .lf .lf) (.nd 143 (.glb 761)
 .lf .lf)) (.nd 149 (.glb 781)
 (.nd 148 (.tup [.str [116, 111, 107, 101, 110], .str [108, 101, 102, 116], .str [114, 105, 103, 104, 116], .str [110, 111, 110, 97, 115, 115, 111, 99], .str [112, 114, 101, 99, 101, 100, 101, 110, 99, 101], .str [115, 116, 97, 114, 116], .str [101, 120, 112, 101, 99, 116]])
 .lf .lf) .lf))) (.nd 165 (.tup [.str [116, 111, 107, 101, 110], .str [108, 101, 102, 116], .str [114, 105, 103, 104, 116], .str [110, 111, 110, 97, 115, 115, 111, 99], .str [112, 114, 101, 99, 101, 100, 101, 110, 99, 101], .str [115, 116, 97, 114, 116], .str [101, 120, 112, 101, 99, 116]])
 (.nd 158 (.tup [.str [75, 73, 78, 68], .str [78, 65, 77, 69], .str [72, 69, 65, 68], .str [76, 73, 84, 69, 82, 65, 76], .str [78, 85, 77, 66, 69, 82], .str [77, 65, 82, 75], .str [66, 65, 82], .str [83, 69, 77, 73], .str [65, 67, 84, 73, 79, 78], .str [80, 82, 69, 67], .str [69, 77, 80, 84, 89]])
 (.nd 155 (.tup [.str [32], .str [10], .str [32, 47, 47, 32, 97, 32, 58, 32, 98], .str [32, 47, 42, 32, 99, 32, 124, 32, 42, 47], .str [9]])
 (.nd 154 (.glb 825)
 .lf .lf) (.nd 157 (.glb 768)
 .lf .lf)) (.nd 162 (.tup [.tup [.str [102, 105, 108, 101], .str [100, 101, 99, 108, 115, 32, 77, 65, 82, 75, 32, 114, 117, 108, 101, 115], .str [36, 36, 61, 91, 36, 49, 44, 36, 51, 93]], .tup [.str [102, 105, 108, 101], .str [100, 101, 99, 108, 115, 32, 77, 65, 82, 75, 32, 114, 117, 108, 101, 115, 32, 77, 65, 82, 75], .str [36, 36, 61, 91, 36, 49, 44, 36, 51, 93]], .tup [.str [100, 101, 99, 108, 115], .str [], .str [36, 36, 61, 91, 93]], .tup [.str [100, 101, 99, 108, 115], .str [100, 101, 99, 108, 115, 32, 75, 73, 78, 68, 32, 115, 121, 109, 115], .str [36, 36, 61, 112, 117, 115, 104, 40, 36, 49, 44, 91, 36, 50, 44, 36, 51, 93, 41]], .tup [.str [115, 121, 109, 115], .str [115, 121, 109], .str [36, 36, 61, 91, 36, 49, 93]], .tup [.str [115, 121, 109, 115], .str [115, 121, 109, 115, 32, 115, 121, 109], .str [36, 36, 61, 112, 117, 115, 104, 40, 36, 49, 44, 36, 50, 41]], .tup [.str [115, 121, 109], .str [110, 97, 109, 101], .none], .tup [.str [115, 121, 109], .str [78, 85, 77, 66, 69, 82], .none], .tup [.str [110, 97, 109, 101], .str [78, 65, 77, 69], .none], .tup [.str [110, 97, 109, 101], .str [76, 73, 84, 69, 82, 65, 76], .none], .tup [.str [114, 117, 108, 101, 115], .str [114, 117, 108, 101], .str [36, 36, 61, 91, 36, 49, 93]], .tup [.str [114, 117, 108, 101, 115], .str [114, 117, 108, 101, 115, 32, 114, 117, 108, 101], .str [36, 36, 61, 112, 117, 115, 104, 40, 36, 49, 44, 36, 50, 41]], .tup [.str [114, 117, 108, 101], .str [97, 108, 116, 115], .none], .tup [.str [114, 117, 108, 101], .str [97, 108, 116, 115, 32, 83, 69, 77, 73], .none], .tup [.str [97, 108, 116, 115], .str [72, 69, 65, 68, 32, 97, 108, 116], .str [36, 36, 61, 91, 36, 49, 44, 91, 36, 50, 93, 93]], .tup [.str [97, 108, 116, 115], .str [97, 108, 116, 115, 32, 66, 65, 82, 32, 97, 108, 116], .str [36, 36, 61, 91, 104, 101, 97, 100, 40, 36, 49, 41, 44, 112, 117, 115, 104, 40, 108, 97, 115, 116, 40, 36, 49, 41, 44, 36, 51, 41, 93]], .tup [.str [97, 108, 116], .str [112, 97, 114, 116, 115], .str [36, 36, 61, 91, 36, 49, 44, 34, 34, 93]], .tup [.str [97, 108, 116], .str [112, 97, 114, 116, 115, 32, 80, 82, 69, 67, 32, 110, 97, 109, 101], .str [36, 36, 61, 91, 36, 49, 44, 36, 51, 93]], .tup [.str [97, 108, 116], .str [112, 97, 114, 116, 115, 32, 80, 82, 69, 67, 32, 110, 97, 109, 101, 32, 65, 67, 84, 73, 79, 78], .str [36, 36, 61, 91, 112, 117, 115, 104, 40, 36, 49, 44, 91, 34, 97, 99, 116, 34, 44, 36, 52, 93, 41, 44, 36, 51, 93]], .tup [.str [112, 97, 114, 116, 115], .str [], .str [36, 36, 61, 91, 93]], .tup [.str [112, 97, 114, 116, 115], .str [112, 97, 114, 116, 115, 32, 78, 65, 77, 69], .str [36, 36, 61, 112, 117, 115, 104, 40, 36, 49, 44, 91, 34, 115, 121, 109, 34, 44, 36, 50, 93, 41]], .tup [.str [112, 97, 114, 116, 115], .str [112, 97, 114, 116, 115, 32, 76, 73, 84, 69, 82, 65, 76], .str [36, 36, 61, 112, 117, 115, 104, 40, 36, 49, 44, 91, 34, 115, 121, 109, 34, 44, 36, 50, 93, 41]], .tup [.str [112, 97, 114, 116, 115], .str [112, 97, 114, 116, 115, 32, 65, 67, 84, 73, 79, 78], .str [36, 36, 61, 112, 117, 115, 104, 40, 36, 49, 44, 91, 34, 97, 99, 116, 34, 44, 36, 50, 93, 41]], .tup [.str [112, 97, 114, 116, 115], .str [112, 97, 114, 116, 115, 32, 69, 77, 80, 84, 89], .str [36, 36, 61, 112, 117, 115, 104, 40, 36, 49, 44, 91, 34, 101, 109, 112, 116, 121, 34, 44, 34, 34, 93, 41]]])
 (.nd 159 (.tup [.str [102, 105, 108, 101], .str [100, 101, 99, 108, 115], .str [115, 121, 109, 115], .str [115, 121, 109], .str [110, 97, 109, 101], .str [114, 117, 108, 101, 115], .str [114, 117, 108, 101], .str [97, 108, 116, 115], .str [97, 108, 116], .str [112, 97, 114, 116, 115]])
 .lf .lf) .lf)) (.nd 178 (.glb 830)
 (.nd 169 (.glb 774)
 (.nd 168 (.tup [.str [97], .str [39, 43, 39], .str [116, 111, 107, 95, 49], .str [115]])
 .lf .lf) (.nd 175 (.glb 788)
 .lf .lf)) (.nd 180 (.glb 842)
 (.nd 179 (.glb 835)
 .lf .lf) .lf)))))
noncomputable def sdT : Tr (List (S × V)) := (.nd 536 [([78, 65, 77, 69], .str [115, 121, 109]), ([76, 73, 84, 69, 82, 65, 76], .str [115, 121, 109]), ([65, 67, 84, 73, 79, 78], .str [97, 99, 116]), ([69, 77, 80, 84, 89], .str [101, 109, 112, 116, 121])]
 (.nd 22 [([110], .int (10)), ([116], .int (9)), ([114], .int (13)), ([102], .int (12)), ([118], .int (11)), ([97], .int (7)), ([98], .int (8))]
 .lf .lf) .lf)
noncomputable def tb (orc : Nat → Nat → List V → Hp → Option (V × Hp)) (raw : Nat → Nat → Fm → Hp → Option (Fl × Fm × Hp)) : Tb := ⟨fnT.get, clsT.get, globT.get, sdT.get, orc, raw⟩
end
section
noncomputable def typName : Nat → String
  | 0 => "range"
  | 1 => "int"
  | 2 => "str"
  | 3 => "list"
  | _ => "tuple"
noncomputable def biName : Nat → String
  | 0 => "len"
  | 1 => "min"
  | 2 => "max"
  | 3 => "chr"
  | 4 => "ord"
  | _ => "isinstance"
noncomputable def Off (R : List Addr) (ρ : Nat → Addr) (n : Nat) (a : Addr) : Prop := (∀ i, i < n → ρ i ≠ a) ∧ a ∉ R
inductive IntsL : List Value → List Int → Prop
  | nil : IntsL [] []
  | cons {i : Int} {t : Tok} {cvs : List Value} {is : List Int} (r : IntsL cvs is) : IntsL (.int i t :: cvs) (i :: is)
noncomputable def pickI (xs : List Int) (a m : Int) : Int :=
  let t := Int.fdiv a xs.length
  Int.fmod (Int.fdiv (xs.getD (Int.fmod a xs.length).toNat 0) (1 + t) + 5 * t) m
noncomputable def RowOk (r : Row) : Prop := 0 < r.xs.length ∧ r.xs.length ≤ 30 ∧ (∀ x, x ∈ r.xs → 0 ≤ x ∧ x < 999983) ∧ ∀ a m v, r.tab a m = some v → 0 ≤ a ∧ a < 1000 ∧ 0 < m ∧ m < 1000 ∧ v = pickI r.xs a m
mutual
inductive VRel (R : List Addr) (ρ : Nat → Addr) (n : Nat) (h : Heap) : V → Value → Prop
  | none : VRel R ρ n h .none .none
  | bool (b : Bool) : VRel R ρ n h (.bool b) (.bool b)
  | int (i : Int) (t : Tok) : VRel R ρ n h (.int i) (.int i t)
  | str (s : S) (t : Tok) : VRel R ρ n h (.str s) (.str (toStr s) t)
  | ref (i : Nat) (hi : i < n) : VRel R ρ n h (.ref i) (.ref (ρ i))
  | glb (a : Nat) : VRel R ρ n h (.glb a) (.ref a)
  | typ (k : Nat) : VRel R ρ n h (.typ k) (.type (typName k))
  | bi (k : Nat) : VRel R ρ n h (.bi k) (.builtin (biName k))
  | rng {a b : Int} {r : Addr} {t u v : Tok} (hr : IsRange h r a b 1 t u v) (off : Off R ρ n r) : VRel R ρ n h (.rng a b) (.ref r)
  | tup {vs : List V} {cvs : List Value} {a : Addr} {o : Obj} {k : Nat} (ho : h.get? a = some o) (hc : o.cls = .type "tuple") (hd : o.data = .seq cvs.toArray k) (off : Off R ρ n a) (r : VRels R ρ n h vs cvs) : VRel R ρ n h (.tup vs) (.ref a)
  | rol {vs : List V} {cvs : List Value} {a : Addr} {o : Obj} {k : Nat} (ho : h.get? a = some o) (hc : o.cls = .type "list") (hd : o.data = .seq cvs.toArray k) (off : Off R ρ n a) (r : VRels R ρ n h vs cvs) : VRel R ρ n h (.rol vs) (.ref a)
  | rin {c : Nat} {fs : List (Nat × V)} {es : List DictEntry} {a dx : Addr} {k : Nat} (ho : h.get? a = some (instObj c dx)) (hd : h.get? dx = some (dictOf es k)) (off : Off R ρ n a) (offd : Off R ρ n dx) (r : DRel R ρ n h fs es) : VRel R ρ n h (.rin c fs) (.ref a)
  | row {r : Row} {cvs : List Value} {a : Addr} {o : Obj} {k : Nat} (ok : RowOk r) (ho : h.get? a = some o) (hc : o.cls = .type "list") (hd : o.data = .seq cvs.toArray k) (off : Off R ρ n a) (hi : IntsL cvs r.xs) : VRel R ρ n h (.row r) (.ref a)
  | edc {a : Addr} {k : Nat} (ho : h.get? a = some (dictOf [] k)) (off : Off R ρ n a) (hs : (a == sysModules) = false) : VRel R ρ n h .edc (.ref a)
inductive VRels (R : List Addr) (ρ : Nat → Addr) (n : Nat) (h : Heap) : List V → List Value → Prop
  | nil : VRels R ρ n h [] []
  | cons {v : V} {cv : Value} {vs : List V} {cvs : List Value} (x : VRel R ρ n h v cv) (r : VRels R ρ n h vs cvs) : VRels R ρ n h (v :: vs) (cv :: cvs)
inductive DRel (R : List Addr) (ρ : Nat → Addr) (n : Nat) (h : Heap) : List (Nat × V) → List DictEntry → Prop
  | nil : DRel R ρ n h [] []
  | cons {x : Nat} {v : V} {cv : Value} {fs : List (Nat × V)} {es : List DictEntry} {hs : Int} {t : Tok} (hx : x < nN) (y : VRel R ρ n h v cv) (r : DRel R ρ n h fs es) : DRel R ρ n h ((x, v) :: fs) (⟨hs, .str (nm x) t, cv⟩ :: es)
end
structure Grow (X : List Addr) (ρ : Nat → Addr) (n : Nat) (h : Heap) (ρ' : Nat → Addr) (n' : Nat) (h' : Heap) : Prop where
  le : n ≤ n'
  same : ∀ i, i < n → ρ' i = ρ i
  keep : ∀ b o, h.get? b = some o → b ∉ X → (∀ i, i < n → ρ i ≠ b) → h'.get? b = some o
  new : ∀ i, n ≤ i → i < n' → h.get? (ρ' i) = none
  live : ∀ b, b ∈ X → (h.get? b).isSome = true → (h'.get? b).isSome = true
theorem Grow.refl (X : List Addr) (ρ : Nat → Addr) (n : Nat) (h : Heap) : Grow X ρ n h ρ n h :=
  ⟨Nat.le_refl _, fun _ _ => rfl, fun _ _ e _ _ => e, fun _ a b => absurd b (Nat.not_lt.mpr a), fun _ _ e => e⟩
theorem Grow.of_keeps (X : List Addr) (ρ : Nat → Addr) (n : Nat) {h h' : Heap} (hk : ∀ b o, h.get? b = some o → h'.get? b = some o) : Grow X ρ n h ρ n h' :=
  ⟨Nat.le_refl _, fun _ _ => rfl, fun b o e _ _ => hk b o e, fun _ a b => absurd b (Nat.not_lt.mpr a), fun b _ e => by obtain ⟨o, q⟩ := Option.isSome_iff_exists.mp e; rw [hk b o q]; rfl⟩
theorem Grow.off {X : List Addr} {ρ ρ' : Nat → Addr} {n n' : Nat} {h h' : Heap} (G : Grow X ρ n h ρ' n' h') {b : Addr} {o : Obj} (e : h.get? b = some o) (off : ∀ i, i < n → ρ i ≠ b) : ∀ i, i < n' → ρ' i ≠ b := fun i hi q => by
  by_cases hn : i < n
  · exact off i hn ((G.same i hn).symm.trans q)
  · have := G.new i (Nat.not_lt.mp hn) hi
    rw [q, e] at this; cases this
theorem Grow.wider {X Y : List Addr} {ρ ρ' : Nat → Addr} {n n' : Nat} {h h' : Heap} (G : Grow X ρ n h ρ' n' h') (hX : ∀ b, b ∈ X → b ∈ Y) (hl : ∀ b, b ∈ Y → (h.get? b).isSome = true → (h'.get? b).isSome = true) : Grow Y ρ n h ρ' n' h' :=
  ⟨G.le, G.same, fun b o e y off => G.keep b o e (fun x => y (hX b x)) off, G.new, hl⟩
theorem Grow.narrow {X Y : List Addr} {ρ ρ' : Nat → Addr} {n n' : Nat} {h h' : Heap} (G : Grow X ρ n h ρ' n' h') (hX : ∀ b, b ∈ X → b ∈ Y ∨ h.get? b = none) (hY : ∀ b, b ∈ Y → b ∈ X) : Grow Y ρ n h ρ' n' h' :=
  ⟨G.le, G.same, fun b o e y off => G.keep b o e (fun x => (hX b x).elim y fun q => by rw [e] at q; cases q) off, G.new, fun b y => G.live b (hY b y)⟩
theorem Off.mono {R X : List Addr} {ρ ρ' : Nat → Addr} {n n' : Nat} {h h' : Heap} (G : Grow X ρ n h ρ' n' h') {a : Addr} {o : Obj} (e : h.get? a = some o) (x : Off R ρ n a) : Off R ρ' n' a := ⟨G.off e x.1, x.2⟩
noncomputable def VInv (R : List Addr) (ρ : Nat → Addr) (n : Nat) (h : Heap) (P : Value → Prop) : V → Prop
  | .none => P .none
  | .bool b => P (.bool b)
  | .int i => ∀ t, P (.int i t)
  | .str s => ∀ t, P (.str (toStr s) t)
  | .ref i => i < n → P (.ref (ρ i))
  | .glb a => P (.ref a)
  | .typ k => P (.type (typName k))
  | .bi k => P (.builtin (biName k))
  | .rng a b => ∀ r t u v, IsRange h r a b 1 t u v → Off R ρ n r → P (.ref r)
  | .tup vs => ∀ cvs a o k, h.get? a = some o → o.cls = .type "tuple" → o.data = .seq (List.toArray cvs) k → Off R ρ n a → VRels R ρ n h vs cvs → P (.ref a)
  | .rol vs => ∀ cvs a o k, h.get? a = some o → o.cls = .type "list" → o.data = .seq (List.toArray cvs) k → Off R ρ n a → VRels R ρ n h vs cvs → P (.ref a)
  | .rin c fs => ∀ es a dx k, h.get? a = some (instObj c dx) → h.get? dx = some (dictOf es k) → Off R ρ n a → Off R ρ n dx → DRel R ρ n h fs es → P (.ref a)
  | .row r => ∀ cvs a o k, RowOk r → h.get? a = some o → o.cls = .type "list" → o.data = .seq (List.toArray cvs) k → Off R ρ n a → IntsL cvs r.xs → P (.ref a)
  | .edc => ∀ a k, h.get? a = some (dictOf [] k) → Off R ρ n a → (a == sysModules) = false → P (.ref a)
theorem VRel.inv {R : List Addr} {ρ : Nat → Addr} {n : Nat} {h : Heap} {P : Value → Prop} {v : V} {a : Value} (r : VRel R ρ n h v a) : VInv R ρ n h P v → P a :=
  VRel.casesOn (motive_1 := fun v a _ => VInv R ρ n h P v → P a) r id (fun _ => id) (fun _ t k => k t) (fun _ t k => k t) (fun _ hi k => k hi) (fun _ => id) (fun _ => id) (fun _ => id) (fun hr off k => k _ _ _ _ hr off) (fun ho hc hd off r k => k _ _ _ _ ho hc hd off r)
    (fun ho hc hd off r k => k _ _ _ _ ho hc hd off r) (fun ho hd off offd r k => k _ _ _ _ ho hd off offd r) (fun ok ho hc hd off hi k => k _ _ _ _ ok ho hc hd off hi) (fun ho off hs k => k _ _ ho off hs)
noncomputable def VInvs (R : List Addr) (ρ : Nat → Addr) (n : Nat) (h : Heap) (P : List Value → Prop) : List V → Prop
  | [] => P []
  | v :: vs => ∀ cv cvs, VRel R ρ n h v cv → VRels R ρ n h vs cvs → P (cv :: cvs)
theorem VRels.inv {R : List Addr} {ρ : Nat → Addr} {n : Nat} {h : Heap} {P : List Value → Prop} {vs : List V} {cvs : List Value} (r : VRels R ρ n h vs cvs) : VInvs R ρ n h P vs → P cvs :=
  VRels.casesOn (motive_2 := fun vs cvs _ => VInvs R ρ n h P vs → P cvs) r id (fun x r k => k _ _ x r)
noncomputable def DInv (R : List Addr) (ρ : Nat → Addr) (n : Nat) (h : Heap) (P : List DictEntry → Prop) : List (Nat × V) → Prop
  | [] => P []
  | (x, v) :: fs => ∀ cv es hs t, x < nN → VRel R ρ n h v cv → DRel R ρ n h fs es → P (⟨hs, .str (nm x) t, cv⟩ :: es)
theorem DRel.inv {R : List Addr} {ρ : Nat → Addr} {n : Nat} {h : Heap} {P : List DictEntry → Prop} {fs : List (Nat × V)} {es : List DictEntry} (r : DRel R ρ n h fs es) : DInv R ρ n h P fs → P es :=
  DRel.casesOn (motive_3 := fun fs es _ => DInv R ρ n h P fs → P es) r id (fun hx y r k => k _ _ _ _ hx y r)
section
variable {R R' : List Addr} {ρ ρ' : Nat → Addr} {n n' : Nat} {h h' : Heap} (hn : n ≤ n') (same : ∀ i, i < n → ρ' i = ρ i) (hk : ∀ b o, h.get? b = some o → Off R ρ n b → h'.get? b = some o ∧ Off R' ρ' n' b)
include hn same hk
theorem VRel.map {v : V} {cv : Value} (r : VRel R ρ n h v cv) : VRel R' ρ' n' h' v cv :=
  VRel.rec (motive_1 := fun v cv _ => VRel R' ρ' n' h' v cv) (motive_2 := fun vs cvs _ => VRels R' ρ' n' h' vs cvs) (motive_3 := fun fs es _ => DRel R' ρ' n' h' fs es) .none .bool .int .str (fun i hi => same i hi ▸ .ref i (Nat.lt_of_lt_of_le hi hn)) .glb .typ .bi
    (fun hr off => .rng (hk _ _ hr off).1 (hk _ _ hr off).2) (fun ho hc hd off _ ih => .tup (hk _ _ ho off).1 hc hd (hk _ _ ho off).2 ih) (fun ho hc hd off _ ih => .rol (hk _ _ ho off).1 hc hd (hk _ _ ho off).2 ih)
    (fun ho hd off offd _ ih => .rin (hk _ _ ho off).1 (hk _ _ hd offd).1 (hk _ _ ho off).2 (hk _ _ hd offd).2 ih) (fun ok ho hc hd off hi => .row ok (hk _ _ ho off).1 hc hd (hk _ _ ho off).2 hi) (fun ho off hs => .edc (hk _ _ ho off).1 (hk _ _ ho off).2 hs)
    .nil (fun _ _ x y => .cons x y) .nil (fun hx _ _ y z => .cons hx y z) r
theorem VRels.map : ∀ {vs : List V} {cvs : List Value}, VRels R ρ n h vs cvs → VRels R' ρ' n' h' vs cvs
  | [], _, r => r.inv (P := fun c => VRels R' ρ' n' h' [] c) .nil
  | v :: vs, _, r => r.inv (P := fun c => VRels R' ρ' n' h' (v :: vs) c) fun _ _ x y => .cons (x.map hn same hk) (VRels.map y)
theorem DRel.map : ∀ {fs : List (Nat × V)} {es : List DictEntry}, DRel R ρ n h fs es → DRel R' ρ' n' h' fs es
  | [], _, r => r.inv (P := fun c => DRel R' ρ' n' h' [] c) .nil
  | (x, v) :: fs, _, r => r.inv (P := fun c => DRel R' ρ' n' h' ((x, v) :: fs) c) fun _ _ _ _ hx y z => .cons hx (y.map hn same hk) (DRel.map z)
end
section
variable {R X R' : List Addr} {ρ ρ' : Nat → Addr} {n n' : Nat} {h h' : Heap}
theorem Grow.hk (G : Grow X ρ n h ρ' n' h') (hX : ∀ b, b ∈ X → b ∈ R) : ∀ b o, h.get? b = some o → Off R ρ n b → h'.get? b = some o ∧ Off R ρ' n' b := fun b o e off => ⟨G.keep _ _ e (fun x => off.2 (hX _ x)) off.1, off.mono G e⟩
theorem VRel.mono (G : Grow X ρ n h ρ' n' h') (hX : ∀ b, b ∈ X → b ∈ R) {v : V} {cv : Value} (r : VRel R ρ n h v cv) : VRel R ρ' n' h' v cv := r.map G.le G.same (G.hk hX)
theorem VRels.mono (G : Grow X ρ n h ρ' n' h') (hX : ∀ b, b ∈ X → b ∈ R) {v : List V} {cv : List Value} (r : VRels R ρ n h v cv) : VRels R ρ' n' h' v cv := r.map G.le G.same (G.hk hX)
theorem DRel.mono (G : Grow X ρ n h ρ' n' h') (hX : ∀ b, b ∈ X → b ∈ R) {v : List (Nat × V)} {cv : List DictEntry} (r : DRel R ρ n h v cv) : DRel R ρ' n' h' v cv := r.map G.le G.same (G.hk hX)
theorem resv_hk (hR : ∀ b, b ∈ R' → b ∈ R ∨ h.get? b = none) : ∀ b o, h.get? b = some o → Off R ρ n b → h.get? b = some o ∧ Off R' ρ n b := fun b o e off => ⟨e, off.1, fun x => (hR _ x).elim off.2 fun q => nomatch e.symm.trans q⟩
theorem VRel.resv (hR : ∀ b, b ∈ R' → b ∈ R ∨ h.get? b = .none) {v : V} {cv : Value} (r : VRel R ρ n h v cv) : VRel R' ρ n h v cv := r.map (Nat.le_refl _) (fun _ _ => rfl) (resv_hk hR)
theorem VRels.resv (hR : ∀ b, b ∈ R' → b ∈ R ∨ h.get? b = .none) {v : List V} {cv : List Value} (r : VRels R ρ n h v cv) : VRels R' ρ n h v cv := r.map (Nat.le_refl _) (fun _ _ => rfl) (resv_hk hR)
theorem DRel.resv (hR : ∀ b, b ∈ R' → b ∈ R ∨ h.get? b = .none) {v : List (Nat × V)} {cv : List DictEntry} (r : DRel R ρ n h v cv) : DRel R' ρ n h v cv := r.map (Nat.le_refl _) (fun _ _ => rfl) (resv_hk hR)
theorem IntsL.rels {cvs : List Value} {is : List Int} (r : IntsL cvs is) : VRels R ρ n h (is.map .int) cvs := IntsL.rec (motive := fun cvs is _ => VRels R ρ n h (is.map .int) cvs) .nil (fun _ ih => .cons (.int _ _) ih) r
theorem VRels.length : ∀ {vs : List V} {cvs : List Value}, VRels R ρ n h vs cvs → cvs.length = vs.length
  | [], _, r => r.inv (P := fun c => c.length = 0) rfl
  | v :: vs, _, r => r.inv (P := fun c => c.length = (v :: vs).length) fun _ _ _ y => congrArg (· + 1) y.length
theorem VRels.append : ∀ {vs us : List V} {cvs cus : List Value}, VRels R ρ n h vs cvs → VRels R ρ n h us cus → VRels R ρ n h (vs ++ us) (cvs ++ cus)
  | [], us, _, cus, r, q => r.inv (P := fun c => VRels R ρ n h us (c ++ cus)) q
  | v :: vs, us, _, cus, r, q => r.inv (P := fun c => VRels R ρ n h (v :: vs ++ us) (c ++ cus)) fun _ _ x y => .cons x (y.append q)
theorem VRels.nth : ∀ {vs : List V} {cvs : List Value} {k : Nat} {v : V}, VRels R ρ n h vs cvs → Mine.nth vs k = some v → ∃ cv, cvs[k]? = some cv ∧ VRel R ρ n h v cv
  | u :: vs, _, 0, v, r, e => r.inv (P := fun c => ∃ cv, c[0]? = some cv ∧ VRel R ρ n h v cv) fun cv _ x _ => ⟨cv, rfl, Option.some.inj e ▸ x⟩
  | u :: vs, _, k + 1, v, r, e => r.inv (P := fun c => ∃ cv, c[k + 1]? = some cv ∧ VRel R ρ n h v cv) fun _ _ _ y => y.nth (k := k) e
theorem VRels.nth_none : ∀ {vs : List V} {cvs : List Value} {k : Nat}, VRels R ρ n h vs cvs → Mine.nth vs k = none → cvs[k]? = none
  | [], _, k, r, _ => r.inv (P := fun c => c[k]? = none) rfl
  | _ :: _, _, k + 1, r, e => r.inv (P := fun c => c[k + 1]? = none) fun _ _ _ y => y.nth_none (k := k) e
theorem VRels.set : ∀ {vs : List V} {cvs : List Value} {k : Nat} {v : V} {cv : Value}, VRels R ρ n h vs cvs → VRel R ρ n h v cv → VRels R ρ n h (setN vs k v) (cvs.set k cv)
  | [], _, k, v, cv, r, _ => r.inv (P := fun c => VRels R ρ n h [] (c.set k cv)) .nil
  | u :: vs, _, 0, v, cv, r, y => r.inv (P := fun c => VRels R ρ n h (v :: vs) (c.set 0 cv)) fun _ _ _ z => .cons y z
  | u :: vs, _, k + 1, v, cv, r, y => r.inv (P := fun c => VRels R ρ n h (u :: setN vs k v) (c.set (k + 1) cv)) fun _ _ x z => .cons x (z.set y)
theorem VRels.drop : ∀ {vs : List V} {cvs : List Value} (k : Nat), VRels R ρ n h vs cvs → VRels R ρ n h (vs.drop k) (cvs.drop k)
  | _, _, 0, r => r
  | [], _, k + 1, r => r.inv (P := fun c => VRels R ρ n h [] (c.drop (k + 1))) .nil
  | v :: vs, _, k + 1, r => r.inv (P := fun c => VRels R ρ n h (vs.drop k) (c.drop (k + 1))) fun _ _ _ y => y.drop k
theorem VRels.take : ∀ {vs : List V} {cvs : List Value} (k : Nat), VRels R ρ n h vs cvs → VRels R ρ n h (vs.take k) (cvs.take k)
  | _, _, 0, _ => .nil
  | [], _, k + 1, r => r.inv (P := fun c => VRels R ρ n h [] (c.take (k + 1))) .nil
  | v :: vs, _, k + 1, r => r.inv (P := fun c => VRels R ρ n h (v :: vs.take k) (c.take (k + 1))) fun _ _ x y => .cons x (y.take k)
end
theorem beqD (a b : Nat) : Nat.beq a b = decide (a = b) := by
  rw [Bool.eq_iff_iff, decide_eq_true_eq]
  exact ⟨Nat.eq_of_beq_eq_true, fun e => by rw [e]; exact Nat.beq_refl b⟩
theorem bltD (a b : Nat) : Nat.blt a b = decide (a < b) := by
  rw [Bool.eq_iff_iff, decide_eq_true_eq]
  exact ⟨fun e => Nat.le_of_ble_eq_true e, fun e => Nat.ble_eq_true_of_le e⟩
theorem bleD (a b : Nat) : Nat.ble a b = decide (a ≤ b) := by
  rw [Bool.eq_iff_iff, decide_eq_true_eq]
  exact ⟨fun e => Nat.le_of_ble_eq_true e, fun e => Nat.ble_eq_true_of_le e⟩
theorem put_same (o : O) (p : List Bool) : ∀ t : T, (T.put o p t).at p = some o := by
  induction p with
  | nil => exact fun _ => rfl
  | cons b p ih => exact fun t => match b with
    | true => ih _
    | false => ih _
theorem put_ne (o : O) (p : List Bool) : ∀ (q : List Bool) (t : T), p ≠ q → (T.put o p t).at q = t.at q := by
  induction p with
  | nil => exact fun q t h => match q with
    | [] => absurd rfl h
    | true :: _ => rfl
    | false :: _ => rfl
  | cons b p ih => exact fun q t h => match b, q with
    | true, [] => rfl
    | false, [] => rfl
    | true, false :: _ => rfl
    | false, true :: _ => rfl
    | true, true :: q => ih q _ fun e => h (e ▸ rfl)
    | false, false :: q => ih q _ fun e => h (e ▸ rfl)
noncomputable def back : List Bool → Nat
  | [] => 0
  | b :: p => match b with
    | true => 2 * back p + 1
    | false => 2 * back p + 2
theorem back_way (f : Nat) : ∀ i, i < 2 ^ f → back (way f i) = i := by
  induction f with
  | zero => exact fun i hi => (Nat.lt_one_iff.mp hi).symm
  | succ f ih =>
    intro i hi
    have h2 : i / 2 < 2 ^ f := Nat.div_lt_of_lt_mul (Nat.pow_succ' ▸ hi)
    have hd := Nat.div_add_mod i 2
    show back (match Nat.beq i 0 with | true => [] | false => match Nat.beq (i % 2) 1 with | true => true :: way f (i / 2) | false => false :: way f (i / 2 - 1)) = i
    rw [beqD, beqD]
    by_cases h : i = 0
    · rw [decide_eq_true h]; exact h.symm
    · rw [decide_eq_false h]
      by_cases q : i % 2 = 1
      · rw [decide_eq_true q]
        show 2 * back (way f (i / 2)) + 1 = i
        rw [ih _ h2, ← q]
        exact hd
      · rw [decide_eq_false q]
        show 2 * back (way f (i / 2 - 1)) + 2 = i
        rw [ih _ (Nat.lt_of_le_of_lt (Nat.sub_le ..) h2)]
        lia
theorem way_ne {i j : Nat} (hi : i < 1000000) (hj : j < 1000000) (h : i ≠ j) : way 20 i ≠ way 20 j := fun e => h (by
  have h1 := back_way 20 i (Nat.lt_of_lt_of_le hi (by decide))
  rw [e, back_way 20 j (Nat.lt_of_lt_of_le hj (by decide))] at h1
  exact h1.symm)
theorem Hp.get_same (h : Hp) (i : Nat) (o : O) : (h.set i o).get i = some o := put_same ..
theorem Hp.get_ne {h : Hp} {i j : Nat} (o : O) (hi : i < 1000000) (hj : j < 1000000) (n : i ≠ j) : (h.set i o).get j = h.get j := put_ne _ _ _ _ (way_ne hi hj n)
theorem Hp.new_some {h h' : Hp} {i : Nat} {o : O} (e : h.new o = some (i, h')) : h.n < 1000000 ∧ i = h.n ∧ h' = ⟨h.n + 1, (h.set h.n o).t⟩ := by
  unfold Hp.new at e
  cases q : Nat.blt h.n 1000000 with
  | true =>
    rw [q] at e
    exact ⟨Nat.blt_eq.mp q, (congrArg Prod.fst (Option.some.inj e)).symm, (congrArg Prod.snd (Option.some.inj e)).symm⟩
  | false => rw [q] at e; cases e
end
section
section
variable (prog : Program) (w : World)
inductive KR : List (S × V) → List (Str × Value) → Prop
  | nil : KR [] []
  | cons {k : S} {i : Int} {t : Tok} {kvs : List (S × V)} {cks : List (Str × Value)} (r : KR kvs cks) : KR ((k, .int i) :: kvs) ((toStr k, .int i t) :: cks)
noncomputable def ORel (R : List Addr) (ρ : Nat → Addr) (n : Nat) (h : Heap) (a : Addr) : O → Obj → Prop
  | .inst c d, o => d < n ∧ o = instObj c (ρ d)
  | .flds fs, o => ∃ es k, o = dictOf es k ∧ DRel R ρ n h fs es
  | .list vs, o => ∃ cvs k, o = PySem.W.listOf (List.toArray cvs) k ∧ VRels R ρ n h vs cvs
  | .dict kvs, o => (a == sysModules) = false ∧ ∃ cks, o.IsDictOf (strKind prog w) cks ∧ KR kvs cks
  | .cell none, o => o.data = .cell none
  | .cell (some v), o => ∃ cv, o.data = .cell (some cv) ∧ VRel R ρ n h v cv
section
variable {R R' : List Addr} {ρ ρ' : Nat → Addr} {n n' : Nat} {h h' : Heap}
theorem ORel.map (hn : n ≤ n') (same : ∀ i, i < n → ρ' i = ρ i) (hk : ∀ b o, h.get? b = some o → Off R ρ n b → h'.get? b = some o ∧ Off R' ρ' n' b) {a : Addr} {o : O} {co : Obj} (x : ORel prog w R ρ n h a o co) : ORel prog w R' ρ' n' h' a o co := by
  induction o using O.casesOn with
  | inst c d => exact ⟨Nat.lt_of_lt_of_le x.1 hn, same d x.1 ▸ x.2⟩
  | flds fs => exact x.elim fun es x => x.elim fun k x => ⟨es, k, x.1, x.2.map hn same hk⟩
  | list vs => exact x.elim fun es x => x.elim fun k x => ⟨es, k, x.1, x.2.map hn same hk⟩
  | dict kvs => exact x
  | cell v =>
    induction v using Option.casesOn with
    | none => exact x
    | some v => exact x.elim fun cv x => ⟨cv, x.1, x.2.map hn same hk⟩
theorem ORel.mono {X : List Addr} (G : Grow X ρ n h ρ' n' h') (hX : ∀ b, b ∈ X → b ∈ R) {a : Addr} {o : O} {co : Obj} (x : ORel prog w R ρ n h a o co) : ORel prog w R ρ' n' h' a o co := x.map _ _ G.le G.same (G.hk hX)
theorem ORel.resv (hR : ∀ b, b ∈ R' → b ∈ R ∨ h.get? b = none) {a : Addr} {o : O} {co : Obj} (x : ORel prog w R ρ n h a o co) : ORel prog w R' ρ n h a o co := x.map _ _ (Nat.le_refl _) (fun _ _ => rfl) (resv_hk hR)
end
structure Rep (h₀ : Heap) (R : List Addr) (ρ : Nat → Addr) (hp : Hp) (h : Heap) : Prop where
  keep : ∀ b o, h₀.get? b = some o → h.get? b = some o
  off : ∀ i, i < hp.n → h₀.get? (ρ i) = none
  inj : ∀ i j, i < hp.n → j < hp.n → ρ i = ρ j → i = j
  obj : ∀ i, i < hp.n → ∃ o co, hp.get i = some o ∧ h.get? (ρ i) = some co ∧ ORel prog w R ρ hp.n h (ρ i) o co
  big : hp.n ≤ 1000000
end
section
variable {prog : Program} {w : World} {h₀ : Heap} {R : List Addr} {ρ : Nat → Addr} {hp : Hp} {h h' : Heap}
theorem Rep.at (P : Rep prog w h₀ R ρ hp h) {i : Nat} {o : O} (hi : i < hp.n) (e : hp.get i = some o) : ∃ co, h.get? (ρ i) = some co ∧ ORel prog w R ρ hp.n h (ρ i) o co := by
  obtain ⟨o', co, a, b, c⟩ := P.obj i hi
  rw [e] at a; cases a
  exact ⟨co, b, c⟩
section
variable {G : Prop} (P : Rep prog w h₀ R ρ hp h) {i : Nat} (hi : i < hp.n)
include P hi
theorem Rep.atL {vs : List V} (e : hp.get i = some (.list vs)) (k : ∀ cvs k, h.get? (ρ i) = some (PySem.W.listOf (List.toArray cvs) k) → VRels R ρ hp.n h vs cvs → G) : G := (P.at hi e).elim fun _ x => x.2.elim fun _ y => y.elim fun _ y => k _ _ (y.1 ▸ x.1) y.2
theorem Rep.atF {fs : List (Nat × V)} (e : hp.get i = some (.flds fs)) (k : ∀ es k, h.get? (ρ i) = some (dictOf es k) → DRel R ρ hp.n h fs es → G) : G := (P.at hi e).elim fun _ x => x.2.elim fun _ y => y.elim fun _ y => k _ _ (y.1 ▸ x.1) y.2
theorem Rep.atI {c d : Nat} (e : hp.get i = some (.inst c d)) (k : d < hp.n → h.get? (ρ i) = some (instObj c (ρ d)) → G) : G := (P.at hi e).elim fun _ x => k x.2.1 (x.2.2 ▸ x.1)
end
theorem Rep.resv {R' : List Addr} (hR : ∀ b, b ∈ R' → b ∈ R ∨ h.get? b = none) (P : Rep prog w h₀ R ρ hp h) : Rep prog w h₀ R' ρ hp h :=
  ⟨P.keep, P.off, P.inj, fun i hi => let ⟨o, co, a, b, c⟩ := P.obj i hi; ⟨o, co, a, b, c.resv _ _ hR⟩, P.big⟩
theorem Rep.keeps (P : Rep prog w h₀ R ρ hp h) (X : List Addr) (hk : ∀ b o, h.get? b = some o → h'.get? b = some o) : Rep prog w h₀ R ρ hp h' ∧ Grow X ρ hp.n h ρ hp.n h' := by
  have G : Grow [] ρ hp.n h ρ hp.n h' := .of_keeps _ _ _ hk
  refine ⟨⟨fun b o e => hk b o (P.keep b o e), P.off, P.inj, fun i hi => ?_, P.big⟩, .of_keeps _ _ _ hk⟩
  obtain ⟨o, co, a, b, c⟩ := P.obj i hi
  exact ⟨o, co, a, hk _ _ b, c.mono _ _ G (fun _ x => nomatch x)⟩
theorem Rep.beside (P : Rep prog w h₀ R ρ hp h) {L : Addr} (hL : L ∈ R) (off0 : h₀.get? L = none) (offL : ∀ i, i < hp.n → ρ i ≠ L) (hs : Heap.ExtBut L h h') (hl : (h.get? L).isSome = true → (h'.get? L).isSome = true) :
    Rep prog w h₀ R ρ hp h' ∧ Grow [L] ρ hp.n h ρ hp.n h' := by
  have G : Grow [L] ρ hp.n h ρ hp.n h' := ⟨Nat.le_refl _, fun _ _ => rfl, fun b o e x _ => hs b o (fun q => x (q ▸ .head _)) e, fun _ a b => absurd b (Nat.not_lt.mpr a), fun b x e => by
    cases x with
    | head => exact hl e
    | tail _ x => cases x⟩
  refine ⟨⟨fun b o e => hs b o (fun q => by rw [q, off0] at e; cases e) (P.keep b o e), P.off, P.inj, fun i hi => ?_, P.big⟩, G⟩
  obtain ⟨o, co, a, b, c⟩ := P.obj i hi
  exact ⟨o, co, a, hs _ _ (offL i hi) b, c.mono _ _ G (fun b x => by
    cases x with
    | head => exact hL
    | tail _ x => cases x)⟩
theorem split_n {C : Nat → Prop} {n : Nat} (h : ∀ i, i < n → C i) (hn : C n) (i : Nat) (hi : i < n + 1) : C i := (Nat.lt_succ_iff_lt_or_eq.mp hi).elim (h i) fun e => e ▸ hn
theorem Rep.put {R' : List Addr} (P : Rep prog w h₀ R' ρ hp h) {o : O} {i : Nat} {hp' : Hp} (e : hp.new o = some (i, hp')) {a : Addr} {co : Obj} (off0 : h₀.get? a = none) (own : ∀ i, i < hp.n → ρ i ≠ a) (hk0 : ∀ b o, h₀.get? b = some o → h'.get? b = some o)
    (hkρ : ∀ i o, i < hp.n → h.get? (ρ i) = some o → h'.get? (ρ i) = some o) (ho : h'.get? a = some co) {C : (Nat → Addr) → Prop}
    (hr : ∀ ρ', (∀ i, i < hp.n → ρ' i = ρ i) → ρ' hp.n = a → C ρ' ∧ ORel prog w R ρ' (hp.n + 1) h' a o co ∧ ∀ b o co, ORel prog w R' ρ hp.n h b o co → ORel prog w R ρ' (hp.n + 1) h' b o co) :
    ∃ ρ', Rep prog w h₀ R ρ' hp' h' ∧ hp'.n = hp.n + 1 ∧ C ρ' ∧ ρ' i = a ∧ i < hp'.n := by
  obtain ⟨hb, rfl, rfl⟩ := Hp.new_some e
  obtain ⟨ρ', sm, hn⟩ : ∃ ρ' : Nat → Addr, (∀ i, i < hp.n → ρ' i = ρ i) ∧ ρ' hp.n = a := ⟨fun j => if j = hp.n then a else ρ j, fun i hi => if_neg (Nat.ne_of_lt hi), if_pos rfl⟩
  obtain ⟨c, r, m⟩ := hr ρ' sm hn
  exact ⟨ρ', ⟨hk0, split_n (fun i hi => sm i hi ▸ P.off i hi) (hn ▸ off0),
    fun i j hi hj => split_n (C := fun i => ρ' i = ρ' j → i = j) (fun i hi => split_n (C := fun j => ρ' i = ρ' j → i = j) (fun j hj q => P.inj i j hi hj (sm i hi ▸ sm j hj ▸ q)) (fun q => absurd ((sm i hi).symm.trans (q.trans hn)) (own i hi)) j hj)
      (split_n (C := fun j => ρ' hp.n = ρ' j → hp.n = j) (fun j hj q => absurd ((sm j hj).symm.trans (q.symm.trans hn)) (own j hj)) (fun _ => rfl) j hj) i hi,
    split_n (fun i hi => let ⟨o', co', a', b', c'⟩ := P.obj i hi; ⟨o', co', (Hp.get_ne o hb (Nat.lt_trans hi hb) (Nat.ne_of_gt hi)).trans a', sm i hi ▸ hkρ _ _ hi b', sm i hi ▸ m _ _ _ c'⟩)
      ⟨o, co, Hp.get_same hp hp.n o, hn ▸ ho, hn ▸ r⟩, hb⟩, rfl, c, hn, Nat.lt_succ_self _⟩
theorem Rep.alloc (P : Rep prog w h₀ R ρ hp h) {o : O} {i : Nat} {hp' : Hp} (e : hp.new o = some (i, hp')) {a : Addr} {co : Obj} (ha : h.get? a = none) (hk : ∀ b o, h.get? b = some o → h'.get? b = some o) (ho : h'.get? a = some co)
    (hr : ∀ ρ', Grow [] ρ hp.n h ρ' (hp.n + 1) h' → ρ' hp.n = a → ORel prog w R ρ' (hp.n + 1) h' a o co) :
    ∃ ρ', Rep prog w h₀ R ρ' hp' h' ∧ Grow [] ρ hp.n h ρ' hp'.n h' ∧ ρ' i = a ∧ i < hp'.n := by
  have dead : ∀ {o}, h.get? a ≠ some o := fun q => nomatch ha.symm.trans q
  obtain ⟨ρ', P', en, G, r⟩ := P.put (R := R) (h' := h') (C := fun ρ' => Grow [] ρ hp.n h ρ' (hp.n + 1) h') e (Option.eq_none_iff_forall_ne_some.mpr fun o q => dead (P.keep a o q)) (fun i hi q => let ⟨_, _, _, b, _⟩ := P.obj i hi; dead (q ▸ b)) (fun b o q => hk b o (P.keep b o q)) (fun _ o _ => hk _ o) ho fun ρ' sm hn =>
    have G : Grow [] ρ hp.n h ρ' (hp.n + 1) h' := ⟨Nat.le_succ _, sm, fun b o e _ _ => hk b o e, fun i x y => Nat.le_antisymm x (Nat.le_of_lt_succ y) ▸ hn ▸ ha, fun _ x => nomatch x⟩
    ⟨G, hr ρ' G hn, fun _ _ _ c => c.mono _ _ G (fun _ x => nomatch x)⟩
  exact ⟨ρ', P', en ▸ G, r⟩
theorem Rep.update (P : Rep prog w h₀ R ρ hp h) {i : Nat} {o' : O} {co' : Obj} (hi : i < hp.n) (hs : Heap.SameBut (ρ i) h h') (ho : h'.get? (ρ i) = some co')
    (hr : Grow [] ρ hp.n h ρ hp.n h' → ORel prog w R ρ hp.n h' (ρ i) o' co') : Rep prog w h₀ R ρ (hp.set i o') h' ∧ Grow [] ρ hp.n h ρ hp.n h' := by
  have G : Grow [] ρ hp.n h ρ hp.n h' := ⟨Nat.le_refl _, fun _ _ => rfl, fun b o e _ off => (hs.2 b (fun q => off i hi q.symm)).trans e, fun _ a b => absurd b (Nat.not_lt.mpr a), fun _ x => nomatch x⟩
  have hb : i < 1000000 := Nat.lt_of_lt_of_le hi P.big
  refine ⟨⟨fun b o e => (hs.2 b (fun q => ?_)).trans (P.keep b o e), P.off, P.inj, fun j hj => ?_, P.big⟩, G⟩
  · have := P.off i hi; rw [← q, e] at this; cases this
  · by_cases q : i = j
    · exact q ▸ ⟨o', co', Hp.get_same .., ho, hr G⟩
    · obtain ⟨o, co, a, b, c⟩ := P.obj j hj
      exact ⟨o, co, (Hp.get_ne o' hb (Nat.lt_of_lt_of_le hj P.big) q).trans a, (hs.2 _ (fun z => q (P.inj j i hj hi z).symm)).trans b, c.mono _ _ G (fun _ x => nomatch x)⟩
theorem Rep.alive (P : Rep prog w h₀ R ρ hp h) {i : Nat} (hi : i < hp.n) : (h.get? (ρ i)).isSome = true := by
  obtain ⟨_, _, _, b, _⟩ := P.obj i hi
  rw [b]; rfl
theorem Rep.live {X : List Addr} {ρ' : Nat → Addr} {hp' : Hp} (P' : Rep prog w h₀ R ρ' hp' h') (G : Grow X ρ hp.n h ρ' hp'.n h') {b : Addr} (hb : (h.get? b).isSome = true) : (h'.get? b).isSome = true := by
  obtain ⟨o, e⟩ := Option.isSome_iff_exists.mp hb
  by_cases hx : b ∈ X
  · exact G.live b hx hb
  · by_cases q : ∀ i, i < hp.n → ρ i ≠ b
    · rw [G.keep b o e hx q]; rfl
    · obtain ⟨i, hi⟩ := Classical.not_forall.mp q
      obtain ⟨hi, hq⟩ := Classical.not_imp.mp hi
      have hq : ρ i = b := Classical.not_not.mp hq
      rw [← hq, ← G.same i hi]
      exact P'.alive (Nat.lt_of_lt_of_le hi G.le)
theorem Rep.then {R' : List Addr} {X : List Addr} {ρ' ρ'' : Nat → Addr} {n'' : Nat} {hp' : Hp} {h'' : Heap} (P' : Rep prog w h₀ R' ρ' hp' h') (G : Grow X ρ hp.n h ρ' hp'.n h') (H : Grow X ρ' hp'.n h' ρ'' n'' h'') : Grow X ρ hp.n h ρ'' n'' h'' :=
  ⟨Nat.le_trans G.le H.le, fun i hi => (H.same i (Nat.lt_of_lt_of_le hi G.le)).trans (G.same i hi),
   fun b o e x off => H.keep b o (G.keep b o e x off) x (G.off e off),
   fun i a b => (by
    by_cases hn : i < hp'.n
    · rw [H.same i hn]; exact G.new i a hn
    · have hz := H.new i (Nat.not_lt.mp hn) b
      cases q : h.get? (ρ'' i) with
      | none => rfl
      | some o => have := P'.live G (b := ρ'' i) (by rw [q]; rfl); rw [hz] at this; cases this),
   fun b x e => H.live b x (G.live b x e)⟩
end
end
section
noncomputable def codeS (s : Str) : Nat := s.cps.toList.foldl (fun a c => a * 1024 + c) 1
noncomputable def codesOf : List Nat := nmL.map fun s => codeS (Str.ofString s)
noncomputable def apartN : List Nat → Bool
  | [] => true
  | a :: r => r.all (fun b => !Nat.beq a b) && apartN r
theorem codes_apart : apartN codesOf = true := by decide +kernel
theorem nm_plain : (nmL.all fun s => !(Str.ofString s == ("__debug__" : Str)) && !(Str.ofString s == ("__classdict__" : Str)) && !(Str.ofString s == ("super" : Str)) && !(Str.ofString s == ("__class__" : Str))) = true := by decide +kernel
theorem apart_get : ∀ {l : List Nat} {i j : Nat} {a : Nat}, apartN l = true → l[i]? = some a → l[j]? = some a → i = j
  | [], i, _, _, _, e, _ => by simp at e
  | b :: r, i, j, a, h, ei, ej => by
    simp only [apartN, Bool.and_eq_true, List.all_eq_true] at h
    induction i using Nat.casesOn with
    | zero =>
      simp only [List.getElem?_cons_zero, Option.some.injEq] at ei
      subst ei
      induction j using Nat.casesOn with
      | zero => rfl
      | succ j =>
        rw [List.getElem?_cons_succ] at ej
        have := h.1 _ (List.mem_of_getElem? ej)
        rw [Nat.beq_refl] at this; cases this
    | succ i =>
      rw [List.getElem?_cons_succ] at ei
      induction j using Nat.casesOn with
      | zero =>
        simp only [List.getElem?_cons_zero, Option.some.injEq] at ej
        subst ej
        have := h.1 _ (List.mem_of_getElem? ei)
        rw [Nat.beq_refl] at this; cases this
      | succ j =>
        rw [List.getElem?_cons_succ] at ej
        rw [apart_get h.2 ei ej]
theorem nmL_len : nmL.length = nN := by decide +kernel
theorem nm_code {x : Nat} (h : x < nN) : codesOf[x]? = some (codeS (nm x)) := by
  unfold codesOf nm
  have : x < nmL.length := nmL_len ▸ h
  rw [List.getElem?_map, List.getElem?_eq_getElem this, Option.map_some, List.getD_eq_getElem?_getD, List.getElem?_eq_getElem this, Option.getD_some]
theorem nm_inj {x y : Nat} (hx : x < nN) (hy : y < nN) (e : nm x = nm y) : x = y := apart_get codes_apart (nm_code hx) (e ▸ nm_code hy)
theorem nm_mem {x : Nat} (h : x < nN) : ∃ s ∈ nmL, nm x = Str.ofString s := by
  have : x < nmL.length := nmL_len ▸ h
  exact ⟨nmL[x], List.getElem_mem this, by unfold nm; rw [List.getD_eq_getElem?_getD, List.getElem?_eq_getElem this, Option.getD_some]⟩
theorem nm_facts {x : Nat} (h : x < nN) : (nm x == ("__debug__" : Str)) = false ∧ (nm x == ("__classdict__" : Str)) = false ∧ (nm x == ("super" : Str)) = false ∧ (nm x == ("__class__" : Str)) = false := by
  obtain ⟨s, hs, e⟩ := nm_mem h
  have := List.all_eq_true.mp nm_plain s hs
  simp only [Bool.and_eq_true, Bool.not_eq_true'] at this
  rw [e]; exact ⟨this.1.1.1, this.1.1.2, this.1.2, this.2⟩
noncomputable abbrev Kd := Str → Option NameKind
noncomputable def okN (x : Nat) (n : Str) : Bool := Nat.blt x nN && seqB n.cps.toList (nm x).cps.toList
noncomputable def compK (kd : Kd) (sc : Scope) : Kd := fun n => (sc.names.map fun (m, k) => if k == .free && ScopeKind.function == .function && kd m == some .cell then (m, NameKind.cell) else (m, k)).lookup n
noncomputable def compSc (kd : Kd) (sc : Scope) : Bool := sc.kind == .function &&
  sc.names.all (fun x => x.2 != .cell && (x.2 != .local || sc.names.lookup x.1 == some .local) && (x.2 != .free || (kd x.1 == some .cell || kd x.1 == some .free)))
theorem and2 {a b : Bool} {G : Prop} (h : (a && b) = true) (k : a = true → b = true → G) : G := (Bool.and_eq_true_iff.mp h).elim k
noncomputable def oE (c : Prop) [Decidable c] (f : c → Bool) : Bool := dite c f fun _ => false
theorem oE_e {c : Prop} [Decidable c] {f : c → Bool} {G : Prop} (h : oE c f = true) (k : ∀ q, f q = true → G) : G := by
  by_cases q : c
  · exact k q (by unfold oE at h; rwa [dif_pos q] at h)
  · unfold oE at h; rw [dif_neg q] at h; cases h
noncomputable abbrev oNam (x : Expr) (f : Str → Pos → Bool) : Bool := oE (x.ctorIdx = 23) fun q => Expr.Name.elim (motive_1 := fun _ => Bool) x q f
theorem oNam_e {P : Expr → Prop} {x : Expr} {f : Str → Pos → Bool} (h : oNam x f = true) (k : ∀ a0 a1, f a0 a1 = true → P (.Name a0 a1)) : P x := oE_e h fun q => Expr.Name.elim (motive_1 := fun x => ∀ q, Expr.Name.elim (motive_1 := fun _ => Bool) x q f = true → P x) x q (fun a0 a1 _ => k a0 a1) q
noncomputable abbrev oCst (x : Expr) (f : Const → Nat → Pos → Bool) : Bool := oE (x.ctorIdx = 19) fun q => Expr.Constant.elim (motive_1 := fun _ => Bool) x q f
theorem oCst_e {P : Expr → Prop} {x : Expr} {f : Const → Nat → Pos → Bool} (h : oCst x f = true) (k : ∀ a0 a1 a2, f a0 a1 a2 = true → P (.Constant a0 a1 a2)) : P x := oE_e h fun q => Expr.Constant.elim (motive_1 := fun x => ∀ q, Expr.Constant.elim (motive_1 := fun _ => Bool) x q f = true → P x) x q (fun a0 a1 a2 _ => k a0 a1 a2) q
noncomputable abbrev oAtt (x : Expr) (f : Expr → Str → Pos → Bool) : Bool := oE (x.ctorIdx = 20) fun q => Expr.Attribute.elim (motive_1 := fun _ => Bool) x q f
theorem oAtt_e {P : Expr → Prop} {x : Expr} {f : Expr → Str → Pos → Bool} (h : oAtt x f = true) (k : ∀ a0 a1 a2, f a0 a1 a2 = true → P (.Attribute a0 a1 a2)) : P x := oE_e h fun q => Expr.Attribute.elim (motive_1 := fun x => ∀ q, Expr.Attribute.elim (motive_1 := fun _ => Bool) x q f = true → P x) x q (fun a0 a1 a2 _ => k a0 a1 a2) q
noncomputable abbrev oCal (x : Expr) (f : Expr → List Expr → List Keyword → Pos → Bool) : Bool := oE (x.ctorIdx = 16) fun q => Expr.Call.elim (motive_1 := fun _ => Bool) x q f
theorem oCal_e {P : Expr → Prop} {x : Expr} {f : Expr → List Expr → List Keyword → Pos → Bool} (h : oCal x f = true) (k : ∀ a0 a1 a2 a3, f a0 a1 a2 a3 = true → P (.Call a0 a1 a2 a3)) : P x := oE_e h fun q => Expr.Call.elim (motive_1 := fun x => ∀ q, Expr.Call.elim (motive_1 := fun _ => Bool) x q f = true → P x) x q (fun a0 a1 a2 a3 _ => k a0 a1 a2 a3) q
noncomputable abbrev oBin (x : Expr) (f : Expr → Operator → Expr → Pos → Bool) : Bool := oE (x.ctorIdx = 2) fun q => Expr.BinOp.elim (motive_1 := fun _ => Bool) x q f
theorem oBin_e {P : Expr → Prop} {x : Expr} {f : Expr → Operator → Expr → Pos → Bool} (h : oBin x f = true) (k : ∀ a0 a1 a2 a3, f a0 a1 a2 a3 = true → P (.BinOp a0 a1 a2 a3)) : P x := oE_e h fun q => Expr.BinOp.elim (motive_1 := fun x => ∀ q, Expr.BinOp.elim (motive_1 := fun _ => Bool) x q f = true → P x) x q (fun a0 a1 a2 a3 _ => k a0 a1 a2 a3) q
noncomputable abbrev oUna (x : Expr) (f : UnaryOp → Expr → Pos → Bool) : Bool := oE (x.ctorIdx = 3) fun q => Expr.UnaryOp.elim (motive_1 := fun _ => Bool) x q f
theorem oUna_e {P : Expr → Prop} {x : Expr} {f : UnaryOp → Expr → Pos → Bool} (h : oUna x f = true) (k : ∀ a0 a1 a2, f a0 a1 a2 = true → P (.UnaryOp a0 a1 a2)) : P x := oE_e h fun q => Expr.UnaryOp.elim (motive_1 := fun x => ∀ q, Expr.UnaryOp.elim (motive_1 := fun _ => Bool) x q f = true → P x) x q (fun a0 a1 a2 _ => k a0 a1 a2) q
noncomputable abbrev oLst (x : Expr) (f : List Expr → Pos → Bool) : Bool := oE (x.ctorIdx = 24) fun q => Expr.List.elim (motive_1 := fun _ => Bool) x q f
theorem oLst_e {P : Expr → Prop} {x : Expr} {f : List Expr → Pos → Bool} (h : oLst x f = true) (k : ∀ a0 a1, f a0 a1 = true → P (.List a0 a1)) : P x := oE_e h fun q => Expr.List.elim (motive_1 := fun x => ∀ q, Expr.List.elim (motive_1 := fun _ => Bool) x q f = true → P x) x q (fun a0 a1 _ => k a0 a1) q
noncomputable abbrev oTup (x : Expr) (f : List Expr → Nat → Pos → Bool) : Bool := oE (x.ctorIdx = 25) fun q => Expr.Tuple.elim (motive_1 := fun _ => Bool) x q f
theorem oTup_e {P : Expr → Prop} {x : Expr} {f : List Expr → Nat → Pos → Bool} (h : oTup x f = true) (k : ∀ a0 a1 a2, f a0 a1 a2 = true → P (.Tuple a0 a1 a2)) : P x := oE_e h fun q => Expr.Tuple.elim (motive_1 := fun x => ∀ q, Expr.Tuple.elim (motive_1 := fun _ => Bool) x q f = true → P x) x q (fun a0 a1 a2 _ => k a0 a1 a2) q
noncomputable abbrev oCmp (x : Expr) (f : Expr → List CmpOp → List Expr → Pos → Bool) : Bool := oE (x.ctorIdx = 15) fun q => Expr.Compare.elim (motive_1 := fun _ => Bool) x q f
theorem oCmp_e {P : Expr → Prop} {x : Expr} {f : Expr → List CmpOp → List Expr → Pos → Bool} (h : oCmp x f = true) (k : ∀ a0 a1 a2 a3, f a0 a1 a2 a3 = true → P (.Compare a0 a1 a2 a3)) : P x := oE_e h fun q => Expr.Compare.elim (motive_1 := fun x => ∀ q, Expr.Compare.elim (motive_1 := fun _ => Bool) x q f = true → P x) x q (fun a0 a1 a2 a3 _ => k a0 a1 a2 a3) q
noncomputable abbrev oBop (x : Expr) (f : BoolOp → List Expr → Pos → Bool) : Bool := oE (x.ctorIdx = 0) fun q => Expr.BoolOp.elim (motive_1 := fun _ => Bool) x q f
theorem oBop_e {P : Expr → Prop} {x : Expr} {f : BoolOp → List Expr → Pos → Bool} (h : oBop x f = true) (k : ∀ a0 a1 a2, f a0 a1 a2 = true → P (.BoolOp a0 a1 a2)) : P x := oE_e h fun q => Expr.BoolOp.elim (motive_1 := fun x => ∀ q, Expr.BoolOp.elim (motive_1 := fun _ => Bool) x q f = true → P x) x q (fun a0 a1 a2 _ => k a0 a1 a2) q
noncomputable abbrev oIte (x : Expr) (f : Expr → Expr → Expr → Pos → Bool) : Bool := oE (x.ctorIdx = 5) fun q => Expr.IfExp.elim (motive_1 := fun _ => Bool) x q f
theorem oIte_e {P : Expr → Prop} {x : Expr} {f : Expr → Expr → Expr → Pos → Bool} (h : oIte x f = true) (k : ∀ a0 a1 a2 a3, f a0 a1 a2 a3 = true → P (.IfExp a0 a1 a2 a3)) : P x := oE_e h fun q => Expr.IfExp.elim (motive_1 := fun x => ∀ q, Expr.IfExp.elim (motive_1 := fun _ => Bool) x q f = true → P x) x q (fun a0 a1 a2 a3 _ => k a0 a1 a2 a3) q
noncomputable abbrev oSub (x : Expr) (f : Expr → Expr → Pos → Bool) : Bool := oE (x.ctorIdx = 21) fun q => Expr.Subscript.elim (motive_1 := fun _ => Bool) x q f
theorem oSub_e {P : Expr → Prop} {x : Expr} {f : Expr → Expr → Pos → Bool} (h : oSub x f = true) (k : ∀ a0 a1 a2, f a0 a1 a2 = true → P (.Subscript a0 a1 a2)) : P x := oE_e h fun q => Expr.Subscript.elim (motive_1 := fun x => ∀ q, Expr.Subscript.elim (motive_1 := fun _ => Bool) x q f = true → P x) x q (fun a0 a1 a2 _ => k a0 a1 a2) q
noncomputable abbrev oSlc (x : Expr) (f : Option Expr → Option Expr → Option Expr → Pos → Bool) : Bool := oE (x.ctorIdx = 26) fun q => Expr.Slice.elim (motive_1 := fun _ => Bool) x q f
theorem oSlc_e {P : Expr → Prop} {x : Expr} {f : Option Expr → Option Expr → Option Expr → Pos → Bool} (h : oSlc x f = true) (k : ∀ a0 a1 a2 a3, f a0 a1 a2 a3 = true → P (.Slice a0 a1 a2 a3)) : P x := oE_e h fun q => Expr.Slice.elim (motive_1 := fun x => ∀ q, Expr.Slice.elim (motive_1 := fun _ => Bool) x q f = true → P x) x q (fun a0 a1 a2 a3 _ => k a0 a1 a2 a3) q
noncomputable abbrev oDct (x : Expr) (f : List (Option Expr) → List Expr → Pos → Bool) : Bool := oE (x.ctorIdx = 6) fun q => Expr.Dict.elim (motive_1 := fun _ => Bool) x q f
theorem oDct_e {P : Expr → Prop} {x : Expr} {f : List (Option Expr) → List Expr → Pos → Bool} (h : oDct x f = true) (k : ∀ a0 a1 a2, f a0 a1 a2 = true → P (.Dict a0 a1 a2)) : P x := oE_e h fun q => Expr.Dict.elim (motive_1 := fun x => ∀ q, Expr.Dict.elim (motive_1 := fun _ => Bool) x q f = true → P x) x q (fun a0 a1 a2 _ => k a0 a1 a2) q
noncomputable abbrev oCom (x : Expr) (f : Expr → List Comprehension → Scope → Pos → Bool) : Bool := oE (x.ctorIdx = 8) fun q => Expr.ListComp.elim (motive_1 := fun _ => Bool) x q f
theorem oCom_e {P : Expr → Prop} {x : Expr} {f : Expr → List Comprehension → Scope → Pos → Bool} (h : oCom x f = true) (k : ∀ a0 a1 a2 a3, f a0 a1 a2 a3 = true → P (.ListComp a0 a1 a2 a3)) : P x := oE_e h fun q => Expr.ListComp.elim (motive_1 := fun x => ∀ q, Expr.ListComp.elim (motive_1 := fun _ => Bool) x q f = true → P x) x q (fun a0 a1 a2 a3 _ => k a0 a1 a2 a3) q
noncomputable abbrev oAsg (x : Stmt) (f : List Expr → Expr → Pos → Bool) : Bool := oE (x.ctorIdx = 5) fun q => Stmt.Assign.elim (motive_2 := fun _ => Bool) x q f
theorem oAsg_e {P : Stmt → Prop} {x : Stmt} {f : List Expr → Expr → Pos → Bool} (h : oAsg x f = true) (k : ∀ a0 a1 a2, f a0 a1 a2 = true → P (.Assign a0 a1 a2)) : P x := oE_e h fun q => Stmt.Assign.elim (motive_2 := fun x => ∀ q, Stmt.Assign.elim (motive_2 := fun _ => Bool) x q f = true → P x) x q (fun a0 a1 a2 _ => k a0 a1 a2) q
noncomputable abbrev oExp (x : Stmt) (f : Expr → Pos → Bool) : Bool := oE (x.ctorIdx = 24) fun q => Stmt.Expr.elim (motive_2 := fun _ => Bool) x q f
theorem oExp_e {P : Stmt → Prop} {x : Stmt} {f : Expr → Pos → Bool} (h : oExp x f = true) (k : ∀ a0 a1, f a0 a1 = true → P (.Expr a0 a1)) : P x := oE_e h fun q => Stmt.Expr.elim (motive_2 := fun x => ∀ q, Stmt.Expr.elim (motive_2 := fun _ => Bool) x q f = true → P x) x q (fun a0 a1 _ => k a0 a1) q
noncomputable abbrev oRet (x : Stmt) (f : Option Expr → Pos → Bool) : Bool := oE (x.ctorIdx = 3) fun q => Stmt.Return.elim (motive_2 := fun _ => Bool) x q f
theorem oRet_e {P : Stmt → Prop} {x : Stmt} {f : Option Expr → Pos → Bool} (h : oRet x f = true) (k : ∀ a0 a1, f a0 a1 = true → P (.Return a0 a1)) : P x := oE_e h fun q => Stmt.Return.elim (motive_2 := fun x => ∀ q, Stmt.Return.elim (motive_2 := fun _ => Bool) x q f = true → P x) x q (fun a0 a1 _ => k a0 a1) q
noncomputable abbrev oIf (x : Stmt) (f : Expr → List Stmt → List Stmt → Pos → Bool) : Bool := oE (x.ctorIdx = 12) fun q => Stmt.If.elim (motive_2 := fun _ => Bool) x q f
theorem oIf_e {P : Stmt → Prop} {x : Stmt} {f : Expr → List Stmt → List Stmt → Pos → Bool} (h : oIf x f = true) (k : ∀ a0 a1 a2 a3, f a0 a1 a2 a3 = true → P (.If a0 a1 a2 a3)) : P x := oE_e h fun q => Stmt.If.elim (motive_2 := fun x => ∀ q, Stmt.If.elim (motive_2 := fun _ => Bool) x q f = true → P x) x q (fun a0 a1 a2 a3 _ => k a0 a1 a2 a3) q
noncomputable abbrev oWhl (x : Stmt) (f : Expr → List Stmt → List Stmt → Pos → Bool) : Bool := oE (x.ctorIdx = 11) fun q => Stmt.While.elim (motive_2 := fun _ => Bool) x q f
theorem oWhl_e {P : Stmt → Prop} {x : Stmt} {f : Expr → List Stmt → List Stmt → Pos → Bool} (h : oWhl x f = true) (k : ∀ a0 a1 a2 a3, f a0 a1 a2 a3 = true → P (.While a0 a1 a2 a3)) : P x := oE_e h fun q => Stmt.While.elim (motive_2 := fun x => ∀ q, Stmt.While.elim (motive_2 := fun _ => Bool) x q f = true → P x) x q (fun a0 a1 a2 a3 _ => k a0 a1 a2 a3) q
noncomputable abbrev oFor (x : Stmt) (f : Expr → Expr → List Stmt → List Stmt → Pos → Bool) : Bool := oE (x.ctorIdx = 9) fun q => Stmt.For.elim (motive_2 := fun _ => Bool) x q f
theorem oFor_e {P : Stmt → Prop} {x : Stmt} {f : Expr → Expr → List Stmt → List Stmt → Pos → Bool} (h : oFor x f = true) (k : ∀ a0 a1 a2 a3 a4, f a0 a1 a2 a3 a4 = true → P (.For a0 a1 a2 a3 a4)) : P x := oE_e h fun q => Stmt.For.elim (motive_2 := fun x => ∀ q, Stmt.For.elim (motive_2 := fun _ => Bool) x q f = true → P x) x q (fun a0 a1 a2 a3 a4 _ => k a0 a1 a2 a3 a4) q
noncomputable abbrev oTry (x : Stmt) (f : List Stmt → List ExceptHandler → List Stmt → List Stmt → Pos → Bool) : Bool := oE (x.ctorIdx = 17) fun q => Stmt.Try.elim (motive_2 := fun _ => Bool) x q f
theorem oTry_e {P : Stmt → Prop} {x : Stmt} {f : List Stmt → List ExceptHandler → List Stmt → List Stmt → Pos → Bool} (h : oTry x f = true) (k : ∀ a0 a1 a2 a3 a4, f a0 a1 a2 a3 a4 = true → P (.Try a0 a1 a2 a3 a4)) : P x := oE_e h fun q => Stmt.Try.elim (motive_2 := fun x => ∀ q, Stmt.Try.elim (motive_2 := fun _ => Bool) x q f = true → P x) x q (fun a0 a1 a2 a3 a4 _ => k a0 a1 a2 a3 a4) q
noncomputable abbrev oRai (x : Stmt) (f : Option Expr → Option Expr → Pos → Bool) : Bool := oE (x.ctorIdx = 16) fun q => Stmt.Raise.elim (motive_2 := fun _ => Bool) x q f
theorem oRai_e {P : Stmt → Prop} {x : Stmt} {f : Option Expr → Option Expr → Pos → Bool} (h : oRai x f = true) (k : ∀ a0 a1 a2, f a0 a1 a2 = true → P (.Raise a0 a1 a2)) : P x := oE_e h fun q => Stmt.Raise.elim (motive_2 := fun x => ∀ q, Stmt.Raise.elim (motive_2 := fun _ => Bool) x q f = true → P x) x q (fun a0 a1 a2 _ => k a0 a1 a2) q
noncomputable abbrev oCB (x : Const) (f : Bool → Bool) : Bool := oE (x.ctorIdx = 1) fun q => Const.bool.elim (motive := fun _ => Bool) x q f
theorem oCB_e {P : Const → Prop} {x : Const} {f : Bool → Bool} (h : oCB x f = true) (k : ∀ a, f a = true → P (.bool a)) : P x := oE_e h fun q => Const.bool.elim (motive := fun x => ∀ q, Const.bool.elim (motive := fun _ => Bool) x q f = true → P x) x q (fun a _ => k a) q
noncomputable abbrev oCI (x : Const) (f : Int → Bool) : Bool := oE (x.ctorIdx = 2) fun q => Const.int.elim (motive := fun _ => Bool) x q f
theorem oCI_e {P : Const → Prop} {x : Const} {f : Int → Bool} (h : oCI x f = true) (k : ∀ a, f a = true → P (.int a)) : P x := oE_e h fun q => Const.int.elim (motive := fun x => ∀ q, Const.int.elim (motive := fun _ => Bool) x q f = true → P x) x q (fun a _ => k a) q
noncomputable abbrev oCS (x : Const) (f : Str → Bool) : Bool := oE (x.ctorIdx = 5) fun q => Const.str.elim (motive := fun _ => Bool) x q f
theorem oCS_e {P : Const → Prop} {x : Const} {f : Str → Bool} (h : oCS x f = true) (k : ∀ a, f a = true → P (.str a)) : P x := oE_e h fun q => Const.str.elim (motive := fun x => ∀ q, Const.str.elim (motive := fun _ => Bool) x q f = true → P x) x q (fun a _ => k a) q
noncomputable abbrev oCN (x : Const) : Bool := oE (x.ctorIdx = 0) fun _ => true
theorem oCN_e {P : Const → Prop} {x : Const} (h : oCN x = true) (k : P .none) : P x := oE_e h fun q _ => Const.none.elim (motive := P) x q k
noncomputable def oC {α : Type} (l : List α) (f : α → List α → Bool) : Bool := match l with
  | a :: t => f a t
  | [] => false
theorem oC_e {α : Type} {P : List α → Prop} {l : List α} {f : α → List α → Bool} (h : oC l f = true) (k : ∀ a t, f a t = true → P (a :: t)) : P l := match l, h with
  | a :: t, h => k a t h
  | [], h => nomatch h
noncomputable def o0 {α : Type} (l : List α) : Bool := match l with
  | _ :: _ => false
  | [] => true
theorem o0_e {α : Type} {P : List α → Prop} {l : List α} (h : o0 l = true) (k : P []) : P l := match l, h with
  | [], _ => k
  | _ :: _, h => nomatch h
noncomputable def o1 {α : Type} (l : List α) (f : α → Bool) : Bool := oC l fun a t => o0 t && f a
theorem o1_e {α : Type} {P : List α → Prop} {l : List α} {f : α → Bool} (h : o1 l f = true) (k : ∀ a, f a = true → P [a]) : P l := oC_e h fun a _ h => and2 h fun h0 h => o0_e (P := fun t => P (a :: t)) h0 (k a h)
noncomputable def oO {α : Type} (l : Option α) (f : α → Bool) : Bool := match l with
  | some a => f a
  | none => false
theorem oO_e {α : Type} {P : Option α → Prop} {l : Option α} {f : α → Bool} (h : oO l f = true) (k : ∀ a, f a = true → P (some a)) : P l := match l, h with
  | some a, h => k a h
  | none, h => nomatch h
theorem oNo_e {α : Type} {P : Option α → Prop} {l : Option α} (h : l.isNone = true) (k : P none) : P l := match l, h with
  | none, _ => k
  | some _, h => nomatch h
noncomputable def tagX (x : Expr) (k : Nat) : Bool := Nat.beq x.ctorIdx k
noncomputable abbrev oLoc (kd : Kd) (k : NameKind) (y : Nat) (x : Expr) : Bool := oNam x fun n _ => okN y n && kd n == some k
noncomputable def isNames (kd : Kd) : List Nat → List Expr → Bool
  | [], es => o0 es
  | x :: r, es => oC es fun e t => oLoc kd .local x e && isNames kd r t
mutual
noncomputable def isE (kd : Kd) (e : E) (x : Expr) : Bool := match e with
  | .cn => oCst x fun c _ _ => oCN c
  | .cb b => oCst x fun c _ _ => oCB c fun c => b == c
  | .ci i => oCst x fun c _ _ => oCI c fun c => i == c
  | .cs s => oCst x fun c _ _ => oCS c fun c => c == toStr s
  | .loc y => oLoc kd .local y x
  | .cel y => oNam x fun n _ => okN y n && (kd n == some .cell || kd n == some .free)
  | .glob y => oLoc kd .globalImplicit y x
  | .attr o a => oAtt x fun v n _ => okN a n && isE kd o v
  | .mcall o m args => oCal x fun f as ks pos => oAtt f fun v n ap => okN m n && o0 ks && Nat.blt as.length 20 && isE kd o v && isEs kd args as && (ap.endLine == pos.line)
  | .call y args => oCal x fun f as ks _ => oLoc kd .globalImplicit y f && o0 ks && Nat.blt as.length 20 && isEs kd args as
  | .bin op l r => oBin x fun a o b _ => decide (op = o) && isE kd l a && isE kd r b
  | .neg i => oUna x fun o c _ => decide (o = .USub) && oCst c fun c _ _ => oCI c fun c => i == c
  | .mulL a r => oBin x fun l o z _ => decide (o = .Mult) && oLst l fun ys _ => o1 ys fun y => !tagX y 22 && isE kd a y && isE kd r z
  | .not e => oUna x fun o y _ => decide (o = .Not) && isE kd e y
  | .cmp op l r => oCmp x fun a os bs _ => o1 os fun o => o1 bs fun b => decide (op = o) && isE kd l a && isE kd r b && !behindInMarks o b
  | .bop op es => oBop x fun o xs _ => decide (op = o) && isEs kd es xs
  | .ite c a b => oIte x fun t y z _ => isE kd c t && isE kd a y && isE kd b z
  | .sub o i => oSub x fun v j _ => !tagX j 26 && isE kd o v && isE kd i j
  | .slc o lo hi => oSub x fun v j _ => oSlc j fun l u s _ => s.isNone && isE kd o v && isO kd lo l && isO kd hi u
  | .lst es => oLst x fun xs _ => isEs kd es xs
  | .tpl es => oTup x fun xs _ _ => isEs kd es xs
  | .dct => oDct x fun ks vs _ => o0 ks && o0 vs
  | .comp elt t it c => oCom x fun el gs sc _ => o1 gs fun g => g.is_async == 0 && compSc kd sc && isE (compK kd sc) elt el && isT (compK kd sc) t g.target && isE kd it g.iter && (tagX g.target 23 || tagX g.target 25) && isC (compK kd sc) c g.ifs
  | .raw => false
noncomputable def isEs (kd : Kd) (es : List E) (xs : List Expr) : Bool := match es with
  | [] => o0 xs
  | e :: r => oC xs fun x t => !tagX x 22 && isE kd e x && isEs kd r t
noncomputable def isO (kd : Kd) (e : Option E) (x : Option Expr) : Bool := match e with
  | none => x.isNone
  | some e => oO x fun x => isE kd e x
noncomputable def isC (kd : Kd) (e : Option E) (xs : List Expr) : Bool := match e with
  | none => o0 xs
  | some e => o1 xs fun x => isE kd e x
noncomputable def isT (kd : Kd) (t : Tgt) (x : Expr) : Bool := match t with
  | .loc y => oLoc kd .local y x
  | .cel y => oLoc kd .cell y x
  | .attr o a => oAtt x fun v n _ => okN a n && isE kd o v
  | .sub o i => oSub x fun v j _ => !tagX j 26 && isE kd o v && isE kd i j
  | .tup xs => oTup x fun es _ _ => isNames kd xs es
end
noncomputable def compE : E → Bool
  | .comp _ _ _ _ => true
  | _ => false
noncomputable def tupE : E → Bool
  | .tpl _ => true
  | _ => false
noncomputable def tupT : Tgt → Bool
  | .tup _ => true
  | _ => false
noncomputable def okTE (t : Tgt) (e : E) : Bool := !tupT t || !tupE e
noncomputable def rawIs (kd : Kd) (x : Stmt) : Bool := oTry x fun b hs o f _ => o0 o && o0 f && (o1 b fun s => oExp s fun e _ => isE kd (.call 175 [.loc 171]) e) && o1 hs fun h => match h with
  | .ExceptHandler ty nam body _ => (oO ty fun g => oLoc kd .globalImplicit 203 g) && (oO nam fun e => e == nm 207) && o1 body fun s => oRet s fun v _ => oO v fun v => isE kd (.cmp .Eq (.mcall (.loc 207) 147 []) (.mcall (.loc 6) 147 [])) v
noncomputable def raiseIs (kd : Kd) (k : Nat) (x : Stmt) : Bool := oRai x fun c z _ => z.isNone && oO c fun c => isE kd (.call 203 [match k with
  | 3 => .bin .Add (.cs unkS) (.attr (.loc 72) 5)
  | _ => .cs lngS, .attr (.loc 72) 6]) c
mutual
noncomputable def isS (kd : Kd) (s : St) (x : Stmt) : Bool := match s with
  | .asg t e => oAsg x fun tgs v _ => o1 tgs fun tg => isT kd t tg && isE kd e v && okTE t e
  | .expr e => oExp x fun v _ => isE kd e v && !compE e
  | .ret e => oRet x fun v _ => oO v fun v => isE kd e v
  | .retn => oRet x fun v _ => v.isNone
  | .ifs c a b => oIf x fun t y z _ => isE kd c t && isSs kd a y && isSs kd b z
  | .whl c b => oWhl x fun t y z _ => o0 z && isE kd c t && isSs kd b y
  | .fors t e b => oFor x fun tg it y z _ => o0 z && isT kd t tg && isE kd e it && isSs kd b y && (tagX tg 23 || tagX tg 25)
  | .raw k => match k with
    | 0 => true
    | 1 => rawIs kd x
    | 2 => oExp x fun v _ => isE kd (.mcall (.glob 208) 181 [.loc 0, .loc 206]) v
    | k => raiseIs kd k x
noncomputable def isSs (kd : Kd) (ss : List St) (xs : List Stmt) : Bool := match ss with
  | [] => o0 xs
  | s :: r => oC xs fun x t => isS kd s x && isSs kd r t
end
theorem seqB_iff : ∀ {a b : S}, seqB a b = true ↔ a = b
  | [], [] => by simp [seqB]
  | [], _ :: _ => by simp [seqB]
  | _ :: _, [] => by simp [seqB]
  | a :: r, b :: t => by
    unfold seqB
    rw [beqD]
    by_cases q : a = b
    · subst q; rw [decide_eq_true rfl]; simp [seqB_iff (a := r) (b := t)]
    · rw [decide_eq_false q]; simp [q]
theorem str_eq {a b : Str} (h : seqB a.cps.toList b.cps.toList = true) : a = b := congrArg (fun l : List Nat => (⟨⟨l⟩⟩ : Str)) (seqB_iff.mp h)
theorem okN_of {x : Nat} {n : Str} (h : okN x n = true) : x < nN ∧ n = nm x := and2 h fun a b => ⟨Nat.blt_eq.mp a, str_eq b⟩
section
variable {kd : Kd} {P : Expr → Prop} {x : Expr}
theorem iName {k : NameKind} {y : Nat} (h : oLoc kd k y x = true) (q : ∀ p, y < nN → kd (nm y) = some k → P (.Name (nm y) p)) : P x := oNam_e h fun n p h => and2 h fun a b => by
  obtain ⟨hn, rfl⟩ := okN_of a
  exact q p hn (beq_iff_eq.mp b)
theorem iCel {y : Nat} (h : isE kd (.cel y) x = true) (q : ∀ p, y < nN → (kd (nm y) = some .cell ∨ kd (nm y) = some .free) → P (.Name (nm y) p)) : P x := oNam_e h fun n p h => and2 h fun a b => by
  obtain ⟨hn, rfl⟩ := okN_of a
  exact q p hn ((Bool.or_eq_true_iff.mp b).imp beq_iff_eq.mp beq_iff_eq.mp)
theorem iAttr {o : E} {a : Nat} (h : isE kd (.attr o a) x = true) (q : ∀ v p, a < nN → isE kd o v = true → P (.Attribute v (nm a) p)) : P x := oAtt_e h fun v n p h => and2 h fun u b => by
  obtain ⟨hn, rfl⟩ := okN_of u
  exact q v p hn b
theorem iMcall {o : E} {m : Nat} {args : List E} (h : isE kd (.mcall o m args) x = true) (q : ∀ v ap as pos, m < nN → as.length < 20 → isE kd o v = true → isEs kd args as = true → (ap.endLine == pos.line) = true → P (.Call (.Attribute v (nm m) ap) as [] pos)) : P x :=
  oCal_e h fun f as ks pos h => oAtt_e (P := fun f => P (.Call f as ks pos)) h fun v n ap h => and2 h fun h h6 => and2 h fun h h5 => and2 h fun h h4 => and2 h fun h h3 => and2 h fun h1 h2 => by
    obtain ⟨hn, rfl⟩ := okN_of h1
    exact o0_e (P := fun ks => P (.Call (.Attribute v (nm m) ap) as ks pos)) h2 (q v ap as pos hn (Nat.blt_eq.mp h3) h4 h5 h6)
theorem iCall {y : Nat} {args : List E} (h : isE kd (.call y args) x = true) (q : ∀ p as pos, y < nN → kd (nm y) = some .globalImplicit → as.length < 20 → isEs kd args as = true → P (.Call (.Name (nm y) p) as [] pos)) : P x :=
  oCal_e h fun f as ks pos h => and2 h fun h h4 => and2 h fun h h3 => and2 h fun h1 h2 => iName (P := fun f => P (.Call f as ks pos)) h1 fun p hy hk => o0_e (P := fun ks => P (.Call _ as ks pos)) h2 (q p as pos hy hk (Nat.blt_eq.mp h3) h4)
theorem iBin {op : Operator} {l r : E} (h : isE kd (.bin op l r) x = true) (q : ∀ a b p, isE kd l a = true → isE kd r b = true → P (.BinOp a op b p)) : P x :=
  oBin_e h fun a o b p h => and2 h fun h hb => and2 h fun ho ha => of_decide_eq_true ho ▸ q a b p ha hb
theorem iCst {f : Const → Bool} (h : (oCst x fun c _ _ => f c) = true) (q : ∀ c k p, f c = true → P (.Constant c k p)) : P x := oCst_e h q
theorem iCn (h : isE kd .cn x = true) (q : ∀ k p, P (.Constant .none k p)) : P x := oCst_e h fun c k p h => oCN_e (P := fun c => P (.Constant c k p)) h (q k p)
theorem iCb {b : Bool} (h : isE kd (.cb b) x = true) (q : ∀ k p, P (.Constant (.bool b) k p)) : P x := oCst_e h fun c k p h => oCB_e (P := fun c => P (.Constant c k p)) h fun _ h => beq_iff_eq.mp h ▸ q k p
theorem iCi {i : Int} (h : isE kd (.ci i) x = true) (q : ∀ k p, P (.Constant (.int i) k p)) : P x := oCst_e h fun c k p h => oCI_e (P := fun c => P (.Constant c k p)) h fun _ h => beq_iff_eq.mp h ▸ q k p
theorem iCs {s : S} (h : isE kd (.cs s) x = true) (q : ∀ k p, P (.Constant (.str (toStr s)) k p)) : P x := oCst_e h fun c k p h => oCS_e (P := fun c => P (.Constant c k p)) h fun _ h => (beq_iff_eq.mp h).symm ▸ q k p
theorem iNeg {i : Int} (h : isE kd (.neg i) x = true) (q : ∀ k p p', P (.UnaryOp .USub (.Constant (.int i) k p) p')) : P x := oUna_e h fun o c p' h => and2 h fun ho h => of_decide_eq_true ho ▸ iCi (kd := kd) (P := fun c => P (.UnaryOp _ c p')) h fun k p => q k p p'
theorem tag_not {k : Nat} (h : (!tagX x k) = true) {y : Expr} (hy : tagX y k = true) : x ≠ y := fun e => by rw [e, hy] at h; cases h
theorem iMulL {a r : E} (h : isE kd (.mulL a r) x = true) (q : ∀ y z p p', (∀ z p, y ≠ .Starred z p) → isE kd a y = true → isE kd r z = true → P (.BinOp (.List [y] p) .Mult z p')) : P x :=
  oBin_e h fun l o z p' h => and2 h fun ho h => of_decide_eq_true ho ▸ oLst_e (P := fun l => P (.BinOp l _ z p')) h fun ys p h => o1_e (P := fun ys => P (.BinOp (.List ys p) _ z p')) h fun y h => and2 h fun h hb => and2 h fun hs ha => q y z p p' (fun _ _ => tag_not hs rfl) ha hb
theorem iNot {e : E} (h : isE kd (.not e) x = true) (q : ∀ y p, isE kd e y = true → P (.UnaryOp .Not y p)) : P x := oUna_e h fun o y p h => and2 h fun ho h => of_decide_eq_true ho ▸ q y p h
theorem iCmp {op : CmpOp} {l r : E} (h : isE kd (.cmp op l r) x = true) (q : ∀ a b p, isE kd l a = true → isE kd r b = true → behindInMarks op b = false → P (.Compare a [op] [b] p)) : P x :=
  oCmp_e h fun a os bs p h => o1_e (P := fun os => P (.Compare a os bs p)) h fun o h => o1_e (P := fun bs => P (.Compare a [o] bs p)) h fun b h => and2 h fun h hm => and2 h fun h hb => and2 h fun ho ha => by
    cases of_decide_eq_true ho
    exact q a b p ha hb ((Bool.not_eq_true' _).mp hm)
theorem iBop {op : BoolOp} {es : List E} (h : isE kd (.bop op es) x = true) (q : ∀ xs p, isEs kd es xs = true → P (.BoolOp op xs p)) : P x := oBop_e h fun o xs p h => and2 h fun ho h => of_decide_eq_true ho ▸ q xs p h
theorem iIte {c a b : E} (h : isE kd (.ite c a b) x = true) (q : ∀ t y z p, isE kd c t = true → isE kd a y = true → isE kd b z = true → P (.IfExp t y z p)) : P x := oIte_e h fun t y z p h => and2 h fun h hb => and2 h fun hc ha => q t y z p hc ha hb
theorem iSub {o i : E} (h : isE kd (.sub o i) x = true) (q : ∀ v j p, (∀ l u st p, j ≠ .Slice l u st p) → isE kd o v = true → isE kd i j = true → P (.Subscript v j p)) : P x :=
  oSub_e h fun v j p h => and2 h fun h hi => and2 h fun hj ho => q v j p (fun _ _ _ _ => tag_not hj rfl) ho hi
theorem iSlc {o : E} {lo hi : Option E} (h : isE kd (.slc o lo hi) x = true) (q : ∀ v l u p p', isE kd o v = true → isO kd lo l = true → isO kd hi u = true → P (.Subscript v (.Slice l u none p) p')) : P x :=
  oSub_e h fun v j p' h => oSlc_e (P := fun j => P (.Subscript v j p')) h fun l u s p h => and2 h fun h hu => and2 h fun h hl => and2 h fun hs ho => oNo_e (P := fun s => P (.Subscript v (.Slice l u s p) p')) hs (q v l u p p' ho hl hu)
theorem iLst {es : List E} (h : isE kd (.lst es) x = true) (q : ∀ xs p, isEs kd es xs = true → P (.List xs p)) : P x := oLst_e h q
theorem iTpl {es : List E} (h : isE kd (.tpl es) x = true) (q : ∀ xs k p, isEs kd es xs = true → P (.Tuple xs k p)) : P x := oTup_e h q
theorem iDct (h : isE kd .dct x = true) (q : ∀ p, P (.Dict [] [] p)) : P x := oDct_e h fun ks vs p h => and2 h fun h0 h1 => o0_e (P := fun ks => P (.Dict ks vs p)) h0 (o0_e (P := fun vs => P (.Dict [] vs p)) h1 (q p))
theorem iComp {elt it : E} {t : Tgt} {c : Option E} (h : isE kd (.comp elt t it c) x = true) (q : ∀ el tg iter ifs sc p, compSc kd sc = true → isE (compK kd sc) elt el = true → isT (compK kd sc) t tg = true → isE kd it iter = true → (tagX tg 23 || tagX tg 25) = true → isC (compK kd sc) c ifs = true →
    P (.ListComp el [⟨tg, iter, ifs, 0⟩] sc p)) : P x :=
  oCom_e h fun el gs sc p h => o1_e (P := fun gs => P (.ListComp el gs sc p)) h fun ⟨tg, iter, ifs, as⟩ h => and2 h fun h h7 => and2 h fun h h6 => and2 h fun h h5 => and2 h fun h h4 => and2 h fun h h3 => and2 h fun h1 h2 => by
    obtain rfl : as = 0 := beq_iff_eq.mp h1
    exact q el tg iter ifs sc p h2 h3 h4 h5 h6 h7
theorem iEs0 {Q : List Expr → Prop} {xs : List Expr} (h : isEs kd [] xs = true) (q : Q []) : Q xs := o0_e h q
theorem iEs {e : E} {r : List E} {Q : List Expr → Prop} {xs : List Expr} (h : isEs kd (e :: r) xs = true) (q : ∀ y t, (∀ z p, y ≠ .Starred z p) → isE kd e y = true → isEs kd r t = true → Q (y :: t)) : Q xs :=
  oC_e h fun y t h => and2 h fun h h3 => and2 h fun h1 h2 => q y t (fun _ _ => tag_not h1 rfl) h2 h3
theorem iTattr {o : E} {a : Nat} (h : isT kd (.attr o a) x = true) (q : ∀ v p, a < nN → isE kd o v = true → P (.Attribute v (nm a) p)) : P x := iAttr (kd := kd) (o := o) h q
theorem iTsub {o i : E} (h : isT kd (.sub o i) x = true) (q : ∀ v j p, (∀ l u st p, j ≠ .Slice l u st p) → isE kd o v = true → isE kd i j = true → P (.Subscript v j p)) : P x := iSub (kd := kd) (o := o) (i := i) h q
theorem iTtup {xs : List Nat} (h : isT kd (.tup xs) x = true) (q : ∀ es k p, isNames kd xs es = true → P (.Tuple es k p)) : P x := oTup_e h q
variable {P : Stmt → Prop} {x : Stmt}
theorem iAsg {t : Tgt} {e : E} (h : isS kd (.asg t e) x = true) (q : ∀ tg v p, isT kd t tg = true → isE kd e v = true → okTE t e = true → P (.Assign [tg] v p)) : P x :=
  oAsg_e h fun tgs v p h => o1_e (P := fun tgs => P (.Assign tgs v p)) h fun tg h => and2 h fun h h3 => and2 h fun h1 h2 => q tg v p h1 h2 h3
theorem iExp {e : E} (h : isS kd (.expr e) x = true) (q : ∀ v p, isE kd e v = true → (!compE e) = true → P (.Expr v p)) : P x := oExp_e h fun v p h => and2 h (q v p)
theorem iRet {e : E} (h : isS kd (.ret e) x = true) (q : ∀ v p, isE kd e v = true → P (.Return (some v) p)) : P x := oRet_e h fun v p h => oO_e (P := fun v => P (.Return v p)) h fun v h => q v p h
theorem iRetn (h : isS kd .retn x = true) (q : ∀ p, P (.Return none p)) : P x := oRet_e h fun v p h => oNo_e (P := fun v => P (.Return v p)) h (q p)
theorem iIfs {c : E} {a b : List St} (h : isS kd (.ifs c a b) x = true) (q : ∀ t y z p, isE kd c t = true → isSs kd a y = true → isSs kd b z = true → P (.If t y z p)) : P x := oIf_e h fun t y z p h => and2 h fun h h3 => and2 h fun h1 h2 => q t y z p h1 h2 h3
theorem iWhl {c : E} {b : List St} (h : isS kd (.whl c b) x = true) (q : ∀ t y p, isE kd c t = true → isSs kd b y = true → P (.While t y [] p)) : P x := oWhl_e h fun t y z p h => and2 h fun h h3 => and2 h fun h1 h2 => o0_e (P := fun z => P (.While t y z p)) h1 (q t y p h2 h3)
theorem iFors {t : Tgt} {e : E} {b : List St} (h : isS kd (.fors t e b) x = true) (q : ∀ tg it y p, isT kd t tg = true → isE kd e it = true → isSs kd b y = true → (tagX tg 23 || tagX tg 25) = true → P (.For tg it y [] p)) : P x :=
  oFor_e h fun tg it y z p h => and2 h fun h h5 => and2 h fun h h4 => and2 h fun h h3 => and2 h fun h1 h2 => o0_e (P := fun z => P (.For tg it y z p)) h1 (q tg it y p h2 h3 h4 h5)
theorem iSs0 {Q : List Stmt → Prop} {xs : List Stmt} (h : isSs kd [] xs = true) (q : Q []) : Q xs := o0_e h q
theorem iSs {e : St} {r : List St} {Q : List Stmt → Prop} {xs : List Stmt} (h : isSs kd (e :: r) xs = true) (q : ∀ y t, isS kd e y = true → isSs kd r t = true → Q (y :: t)) : Q xs := oC_e h fun y t h => and2 h (q y t)
end
end
section
structure Room (A : Around) (d : Nat) : Prop where
  depth : A.depth + 3 * d ≤ 900
  units : A.units + 20 * d ≤ 9000
  handled : A.handled = none
structure FmRel (h₀ : Heap) (R : List Addr) (fm : Fm) (env : Env) (ρ : Nat → Addr) (n : Nat) (h : Heap) : Prop where
  kind : env.scope.kind = .function
  glob : env.globals = mainGlobals
  blt : env.builtins = builtinsNs
  locs : ∃ m, h.Ns env.locals m ∧ ∀ x v, getL fm.L x = some v → x < nN ∧ ∃ cv, m (nm x) = some cv ∧ VRel R ρ n h v cv
  resv : env.locals ∈ R
  off : ∀ i, i < n → ρ i ≠ env.locals
  off0 : h₀.get? env.locals = none
  cells : ∀ x i, getC fm.C x = some i → (env.kindOf (nm x) = some .cell ∨ env.kindOf (nm x) = some .free) → x < nN ∧ i < n ∧ env.cells.lookup (nm x) = some (ρ i)
  clos : ∀ y, env.kindOf y = some .cell ∨ env.kindOf y = some .free → (env.cells.lookup y).isSome = true
section
variable {h₀ : Heap} {R R' X : List Addr} {fm : Fm} {env : Env} {ρ ρ' : Nat → Addr} {n n' : Nat} {h h' : Heap} (M : FmRel h₀ R fm env ρ n h)
include M
theorem FmRel.map (hr : env.locals ∈ R') (hk : ∀ o, h.get? env.locals = some o → h'.get? env.locals = some o) (off : ∀ i, i < n' → ρ' i ≠ env.locals) (hn : n ≤ n') (same : ∀ i, i < n → ρ' i = ρ i) (hv : ∀ v cv, VRel R ρ n h v cv → VRel R' ρ' n' h' v cv) : FmRel h₀ R' fm env ρ' n' h' :=
  ⟨M.kind, M.glob, M.blt, M.locs.imp fun m x => ⟨x.1.imp fun o y => y.imp fun es y => y.imp fun ep y => ⟨hk _ y.1, y.2⟩, fun x' v e => (x.2 x' v e).imp_right fun y => y.imp fun cv z => ⟨z.1, hv _ _ z.2⟩⟩, hr, off, M.off0,
    fun x i e z => have y := M.cells x i e z; ⟨y.1, Nat.lt_of_lt_of_le y.2.1 hn, same i y.2.1 ▸ y.2.2⟩, M.clos⟩
theorem FmRel.there : ∃ o, h.get? env.locals = some o := M.locs.elim fun m x => x.1.imp fun o y => y.elim fun es y => y.elim fun ep y => y.1
theorem FmRel.grow (G : Grow X ρ n h ρ' n' h') (hX : ∀ b, b ∈ X → b ∈ R) (hl : env.locals ∉ X) : FmRel h₀ R fm env ρ' n' h' :=
  M.map M.resv (fun o e => G.keep _ _ e hl M.off) (M.there.elim fun o e => G.off e M.off) G.le G.same fun _ _ r => r.mono G hX
theorem FmRel.mono (G : Grow [] ρ n h ρ' n' h') : FmRel h₀ R fm env ρ' n' h' := M.grow G (fun _ x => nomatch x) (fun x => nomatch x)
end
noncomputable def GlobOk (K : Frag) (mb : Str → Option Value) (h₀ : Heap) (x : Nat) (v : V) : Prop :=
  x < nN ∧ ((∃ cv, nsIn K mainGlobals (nm x) = some (some cv) ∧ ∀ (R : List Addr) (ρ : Nat → Addr) (n : Nat) (h : Heap), (∀ b o, h₀.get? b = some o → h.get? b = some o) → (∀ i, i < n → h₀.get? (ρ i) = none) → (∀ a, a ∈ R → h₀.get? a = none) → VRel R ρ n h v cv) ∨
    (∃ cv, nsIn K mainGlobals (nm x) = some none ∧ mb (nm x) = some cv ∧ ∀ (R : List Addr) (ρ : Nat → Addr) (n : Nat) (h : Heap), VRel R ρ n h v cv))
structure ClsOk (K : Frag) (c : Nat) (ms : List (Nat × Nat)) : Prop where
  makes : makesIn K c = true
  keep : keepIn K (.ref c) = true
  get : plainGet K c (nm 0) = true
  dict : hasDictIn K c = true
  over : plainOver K c = true
  set : findIn K (.ref c) "__setattr__" = some (some (.builtin "object.__setattr__"))
  meth : ∀ m f, getM ms m = some f → m < nN ∧ findIn K (.ref c) (nm m) = some (some (.ref f)) ∧ isFn K (.ref f) = true ∧ keepIn K (.ref f) = true
noncomputable def FldOk (K : Frag) (c : Nat) (a : Nat) : Prop := a < nN ∧ findIn K (.ref c) (nm a) = some none
set_option genInjectivity false in
set_option genSizeOf false in
structure FnD where
  oc : Value
  od : Option Addr
  osl : Array (Option Value)
  name : Str
  qual : Str
  params : Arguments
  body : List Stmt
  scope : Scope
  dV : Value
  kV : Value
  doc : Value
  pm : Value
  cdv : Value
  ct : Value
  an : Option Addr
  cd : List Value
noncomputable abbrev FnD.fnv (D : FnD) := fnOf D.name D.qual D.params D.body D.scope D.dV D.kV D.doc D.pm D.an D.cdv D.ct
structure FnAt (K : Frag) (f : Nat) (fn : Fn) (D : FnD) : Prop where
  look : K.lookup f = some ⟨D.oc, D.od, .func D.fnv, D.osl⟩
  code : codeIn K D.cdv D.qual = true
  keep : keepIn K (.ref f) = true
  kind : D.scope.kind = .function
  coro : D.scope.isCoroutine = false
  gen : D.scope.isGenerator = false
  ps : ∀ x, x ∈ fn.ps → x < nN ∧ D.scope.names.lookup (nm x) = some (match memN fn.cells x with | true => .cell | false => .local)
  cells : ∀ x, x ∈ fn.cells → x < nN ∧ D.scope.names.lookup (nm x) = some .cell
  cnodup : fn.cells.Nodup
  nofree : ∀ x ∈ D.scope.names, x.2 ≠ .free
  bind : ∀ cs : List Value, cs.length ≤ fn.ps.length → fn.ps.length ≤ cs.length + fn.dflt.length → ∀ S, peek K S (bindArgs D.fnv ⟨cs, []⟩) = some ((fn.ps.map nm).zip (cs ++ D.cd.drop (cs.length + fn.dflt.length - fn.ps.length)))
  dflt : ∀ (R : List Addr) (ρ : Nat → Addr) (n : Nat) (h : Heap), VRels R ρ n h fn.dflt D.cd
  is : isSs (fun n => D.scope.names.lookup n) fn.body D.body = true
noncomputable abbrev FnOk (K : Frag) (f : Nat) (fn : Fn) : Prop := ∃ D, FnAt K f fn D
structure Wd (prog : Program) (w : World) (K : Frag) (h₀ : Heap) (mg mb : Str → Option Value) (B : Tb) : Prop where
  X : K.In h₀
  g : h₀.Ns mainGlobals mg
  b : h₀.Ns builtinsNs mb
  lim : h₀.NoLimit
  nodigits : ∃ mc, h₀.Ns cStatics mc ∧ mc "sys.int_max_str_digits" = none
  fn : ∀ f fn, B.fn f = some fn → FnOk K f fn
  cls : ∀ c ms, B.cls c = some ms → ClsOk K c ms
  glob : ∀ x v, B.glob x = some v → GlobOk K mb h₀ x v
  sd : ∀ a kvs, B.sd a = some kvs → ∃ es n, K.lookup a = some ⟨.type "dict", none, .dict es n, #[]⟩ ∧ KeysLit w.params es.toList ∧ (a == sysModules) = false ∧
    ∀ x : S, ∃ r, nsIn K a (toStr x) = some r ∧ r.isSome = (getD kvs x).isSome ∧ ∀ v, getD kvs x = some v → ∃ cv, r = some cv ∧ ∀ (R : List Addr) (ρ : Nat → Addr) (n : Nat) (h : Heap), VRel R ρ n h v cv
  fld : ∀ c ms a, B.cls c = some ms → a < nN → getM ms a = none → FldOk K c a
structure Resv (h₀ : Heap) (R : List Addr) (h : Heap) : Prop where
  base : ∀ a, a ∈ R → h₀.get? a = none
  live : ∀ a, a ∈ R → (h.get? a).isSome = true
noncomputable abbrev KV (prog : Program) (w : World) (h₀ : Heap) (R : List Addr) (ρ : Nat → Addr) (hp : Hp) (s : Shared) (v : V) (hp' : Hp) (Q : Value → Shared → Prop) : Prop :=
  ∀ ρ' h' t' cv, Rep prog w h₀ R ρ' hp' h' → Grow [] ρ hp.n s.heap ρ' hp'.n h' → VRel R ρ' hp'.n h' v cv → Q cv ⟨h', s.gens, s.drawn, t', s.os⟩
noncomputable abbrev KB (prog : Program) (w : World) (h₀ : Heap) (R : List Addr) (ρ : Nat → Addr) (hp : Hp) (s : Shared) (b : Bool) (hp' : Hp) (Q : Bool → Shared → Prop) : Prop :=
  ∀ ρ' h' t', Rep prog w h₀ R ρ' hp' h' → Grow [] ρ hp.n s.heap ρ' hp'.n h' → Q b ⟨h', s.gens, s.drawn, t', s.os⟩
noncomputable abbrev KVs (prog : Program) (w : World) (h₀ : Heap) (R : List Addr) (ρ : Nat → Addr) (hp : Hp) (s : Shared) (vs : List V) (hp' : Hp) (Q : List Value → Shared → Prop) : Prop :=
  ∀ ρ' h' t' cvs, Rep prog w h₀ R ρ' hp' h' → Grow [] ρ hp.n s.heap ρ' hp'.n h' → VRels R ρ' hp'.n h' vs cvs → Q cvs ⟨h', s.gens, s.drawn, t', s.os⟩
noncomputable def FlRel (R : List Addr) (ρ : Nat → Addr) (n : Nat) (h : Heap) : Fl → Flow → Prop
  | .next, .next => True
  | .ret v, .ret cv => VRel R ρ n h v cv
  | _, _ => False
noncomputable abbrev KF (prog : Program) (w : World) (h₀ : Heap) (R : List Addr) (ρ : Nat → Addr) (hp : Hp) (s : Shared) (env : Env) (fl : Fl) (fm' : Fm) (hp' : Hp) (Q : Flow → Shared → Prop) : Prop :=
  ∀ ρ' h' t' cf, Rep prog w h₀ R ρ' hp' h' → Grow [env.locals] ρ hp.n s.heap ρ' hp'.n h' → FmRel h₀ R fm' env ρ' hp'.n h' → FlRel R ρ' hp'.n h' fl cf → Q cf ⟨h', s.gens, s.drawn, t', s.os⟩
noncomputable abbrev KA (prog : Program) (w : World) (h₀ : Heap) (R : List Addr) (ρ : Nat → Addr) (hp : Hp) (s : Shared) (env : Env) (fm' : Fm) (hp' : Hp) (Q : Shared → Prop) : Prop :=
  ∀ ρ' h' t', Rep prog w h₀ R ρ' hp' h' → Grow [env.locals] ρ hp.n s.heap ρ' hp'.n h' → FmRel h₀ R fm' env ρ' hp'.n h' → Q ⟨h', s.gens, s.drawn, t', s.os⟩
noncomputable def ItAt (prog : Program) (w : World) (R : List Addr) (ρ : Nat → Addr) (n : Nat) (h : Heap) (I : Addr) (it : V) (j : Nat) : Prop := match it with
  | .str x => ∃ t, h.IsStrIter I "str_ascii_iterator" (toStr x) t j
  | .ref i => i < n ∧ h.IsListIter I (ρ i) j
  | .tup vs => ∃ a, h.IsTupleIter I a j ∧ VRel R ρ n h (.tup vs) (.ref a)
  | .rol vs => ∃ a, h.IsListIter I a j ∧ VRel R ρ n h (.rol vs) (.ref a)
  | .rng a b => IsRangeIter h I (a + j) (b - a - j) 1
  | _ => False
noncomputable def plainT (x : Expr) : Bool := tagX x 23 || tagX x 25
noncomputable abbrev Sev (prog : Program) (w : World) (K : Frag) (h₀ : Heap) (F : Fns) : Prop := ∀ {d fm hp e v hp'}, F.ev d fm hp e = some (v, hp') → ∀ {A : Around} {env : Env} {R : List Addr} {ρ : Nat → Addr} {s : Shared} {x : Expr} {Q : Value → Shared → Prop} {Er : Value → Shared → Prop},
    isE env.kindOf e x = true → Room A d → Resv h₀ R s.heap → Rep prog w h₀ R ρ hp s.heap → FmRel h₀ R fm env ρ hp.n s.heap → KV prog w h₀ R ρ hp s v hp' Q → wpAny (model prog w) A (eval x env) Q Er s
noncomputable abbrev Sts (prog : Program) (w : World) (K : Frag) (h₀ : Heap) (F : Fns) : Prop := ∀ {d fm hp e b hp'}, F.ts d fm hp e = some (b, hp') → ∀ {A : Around} {env : Env} {R : List Addr} {ρ : Nat → Addr} {s : Shared} {x : Expr} {Q : Bool → Shared → Prop} {Er : Value → Shared → Prop},
    isE env.kindOf e x = true → Room A d → Resv h₀ R s.heap → Rep prog w h₀ R ρ hp s.heap → FmRel h₀ R fm env ρ hp.n s.heap → KB prog w h₀ R ρ hp s b hp' Q → wpAny (model prog w) A (isTrue x env (eval x env)) Q Er s
noncomputable abbrev Scl (prog : Program) (w : World) (K : Frag) (h₀ : Heap) (F : Fns) : Prop := ∀ {d f args hp v hp'}, F.cl d f args hp = some (v, hp') → ∀ {A : Around} {R : List Addr} {ρ : Nat → Addr} {s : Shared} {cargs : List Value} {Rr : Result → Shared → Prop},
    Room A d → Resv h₀ R s.heap → Rep prog w h₀ R ρ hp s.heap → VRels R ρ hp.n s.heap args cargs → KV prog w h₀ R ρ hp s v hp' (fun cv s' => Rr (.ok (.ret cv)) s') → codeAny (model prog w) A (.call (.ref f) ⟨cargs, []⟩) Rr s
noncomputable abbrev Sex (prog : Program) (w : World) (K : Frag) (h₀ : Heap) (F : Fns) : Prop := ∀ {d fm hp l fl fm' hp'}, F.ex d fm hp l = some (fl, fm', hp') → ∀ {A : Around} {env : Env} {R : List Addr} {ρ : Nat → Addr} {s : Shared} {xs : List Stmt} {Q : Flow → Shared → Prop} {Er : Value → Shared → Prop},
    isSs env.kindOf l xs = true → Room A d → Resv h₀ R s.heap → Rep prog w h₀ R ρ hp s.heap → FmRel h₀ R fm env ρ hp.n s.heap → KF prog w h₀ R ρ hp s env fl fm' hp' Q → wpAny (model prog w) A (execs xs env) Q Er s
noncomputable abbrev Swh (prog : Program) (w : World) (K : Frag) (h₀ : Heap) (F : Fns) : Prop := ∀ {d fm hp c b fl fm' hp'}, F.wh d fm hp c b = some (fl, fm', hp') → ∀ {A : Around} {env : Env} {R : List Addr} {ρ : Nat → Addr} {s : Shared} {xc : Expr} {xs : List Stmt} {Rr : Result → Shared → Prop},
    isE env.kindOf c xc = true → isSs env.kindOf b xs = true → Room A d → Resv h₀ R s.heap → Rep prog w h₀ R ρ hp s.heap → FmRel h₀ R fm env ρ hp.n s.heap → KF prog w h₀ R ρ hp s env fl fm' hp' (fun f s' => Rr (.ok f) s') → codeAny (model prog w) A (.whileLoop xc xs [] env) Rr s
noncomputable abbrev KO (prog : Program) (w : World) (h₀ : Heap) (R : List Addr) (env : Env) (s : Shared) (ρ₀ : Nat → Addr) (n₀ : Nat) (g₀ : Heap) (Rr : Result → Shared → Prop) (fl : Fl) (fm' : Fm) (hp' : Hp) : Prop := ∀ ρ' h' t' cf, Rep prog w h₀ R ρ' hp' h' → Grow [env.locals] ρ₀ n₀ g₀ ρ' hp'.n h' → FmRel h₀ R fm' env ρ' hp'.n h' → FlRel R ρ' hp'.n h' fl cf → Rr (.ok cf) ⟨h', s.gens, s.drawn, t', s.os⟩
noncomputable abbrev Sfo (prog : Program) (w : World) (K : Frag) (h₀ : Heap) (F : Fns) : Prop := ∀ {d fm hp t it j b fl fm' hp'}, F.fo d fm hp t it j b = some (fl, fm', hp') → ∀ {A : Around} {env : Env} {R : List Addr} {ρ ρ₀ : Nat → Addr} {s : Shared} {I n₀ : Nat} {g₀ : Heap} {tg : Expr} {xs : List Stmt} {Rr : Result → Shared → Prop},
    isT env.kindOf t tg = true → plainT tg = true → isSs env.kindOf b xs = true → Room A d → I ∉ R → (∀ i, i < hp.n → ρ i ≠ I) → env.locals ∈ R → Resv h₀ (I :: R) s.heap → Rep prog w h₀ (I :: R) ρ hp s.heap → FmRel h₀ (I :: R) fm env ρ hp.n s.heap →
    ItAt prog w (I :: R) ρ hp.n s.heap I it j → g₀.get? I = none → Grow [env.locals] ρ₀ n₀ g₀ ρ hp.n s.heap →
    KO prog w h₀ R env s ρ₀ n₀ g₀ Rr fl fm' hp' → codeAny (model prog w) A (.forLoop tg (.ref I) xs [] env) Rr s
structure CoAt (prog : Program) (w : World) (R : List Addr) (ρ : Nat → Addr) (n : Nat) (h : Heap) (I : Addr) (it : V) (j : Nat) (D : Addr) (acc : List V) (cacc : List Value) (kk : Nat) : Prop where
  it : ItAt prog w R ρ n h I it j
  offI : ∀ i, i < n → ρ i ≠ I
  offD : ∀ i, i < n → ρ i ≠ D
  hD : h.get? D = some (PySem.W.listOf (List.toArray cacc) kk)
  ra : VRels R ρ n h acc cacc
noncomputable abbrev KC (prog : Program) (w : World) (h₀ : Heap) (R : List Addr) (env : Env) (s : Shared) (ρ₀ : Nat → Addr) (n₀ : Nat) (g₀ : Heap) (D : Addr) (Rr : Result → Shared → Prop) (us : List V) (hp' : Hp) : Prop :=
  ∀ ρ' h' t' cus kk' fm', Rep prog w h₀ R ρ' hp' h' → Grow [] ρ₀ n₀ g₀ ρ' hp'.n h' → FmRel h₀ R fm' env ρ' hp'.n h' → (∀ i, i < hp'.n → ρ' i ≠ D) → h'.get? D = some (PySem.W.listOf (List.toArray cus) kk') → VRels R ρ' hp'.n h' us cus → Rr (.ok .next) ⟨h', s.gens, s.drawn, t', s.os⟩
noncomputable abbrev Sco (prog : Program) (w : World) (K : Frag) (h₀ : Heap) (F : Fns) : Prop := ∀ {d fm hp elt t it j c acc us hp'}, F.co d fm hp elt t it j c acc = some (us, hp') → ∀ {A : Around} {env : Env} {R : List Addr} {ρ ρ₀ : Nat → Addr} {s : Shared} {I D n₀ kk : Nat} {g₀ : Heap} {cacc : List Value} {el tg iter : Expr} {ifs : List Expr} {scope : Scope} {pos : Pos} {Rr : Result → Shared → Prop},
    isE env.kindOf elt el = true → isT env.kindOf t tg = true → plainT tg = true → isC env.kindOf c ifs = true → Room A d → I ∉ R → env.locals ∈ R → D ∈ R → D ≠ env.locals →
    Resv h₀ (I :: R) s.heap → Rep prog w h₀ (I :: R) ρ hp s.heap → FmRel h₀ (I :: R) fm env ρ hp.n s.heap → CoAt prog w (I :: R) ρ hp.n s.heap I it j D acc cacc kk →
    g₀.get? I = none → g₀.get? D = none → g₀.get? env.locals = none → Grow [] ρ₀ n₀ g₀ ρ hp.n s.heap → KC prog w h₀ R env s ρ₀ n₀ g₀ D Rr us hp' →
    codeAny (model prog w) A (.compLoop (.ListComp el [⟨tg, iter, ifs, 0⟩] scope pos) 0 (.ref I) (.ref D) env) Rr s
noncomputable abbrev KU (prog : Program) (w : World) (h₀ : Heap) (R : List Addr) (ρ : Nat → Addr) (hp : Hp) (s : Shared) (env : Env) (fm : Fm) (v : V) (hp' : Hp) (G : Addr → Addr → Shared → Prop) : Prop :=
  ∀ C D ρ' h' t', s.heap.get? C = none → C ∉ R → h₀.get? C = none → (∀ i, i < hp'.n → ρ' i ≠ C) → (∃ m, h'.Ns C m) → Rep prog w h₀ (C :: R) ρ' hp' h' → Grow [] ρ hp.n s.heap ρ' hp'.n h' → Resv h₀ (C :: R) h' → FmRel h₀ (C :: R) fm env ρ' hp'.n h' → VRel (C :: R) ρ' hp'.n h' v (.ref D) → G C D ⟨h', s.gens, s.drawn, t', s.os⟩
noncomputable abbrev UQ (Q : Unit → Shared → Prop) (C : Addr) (s'' : Shared) : Prop := ∃ m, s''.heap.Ns C m ∧ ∀ h'', Heap.SameBut C s''.heap h'' → Q () { s'' with heap := h'' }
noncomputable abbrev Sus (prog : Program) (w : World) (K : Frag) (h₀ : Heap) (F : Fns) : Prop := ∀ {d fm hp e v hp'}, F.ev d fm hp e = some (v, hp') → ∀ {A : Around} {env : Env} {R : List Addr} {ρ : Nat → Addr} {s : Shared} {x : Expr} {u : Value → Sem Unit} {Q : Unit → Shared → Prop} {Er : Value → Shared → Prop},
    isE env.kindOf e x = true → compE e = true → Room A d → Resv h₀ R s.heap → Rep prog w h₀ R ρ hp s.heap → FmRel h₀ R fm env ρ hp.n s.heap →
    KU prog w h₀ R ρ hp s env fm v hp' (fun C D s' => wpAny (model prog w) A (u (.ref D)) (fun _ => UQ Q C) Er s') → wpAny (model prog w) A (evalThenUse x env u) Q Er s
structure Snd (prog : Program) (w : World) (K : Frag) (h₀ : Heap) (F : Fns) : Prop where
  ev : Sev prog w K h₀ F
  ts : Sts prog w K h₀ F
  cl : Scl prog w K h₀ F
  ex : Sex prog w K h₀ F
  wh : Swh prog w K h₀ F
  fo : Sfo prog w K h₀ F
  co : Sco prog w K h₀ F
  us : Sus prog w K h₀ F
noncomputable abbrev WE (prog : Program) (w : World) (A : Around) (env : Env) (Q : Value → Shared → Prop) (Er : Value → Shared → Prop) (s : Shared) (x : Expr) : Prop := wpAny (model prog w) A (eval x env) Q Er s
theorem nos {α : Type} {a : α} {G : Prop} (h : none = some a) : G := nomatch h
theorem nob {G : Prop} (h : false = true) : G := nomatch h
section
variable {α β γ : Type} {r : β} {G : Prop}
theorem ob {o : Option α} {f : α → Option β} (h : o.rec (motive := fun _ => Option β) none f = some r) (k : ∀ a, o = some a → f a = some r → G) : G := by
  induction o using Option.casesOn with
  | none => exact nos h
  | some a => exact k a rfl h
theorem obp {o : Option (α × γ)} {f : α × γ → Option β} (h : o.rec (motive := fun _ => Option β) none f = some r) (k : ∀ a c, o = some (a, c) → f (a, c) = some r → G) : G := by
  induction o using Option.casesOn with
  | none => exact nos h
  | some p => exact k p.1 p.2 rfl h
theorem ob3 {δ : Type} {o : Option (α × γ × δ)} {f : α × γ × δ → Option β} (h : o.rec (motive := fun _ => Option β) none f = some r) (k : ∀ a b c, o = some (a, b, c) → f (a, b, c) = some r → G) : G := by
  induction o using Option.casesOn with
  | none => exact nos h
  | some p => exact k p.1 p.2.1 p.2.2 rfl h
theorem obThn {o : Option (Fl × Fm × Hp)} {f : Fm → Hp → Option (Fl × Fm × Hp)} {r : Fl × Fm × Hp} (h : thn o f = some r) (kn : ∀ fm h, o = some (.next, fm, h) → f fm h = some r → G) (kr : ∀ v fm h, o = some (.ret v, fm, h) → some (.ret v, fm, h) = some r → G) : G := by
  induction o using Option.casesOn with
  | none => exact nos h
  | some p =>
    obtain ⟨fl, q⟩ := p
    induction fl using Fl.casesOn with
    | next => exact kn q.1 q.2 rfl h
    | ret v => exact kr v q.1 q.2 rfl h
theorem obt {b : Bool} {x : Option β} (h : b.rec (motive := fun _ => Option β) none x = some r) (k : b = true → x = some r → G) : G := by
  induction b using Bool.casesOn with
  | false => exact nos h
  | true => exact k rfl h
theorem obC {o : Option O} {f : V → Option β} (h : (match o with
    | some (.cell (some v)) => f v
    | _ => none) = some r) (k : ∀ a, o = some (.cell (some a)) → f a = some r → G) : G := by
  rcases o with _ | o
  · exact nos h
  induction o using O.casesOn with
  | cell v =>
    induction v using Option.casesOn with
    | some a => exact k a rfl h
    | none => exact nos h
  | _ => exact nos h
theorem obI {o : Option O} {f : Nat → Nat → Option β} (h : (match o with
    | some (.inst c d) => f c d
    | _ => none) = some r) (k : ∀ c d, o = some (.inst c d) → f c d = some r → G) : G := by
  rcases o with _ | o
  · exact nos h
  induction o using O.casesOn with
  | inst c d => exact k c d rfl h
  | _ => exact nos h
theorem obL {o : Option O} {f : List V → Option β} (h : (match o with
    | some (.list vs) => f vs
    | _ => none) = some r) (k : ∀ vs, o = some (.list vs) → f vs = some r → G) : G := by
  rcases o with _ | o
  · exact nos h
  induction o using O.casesOn with
  | list vs => exact k vs rfl h
  | _ => exact nos h
theorem obD {o : Option O} {f : List (S × V) → Option β} (h : (match o with
    | some (.dict vs) => f vs
    | _ => none) = some r) (k : ∀ vs, o = some (.dict vs) → f vs = some r → G) : G := by
  rcases o with _ | o
  · exact nos h
  induction o using O.casesOn with
  | dict vs => exact k vs rfl h
  | _ => exact nos h
theorem obF {o : Option O} {f : List (Nat × V) → Option β} (h : (match o with
    | some (.flds fs) => f fs
    | _ => none) = some r) (k : ∀ fs, o = some (.flds fs) → f fs = some r → G) : G := by
  rcases o with _ | o
  · exact nos h
  induction o using O.casesOn with
  | flds fs => exact k fs rfl h
  | _ => exact nos h
end
theorem k2 {α β : Type} {C : α → β → Prop} {a a' : α} {b b' : β} (e : some (a, b) = some (a', b')) (k : C a' b') : C a b := Eq.mpr (congrArg (fun o : Option (α × β) => o.rec (motive := fun _ => Prop) True fun p => C p.1 p.2) e) k
theorem k3 {α β γ : Type} {C : α → β → γ → Prop} {a a' : α} {b b' : β} {c c' : γ} (e : some (a, b, c) = some (a', b', c')) (k : C a' b' c') : C a b c := Eq.mpr (congrArg (fun o : Option (α × β × γ) => o.rec (motive := fun _ => Prop) True fun p => C p.1 p.2.1 p.2.2) e) k
section
variable {prog : Program} {w : World} {h₀ : Heap} {R : List Addr} {ρ : Nat → Addr} {hp h1 hp' : Hp} {s : Shared} {env : Env}
theorem kv {u v : V} {Q : Value → Shared → Prop} (e : some (u, h1) = some (v, hp')) (k : KV prog w h₀ R ρ hp s v hp' Q) : KV prog w h₀ R ρ hp s u h1 Q := Eq.mpr (congrArg (fun o : Option (V × Hp) => o.rec (motive := fun _ => Prop) True fun p => KV prog w h₀ R ρ hp s p.1 p.2 Q) e) k
theorem kb {u v : Bool} {Q : Bool → Shared → Prop} (e : some (u, h1) = some (v, hp')) (k : KB prog w h₀ R ρ hp s v hp' Q) : KB prog w h₀ R ρ hp s u h1 Q := Eq.mpr (congrArg (fun o : Option (Bool × Hp) => o.rec (motive := fun _ => Prop) True fun p => KB prog w h₀ R ρ hp s p.1 p.2 Q) e) k
theorem kvs {u v : List V} {Q : List Value → Shared → Prop} (e : some (u, h1) = some (v, hp')) (k : KVs prog w h₀ R ρ hp s v hp' Q) : KVs prog w h₀ R ρ hp s u h1 Q := Eq.mpr (congrArg (fun o : Option (List V × Hp) => o.rec (motive := fun _ => Prop) True fun p => KVs prog w h₀ R ρ hp s p.1 p.2 Q) e) k
theorem kf {u v : Fl} {fm fm' : Fm} {Q : Flow → Shared → Prop} (e : some (u, fm, h1) = some (v, fm', hp')) (k : KF prog w h₀ R ρ hp s env v fm' hp' Q) : KF prog w h₀ R ρ hp s env u fm h1 Q := Eq.mpr (congrArg (fun o : Option (Fl × Fm × Hp) => o.rec (motive := fun _ => Prop) True fun p => KF prog w h₀ R ρ hp s env p.1 p.2.1 p.2.2 Q) e) k
theorem ka {fm fm' : Fm} {Q : Shared → Prop} (e : some (fm, h1) = some (fm', hp')) (k : KA prog w h₀ R ρ hp s env fm' hp' Q) : KA prog w h₀ R ρ hp s env fm h1 Q := Eq.mpr (congrArg (fun o : Option (Fm × Hp) => o.rec (motive := fun _ => Prop) True fun p => KA prog w h₀ R ρ hp s env p.1 p.2 Q) e) k
end
section
variable {α β γ : Type} {r : β} {R : List Addr} {ρ : Nat → Addr} {n : Nat} {h : Heap} {P : Value → Prop} {a : V} {ca : Value}
theorem vStr {f : S → Option β} (e : (match a with
    | .str x => f x
    | _ => none) = some r) (ra : VRel R ρ n h a ca) (k : ∀ x t, f x = some r → P (.str (toStr x) t)) : P ca := by
  induction a using V.casesOn with
  | str x => exact ra.inv (P := P) fun t => k x t e
  | _ => exact nos e
theorem vInt {f : Int → Option β} (e : (match a with
    | .int x => f x
    | _ => none) = some r) (ra : VRel R ρ n h a ca) (k : ∀ x t, f x = some r → P (.int x t)) : P ca := by
  induction a using V.casesOn with
  | int x => exact ra.inv (P := P) fun t => k x t e
  | _ => exact nos e
theorem vRef {f : Nat → Option β} (e : (match a with
    | .ref x => f x
    | _ => none) = some r) (ra : VRel R ρ n h a ca) (k : ∀ x, x < n → f x = some r → P (.ref (ρ x))) : P ca := by
  induction a using V.casesOn with
  | ref x => exact ra.inv (P := P) fun hi => k x hi e
  | _ => exact nos e
theorem vInt2 {b : V} {cb : Value} {P : Value → Value → Prop} {f : Int → Int → Option β} (e : (match a with
    | .int x => (match b with
      | .int y => f x y
      | _ => none)
    | _ => none) = some r) (ra : VRel R ρ n h a ca) (rb : VRel R ρ n h b cb) (k : ∀ x y t u, f x y = some r → P (.int x t) (.int y u)) : P ca cb := by
  set_option smartUnfolding false in refine vInt (P := fun ca => P ca cb) e ra fun x t e => ?_
  set_option smartUnfolding false in exact vInt (P := fun cb => P (.int x t) cb) e rb fun y u e => k x y t u e
theorem obb {o : Option α} {f : α → Bool} {G : Prop} (h : o.rec (motive := fun _ => Bool) false f = true) (k : ∀ a, o = some a → f a = true → G) : G := by
  induction o using Option.casesOn with
  | none => exact nob h
  | some a => exact k a rfl h
theorem obe {o : Option α} {f : α → Option β} {y : Option β} {G : Prop} (h : o.rec (motive := fun _ => Option β) y f = some r) (k : ∀ a, o = some a → f a = some r → G) (kn : o = none → y = some r → G) : G := by
  induction o using Option.casesOn with
  | none => exact kn rfl h
  | some a => exact k a rfl h
theorem obN {i : Int} {f : Nat → Option β} {G : Prop} (e : i.rec (motive := fun _ => Option β) f (fun _ => none) = some r) (k : ∀ m, i = .ofNat m → f m = some r → G) : G := by
  induction i using Int.casesOn with
  | ofNat m => exact k m rfl e
  | negSucc _ => exact nos e
theorem obf {b : Bool} {x y : Option β} {G : Prop} (h : b.rec (motive := fun _ => Option β) y x = some r) (kt : b = true → x = some r → G) (kf : b = false → y = some r → G) : G := by
  induction b using Bool.casesOn with
  | false => exact kf rfl h
  | true => exact kt rfl h
theorem obq {k c : Nat} {x y : Option β} {G : Nat → Prop} (h : (Nat.beq k c).rec (motive := fun _ => Option β) y x = some r) (kt : x = some r → G c) (kf : y = some r → G k) : G k := obf h (fun e h => Nat.eq_of_beq_eq_true e ▸ kt h) fun _ => kf
theorem va1 {args : List V} {cargs : List Value} {P : List Value → Prop} {v : V} (e : a1 args = some v) (rs : VRels R ρ n h args cargs) (k : ∀ cv, VRel R ρ n h v cv → P [cv]) : P cargs := match args, e, rs with
  | [u], e, rs => rs.inv (P := P) fun cv cvs x y => y.inv (P := fun c => P (cv :: c)) (k cv (Option.some.inj e ▸ x))
theorem va2 {args : List V} {cargs : List Value} {P : List Value → Prop} {v u : V} (e : a2 args = some (v, u)) (rs : VRels R ρ n h args cargs) (k : ∀ cv cu, VRel R ρ n h v cv → VRel R ρ n h u cu → P [cv, cu]) : P cargs := match args, e, rs with
  | y :: r, e, rs => rs.inv (P := P) fun cv cvs x rr => by
    set_option smartUnfolding false in refine ob e fun z hz e => ?_
    cases e
    exact va1 (P := fun c => P (cv :: c)) hz rr fun cu yy => k cv cu x yy
end
end
section
section
variable {prog : Program} {w : World} {K : Frag} {h₀ : Heap} {mg mb : Str → Option Value} {B : Tb} {F : Fns} {d : Nat} {fm : Fm} {hp hp' : Hp} {v : V} {A : Around} {env : Env} {R : List Addr} {ρ : Nat → Addr} {s : Shared} {x : Expr} {Q : Value → Shared → Prop} {Er : Value → Shared → Prop}
theorem ev_cn (he : evStep B F d fm hp .cn = some (v, hp')) (hx : isE env.kindOf .cn x = true) (P : Rep prog w h₀ R ρ hp s.heap) (k : KV prog w h₀ R ρ hp s v hp' Q) : wpAny (model prog w) A (eval x env) Q Er s :=
  iCn (P := WE prog w A env Q Er s) hx fun _ _ => wpAny_Constant_none (kv he k _ _ _ _ P (.refl ..) .none)
theorem ev_cb {b : Bool} (he : evStep B F d fm hp (.cb b) = some (v, hp')) (hx : isE env.kindOf (.cb b) x = true) (P : Rep prog w h₀ R ρ hp s.heap) (k : KV prog w h₀ R ρ hp s v hp' Q) : wpAny (model prog w) A (eval x env) Q Er s :=
  iCb (P := WE prog w A env Q Er s) hx fun _ _ => wpAny_Constant_bool (kv he k _ _ _ _ P (.refl ..) (.bool _))
theorem ev_ci {i : Int} (he : evStep B F d fm hp (.ci i) = some (v, hp')) (hx : isE env.kindOf (.ci i) x = true) (P : Rep prog w h₀ R ρ hp s.heap) (k : KV prog w h₀ R ρ hp s v hp' Q) : wpAny (model prog w) A (eval x env) Q Er s :=
  iCi (P := WE prog w A env Q Er s) hx fun _ _ => wpAny_Constant_int (kv he k _ _ _ _ P (.refl ..) (.int _ _))
theorem ev_cs {t : S} (he : evStep B F d fm hp (.cs t) = some (v, hp')) (hx : isE env.kindOf (.cs t) x = true) (P : Rep prog w h₀ R ρ hp s.heap) (k : KV prog w h₀ R ρ hp s v hp' Q) : wpAny (model prog w) A (eval x env) Q Er s :=
  iCs (P := WE prog w A env Q Er s) hx fun _ _ => wpAny_Constant_str (kv he k _ _ _ _ P (.refl ..) (.str _ _))
theorem ev_loc {y : Nat} (he : evStep B F d fm hp (.loc y) = some (v, hp')) (hx : isE env.kindOf (.loc y) x = true) (P : Rep prog w h₀ R ρ hp s.heap) (M : FmRel h₀ R fm env ρ hp.n s.heap) (k : KV prog w h₀ R ρ hp s v hp' Q) : wpAny (model prog w) A (eval x env) Q Er s := by
  set_option smartUnfolding false in refine ob he fun u hu he => ?_
  obtain ⟨m, hns, hl⟩ := M.locs
  obtain ⟨_, cv, hv, r⟩ := hl _ _ hu
  exact iName (P := WE prog w A env Q Er s) hx fun p hn h2 => wpAny_Name (wpAny_loadName_local M.kind h2 hns hv (kv he k _ _ _ _ P (.refl ..) r)) (nm_facts hn).1
theorem ev_cel {y : Nat} (he : evStep B F d fm hp (.cel y) = some (v, hp')) (hx : isE env.kindOf (.cel y) x = true) (P : Rep prog w h₀ R ρ hp s.heap) (M : FmRel h₀ R fm env ρ hp.n s.heap) (k : KV prog w h₀ R ρ hp s v hp' Q) : wpAny (model prog w) A (eval x env) Q Er s := by
  set_option smartUnfolding false in refine ob he fun i hi he => ?_
  set_option smartUnfolding false in refine obC he fun u hu he => ?_
  refine iCel (P := WE prog w A env Q Er s) hx fun p hn h2 => ?_
  obtain ⟨_, hin, hc⟩ := M.cells _ _ hi h2
  obtain ⟨co, ho, cv, hd, r⟩ := P.at hin hu
  exact h2.elim (fun q => wpAny_Name (wpAny_loadName_cell M.kind q hc ⟨co, ho, hd⟩ (kv he k _ _ _ _ P (.refl ..) r)) (nm_facts hn).1)
    fun q => wpAny_Name (wpAny_loadName_free M.kind q hc ⟨co, ho, hd⟩ (kv he k _ _ _ _ P (.refl ..) r) (nm_facts hn).2.1) (nm_facts hn).1
theorem glob_any (W : Wd prog w K h₀ mg mb B) {y : Nat} {pos : Pos} (hg : B.glob y = some v) (hk : env.kindOf (nm y) = some .globalImplicit) (rv : Resv h₀ R s.heap) (P : Rep prog w h₀ R ρ hp s.heap) (M : FmRel h₀ R fm env ρ hp.n s.heap)
    (k : ∀ cv, VRel R ρ hp.n s.heap v cv → Q cv s) : wpAny (model prog w) A (eval (.Name (nm y) pos) env) Q Er s := by
  obtain ⟨hn, q⟩ := W.glob _ _ hg
  have Hg : s.heap.Ns env.globals mg := M.glob ▸ W.g.keeps P.keep
  rcases q with ⟨cv, e, r⟩ | ⟨cv, e, hb, r⟩
  · exact Calls.Name_function_global M.kind hk (Calls.loadGlobal_global Hg (mg_of W.X W.g e) (k cv (r R ρ hp.n s.heap P.keep P.off rv.base))) (nm_facts hn).1
  · exact Calls.Name_function_global M.kind hk (Calls.loadGlobal_builtin Hg (mg_none_of W.X W.g e) (M.blt ▸ W.b.keeps P.keep) hb (k cv (r R ρ hp.n s.heap))) (nm_facts hn).1
theorem ev_glob (W : Wd prog w K h₀ mg mb B) {y : Nat} (he : evStep B F d fm hp (.glob y) = some (v, hp')) (hx : isE env.kindOf (.glob y) x = true) (rv : Resv h₀ R s.heap) (P : Rep prog w h₀ R ρ hp s.heap) (M : FmRel h₀ R fm env ρ hp.n s.heap) (k : KV prog w h₀ R ρ hp s v hp' Q) : wpAny (model prog w) A (eval x env) Q Er s := by
  set_option smartUnfolding false in refine ob he fun u hu he => ?_
  exact iName (P := WE prog w A env Q Er s) hx fun p hn h2 => glob_any W hu h2 rv P M fun cv r => kv he k _ _ _ _ P (.refl ..) r
theorem ev_neg {i : Int} (he : evStep B F d fm hp (.neg i) = some (v, hp')) (hx : isE env.kindOf (.neg i) x = true) (P : Rep prog w h₀ R ρ hp s.heap) (k : KV prog w h₀ R ρ hp s v hp' Q) : wpAny (model prog w) A (eval x env) Q Er s :=
  iNeg (P := WE prog w A env Q Er s) hx fun _ _ _ => wpAny_UnaryOp (wpAny_Constant_int (neg_int (kv he k _ _ _ _ P (.refl ..) (.int _ _))))
end
end
section
section
variable {prog : Program} {w : World} {K : Frag} {h₀ : Heap} {mg mb : Str → Option Value} {B : Tb} {F : Fns} {d : Nat} {fm : Fm} {hp hp' : Hp} {v : V} {A : Around} {env : Env} {R : List Addr} {ρ : Nat → Addr} {n : Nat} {h : Heap} {s : Shared} {x : Expr} {Q : Value → Shared → Prop} {Er : Value → Shared → Prop}
theorem handed_bi (k : Nat) : handedIn (.builtin (biName k)) = true :=
  match k with
  | 0 => (by decide +kernel : handedIn (.builtin "len") = true)
  | 1 => (by decide +kernel : handedIn (.builtin "min") = true)
  | 2 => (by decide +kernel : handedIn (.builtin "max") = true)
  | 3 => (by decide +kernel : handedIn (.builtin "chr") = true)
  | 4 => (by decide +kernel : handedIn (.builtin "ord") = true)
  | _ + 5 => (by decide +kernel : handedIn (.builtin "isinstance") = true)
theorem VRel.handed {cv : Value} (r : VRel R ρ n h v cv) : handedIn cv = true :=
  VRel.casesOn (motive_1 := fun _ cv _ => handedIn cv = true) r rfl (fun _ => rfl) (fun _ _ => rfl) (fun _ _ => rfl) (fun _ _ => rfl) (fun _ => rfl) (fun _ => rfl) handed_bi (fun _ _ => rfl) (fun _ _ _ _ _ => rfl) (fun _ _ _ _ _ => rfl) (fun _ _ _ _ _ => rfl) (fun _ _ _ _ _ _ => rfl) (fun _ _ _ => rfl)
theorem isStr_nm {x a : Nat} (hx : x < nN) (ha : a < nN) (t : Tok) : (Value.str (nm x) t).isStr (nm a) = Nat.beq x a := by
  rw [Bool.eq_iff_iff, Nat.beq_eq]
  exact ⟨fun e => nm_inj hx ha (beq_iff_eq.mp e), fun e => beq_iff_eq.mpr (congrArg nm e)⟩
theorem DRel.noRef {fs : List (Nat × V)} : ∀ {es : List DictEntry}, DRel R ρ n h fs es → es.any (·.refKey) = false := by
  induction fs with
  | nil => exact fun r => r.inv (P := fun es => es.any (·.refKey) = false) rfl
  | cons p fs ih => exact fun r => r.inv (P := fun es => es.any (·.refKey) = false) fun _ es _ _ _ _ r => show es.any (·.refKey) = false from ih r
noncomputable abbrev Fnd (R : List Addr) (ρ : Nat → Addr) (n : Nat) (h : Heap) (g : Option V) (f : Option DictEntry) : Prop := (∀ v, g = some v → ∃ e, f = some e ∧ VRel R ρ n h v e.val) ∧ (g = none → f = none)
theorem DRel.find {a : Nat} (ha : a < nN) {fs : List (Nat × V)} : ∀ {es : List DictEntry}, DRel R ρ n h fs es → Fnd R ρ n h (Mine.getL fs a) (es.find? (·.key.isStr (nm a))) := by
  induction fs with
  | nil => exact fun r => r.inv (P := fun es => Fnd R ρ n h none (es.find? (·.key.isStr (nm a)))) ⟨fun _ e => nos e, fun _ => rfl⟩
  | cons p fs ih =>
    refine fun r => r.inv (P := fun es => Fnd R ρ n h (Mine.getL (p :: fs) a) (es.find? (·.key.isStr (nm a)))) fun cv es hs t hx y r => ?_
    show Fnd R ρ n h (match Nat.beq p.1 a with | true => some p.2 | false => Mine.getL fs a) (match (Value.str (nm p.1) t).isStr (nm a) with | true => some ⟨hs, .str (nm p.1) t, cv⟩ | false => es.find? (·.key.isStr (nm a)))
    rw [isStr_nm hx ha]
    cases Nat.beq p.1 a with
    | true => exact ⟨fun v e => ⟨_, rfl, Option.some.inj e ▸ y⟩, fun e => nos e.symm⟩
    | false => exact ih r
theorem DRel.hit {a : Nat} (ha : a < nN) {fs : List (Nat × V)} {es : List DictEntry} {v : V} (r : DRel R ρ n h fs es) (e : Mine.getL fs a = some v) : ∃ cv, PySem.W.getL (nm a) es = some (some cv) ∧ VRel R ρ n h v cv := by
  obtain ⟨en, e1, e2⟩ := (r.find ha).1 v e
  exact ⟨en.val, by unfold PySem.W.getL; rw [e1], e2⟩
theorem DRel.miss {a : Nat} (ha : a < nN) {fs : List (Nat × V)} {es : List DictEntry} (r : DRel R ρ n h fs es) (e : Mine.getL fs a = none) : PySem.W.getL (nm a) es = some none := by
  unfold PySem.W.getL
  rw [(r.find ha).2 e, r.noRef]; rfl
theorem DRel.isSome {fs : List (Nat × V)} {es : List DictEntry} {name : Str} (r : DRel R ρ n h fs es) : (PySem.W.getL name es).isSome = true := by
  unfold PySem.W.getL
  rw [r.noRef]
  split <;> rfl
theorem DRel.put {a : Nat} {v : V} {cv : Value} {hs : Int} {t : Tok} (ha : a < nN) (y : VRel R ρ n h v cv) {fs : List (Nat × V)} : ∀ {es : List DictEntry}, DRel R ρ n h fs es → DRel R ρ n h (setL fs a v) (putL (nm a) hs (.str (nm a) t) cv es) := by
  induction fs with
  | nil => exact fun r => r.inv (P := fun es => DRel R ρ n h [(a, v)] (putL (nm a) hs (.str (nm a) t) cv es)) (.cons ha y .nil)
  | cons p fs ih =>
    refine fun r => r.inv (P := fun es => DRel R ρ n h (setL (p :: fs) a v) (putL (nm a) hs (.str (nm a) t) cv es)) fun cw es hs' t' hx z r => ?_
    show DRel R ρ n h (match Nat.beq p.1 a with | true => (p.1, v) :: fs | false => p :: setL fs a v) (if (Value.str (nm p.1) t').isStr (nm a) = true then _ else _)
    rw [isStr_nm hx ha]
    cases Nat.beq p.1 a with
    | true => exact .cons hx y r
    | false => exact .cons hx z (ih r)
theorem DRel.length {fs : List (Nat × V)} : ∀ {es : List DictEntry}, DRel R ρ n h fs es → es.length = fs.length := by
  induction fs with
  | nil => exact fun r => r.inv (P := fun es => es.length = 0) rfl
  | cons p fs ih => exact fun r => r.inv (P := fun es => es.length = fs.length + 1) fun _ es _ _ _ _ r => show es.length + 1 = fs.length + 1 from congrArg (· + 1) (ih r)
theorem putL_len (nme : Str) (hs : Int) (key cv : Value) (es : List DictEntry) : (putL nme hs key cv es).length ≤ es.length + 1 := by
  induction es with
  | nil => exact Nat.le_refl _
  | cons e r ih =>
    show List.length (if e.key.isStr nme = true then _ else _) ≤ _
    cases e.key.isStr nme with
    | true => exact Nat.le_succ _
    | false => exact Nat.succ_le_succ ih
theorem inst_own {G : Prop} (P : Rep prog w h₀ R ρ hp s.heap) {i c d' : Nat} {fs : List (Nat × V)} (hi : i < hp.n) (e : hp.get i = some (.inst c d')) (e' : hp.get d' = some (.flds fs))
    (k : ∀ es k, InstAt s.heap (ρ i) (instObj c (ρ d')) c (some (dictOf es k)) → DRel R ρ hp.n s.heap fs es → d' < hp.n → s.heap.get? (ρ d') = some (dictOf es k) → G) : G :=
  P.atI hi e fun hd ho => P.atF hd e' fun es kk ho' r => k es kk ⟨ho, rfl, rfl, ho'⟩ r hd ho'
theorem isFld_of (W : Wd prog w K h₀ mg mb B) {c a : Nat} (ha : a < nN) (e : isFld B c a = true) : ∃ ms, ClsOk K c ms ∧ findIn K (.ref c) (nm a) = some none := by
  unfold isFld at e
  cases hm : B.cls c with
  | none => rw [hm] at e; cases e
  | some ms =>
    rw [hm] at e
    dsimp only at e
    cases hg : getM ms a with
    | none => exact ⟨ms, W.cls _ _ hm, (W.fld _ _ _ hm ha hg).2⟩
    | some _ => rw [hg] at e; cases e
theorem get_fld (W : Wd prog w K h₀ mg mb B) {c a i : Nat} {fs : List (Nat × V)} {es : List DictEntry} {k : Nat} {ox : Obj} {ex : Bool} (ha : a < nN) (e : isFld B c a = true) (X : K.In s.heap) (I : InstAt s.heap i ox c (some (dictOf es k))) (r : DRel R ρ n h fs es) (g : Mine.getL fs a = some v)
    (q : ∀ cv, VRel R ρ n h v cv → Q cv { s with toks := s.toks + 1 }) : wpAny (model prog w) A (getAttr (.ref i) (nm a) ex) Q Er s := by
  obtain ⟨ms, C, hf⟩ := isFld_of W ha e
  obtain ⟨cv, e1, e2⟩ := r.hit ha g
  exact get_value X I (plainGet_of C.get).1 (findObj_own C.dict hf rfl e1) e2.handed (q cv e2)
theorem attr_any (W : Wd prog w K h₀ mg mb B) {u : V} {cu : Value} {a : Nat} {ex : Bool} (ha : a < nN) (he : attrOf B hp u a = some v) (P : Rep prog w h₀ R ρ hp s.heap) (r : VRel R ρ hp.n s.heap u cu) (k : KV prog w h₀ R ρ hp s v hp Q) : wpAny (model prog w) A (getAttr cu (nm a) ex) Q Er s := by
  have X := W.X.keeps P.keep
  refine r.inv (P := fun cu => wpAny (model prog w) A (getAttr cu (nm a) ex) Q Er s) ?_
  induction u using V.casesOn with
  | ref i =>
    refine fun hi => ?_
    set_option smartUnfolding false in refine obI he fun c d' hg he => ?_
    set_option smartUnfolding false in refine obt he fun hfld he => ?_
    set_option smartUnfolding false in refine obF he fun fs hgd he => ?_
    exact inst_own P hi hg hgd fun es kk I D _ _ => get_fld W ha hfld X I D he fun cv y => k _ _ _ _ P (.refl ..) y
  | rin c fs =>
    set_option smartUnfolding false in refine obt he fun hfld he => ?_
    exact fun es a dx kk ho hd off offd D => get_fld W ha hfld X ⟨ho, rfl, rfl, hd⟩ D he fun cv y => k _ _ _ _ P (.refl ..) y
  | _ => exact nos he
theorem ab_any {M : Model} {o : Expr} {a : Str} {t : Sem Value} (e : attributeBase o a env t = t) (ht : wpAny M A t Q Er s) : wpAny M A (attributeBase o a env t) Q Er s := e.symm ▸ ht
noncomputable def testy : E → Bool
  | .not _ => true
  | .bop _ _ => true
  | .ite _ _ _ => true
  | .cmp _ _ _ => true
  | _ => false
noncomputable abbrev base0 : Str → Env → Sem Value → Sem Value := fun _ _ t => t
noncomputable abbrev tr0 (o : Expr) : Env → Sem Value → Sem Bool := fun _ whole => whole >>= fun v => standAt o.pos >>= fun _ => holding [v] (truthy v)
noncomputable def look (e : E) (o : Expr) : (Str → Env → Sem Value → Sem Value) × (Env → Value → Sem Value) × (Option Expr → Nat → Env → Sem Bool) × (List Expr → Nat → Pos → Env → Sem (Option (List Str))) × (Env → Sem Value → Sem Bool) :=
  (attributeBase o, foldedSetIterable o, cond (compE e) (fun _ _ _ => pure false) (swapsWith o), cond (tupE e) (fun _ _ _ _ => pure none) (fun ts k p => swappedStores [.Tuple ts k p] o), cond (testy e) (tr0 o) (isTrue o))
noncomputable abbrev Shp (e : E) (o : Expr) : Prop := look e o = (base0, fun _ x => pure x, fun _ _ _ => pure false, fun _ _ _ _ => pure none, tr0 o)
theorem base_call {y : Nat} (hy : y < nN) {p pos : Pos} {as : List Expr} : attributeBase (.Call (.Name (nm y) p) as [] pos) = base0 := by
  induction as using List.casesOn with
  | nil =>
    funext a env t
    exact if_pos (by rw [bne, (nm_facts hy).2.2.1]; rfl)
  | cons _ _ => rfl
theorem shape {kd : Kd} {e : E} {o : Expr} (h : isE kd e o = true) : Shp e o := by
  induction e using E.casesOn with
  | cn => exact iCn (P := Shp _) h fun _ _ => rfl
  | cb => exact iCb (P := Shp _) h fun _ _ => rfl
  | ci => exact iCi (P := Shp _) h fun _ _ => rfl
  | cs => exact iCs (P := Shp _) h fun _ _ => rfl
  | loc => exact iName (P := Shp _) h fun _ _ _ => rfl
  | cel => exact iCel (P := Shp _) h fun _ _ _ => rfl
  | glob => exact iName (P := Shp _) h fun _ _ _ => rfl
  | attr => exact iAttr (P := Shp _) h fun _ _ _ _ => rfl
  | mcall => exact iMcall (P := Shp _) h fun _ _ _ _ _ _ _ _ _ => rfl
  | call y args => exact iCall (P := Shp _) h fun p as pos hy _ _ _ => Prod.ext (base_call hy) rfl
  | bin => exact iBin (P := Shp _) h fun _ _ _ _ _ => rfl
  | neg => exact iNeg (P := Shp _) h fun _ _ _ => rfl
  | mulL => exact iMulL (P := Shp _) h fun _ _ _ _ _ _ _ => rfl
  | not => exact iNot (P := Shp _) h fun _ _ _ => rfl
  | cmp => exact iCmp (P := Shp _) h fun _ _ _ _ _ _ => rfl
  | bop => exact iBop (P := Shp _) h fun _ _ _ => rfl
  | ite => exact iIte (P := Shp _) h fun _ _ _ _ _ _ _ => rfl
  | sub => exact iSub (P := Shp _) h fun _ _ _ _ _ _ => rfl
  | slc => exact iSlc (P := Shp _) h fun _ _ _ _ _ _ _ _ => rfl
  | lst => exact iLst (P := Shp _) h fun _ _ _ => rfl
  | tpl => exact iTpl (P := Shp _) h fun _ _ _ _ => rfl
  | dct => exact iDct (P := Shp _) h fun _ => rfl
  | comp => exact iComp (P := Shp _) h fun _ _ _ _ _ _ _ _ _ _ _ _ => rfl
  | raw => exact nob h
theorem no_super {kd : Kd} {e : E} {o : Expr} {a : Str} {t : Sem Value} (h : isE kd e o = true) : attributeBase o a env t = t := congrFun (congrFun (congrFun (congrArg (·.1) (shape h)) a) env) t
theorem no_set {kd : Kd} {e : E} {o : Expr} (h : isE kd e o = true) (x : Value) : foldedSetIterable o env x = pure x := congrFun (congrFun (congrArg (·.2.1) (shape h)) env) x
theorem no_comp {kd : Kd} {e : E} {o : Expr} (h : isE kd e o = true) (hc : compE e = false) : swapsWith o = fun _ _ _ => pure false := have q := congrArg (·.2.2.1) (shape h); by unfold look at q; rwa [hc] at q
theorem no_tup {kd : Kd} {e : E} {o : Expr} (h : isE kd e o = true) (hc : tupE e = false) : (fun ts k p => swappedStores [.Tuple ts k p] o) = fun _ _ _ _ => pure none := have q := congrArg (·.2.2.2.1) (shape h); by unfold look at q; rwa [hc] at q
theorem no_test {kd : Kd} {e : E} {o : Expr} (h : isE kd e o = true) (hc : testy e = false) : isTrue o = tr0 o := have q := congrArg (·.2.2.2.2) (shape h); by unfold look at q; rwa [hc] at q
theorem eval_Attribute (o : Expr) (a : Str) (pos : Pos) (env : Env) : eval (.Attribute o a pos) env = (do
    let v ← attributeBase o a env (eval o env)
    standAt pos.atName
    let r ← holding [v] (getAttr v a true)
    letTemporaryGo o v r
    pure r) := rfl
theorem ev_attr (W : Wd prog w K h₀ mg mb B) (I : Snd prog w K h₀ F) {o : E} {a : Nat} (he : evStep B F d fm hp (.attr o a) = some (v, hp')) (hx : isE env.kindOf (.attr o a) x = true) (rm : Room A d) (rv : Resv h₀ R s.heap) (P : Rep prog w h₀ R ρ hp s.heap) (M : FmRel h₀ R fm env ρ hp.n s.heap) (k : KV prog w h₀ R ρ hp s v hp' Q) : wpAny (model prog w) A (eval x env) Q Er s := by
  set_option smartUnfolding false in refine obp he fun u h1 hu he => ?_
  set_option smartUnfolding false in refine ob he fun y hy he => ?_
  refine iAttr (P := WE prog w A env Q Er s) hx fun o' p ha hx' => ?_
  refine wpAny_bind (ab_any (no_super hx') (I.ev hu hx' rm rv P M fun ρ' h' t' cu P' G r => ?_))
  refine wpAny_bind (wpAny_standAt (wpAny_bind (wpAny_holding ?_)))
  refine attr_any W ha hy P' r fun ρ'' h'' t'' cv P'' G' r' => ?_
  exact wpAny_bind (wpAny_letTemporaryGo (wpAny_pure (kv he k _ _ _ _ P'' (P'.then G G') r')))
end
end
section
section
variable {prog : Program} {w : World} {K : Frag} {h₀ : Heap} {mg mb : Str → Option Value} {B : Tb} {F : Fns} {d : Nat} {fm : Fm} {hp hp' : Hp} {v : V} {A : Around} {env : Env} {R : List Addr} {ρ : Nat → Addr} {n : Nat} {h : Heap} {s : Shared} {x : Expr} {Q : Value → Shared → Prop} {Er : Value → Shared → Prop}
theorem Resv.mono {X : List Addr} {ρ' : Nat → Addr} {h' : Heap} (rv : Resv h₀ R h) (P : Rep prog w h₀ R ρ hp h) (P' : Rep prog w h₀ R ρ' hp' h') (G : Grow X ρ hp.n h ρ' hp'.n h') : Resv h₀ R h' := ⟨rv.base, fun a ha => P'.live G (rv.live a ha)⟩
theorem starEach_cons {e : Expr} {r : List Expr} (h : ∀ y p, e ≠ .Starred y p) : starEach (e :: r) env = (false, eval e env) :: starEach r env := by
  cases e <;> first | rfl | exact absurd rfl (h _ _)
theorem evs_any (I : Snd prog w K h₀ F) {pos : Pos} {Q : List Value → Shared → Prop} (rm : Room A d) : ∀ {es : List E} {xs : List Expr} {hp hp' : Hp} {vs : List V} {R : List Addr} {ρ : Nat → Addr} {s : Shared} {Q : List Value → Shared → Prop}, evs F d fm es hp = some (vs, hp') → isEs env.kindOf es xs = true →
    Resv h₀ R s.heap → Rep prog w h₀ R ρ hp s.heap → FmRel h₀ R fm env ρ hp.n s.heap → KVs prog w h₀ R ρ hp s vs hp' Q → wpAny (model prog w) A (spliced (backTo pos (starEach xs env))) Q Er s
  | [], xs, hp, hp', vs, R, ρ, s, Q, he, hx, rv, P, M, k => iEs0 (Q := fun xs => wpAny (model prog w) A (spliced (backTo pos (starEach xs env))) Q Er s) hx (wpAny_items_nil (kvs he k _ _ _ _ P (.refl ..) .nil))
  | e :: es, xs, hp, hp', vs, R, ρ, s, Q, he, hx, rv, P, M, k => by
    dsimp only [evs] at he
    set_option smartUnfolding false in refine obp he fun u h1 hu he => ?_
    set_option smartUnfolding false in refine obp he fun us h2 hus he => ?_
    refine iEs (Q := fun xs => wpAny (model prog w) A (spliced (backTo pos (starEach xs env))) Q Er s) hx fun y ys hst hy hys => ?_
    refine wpAny_items_cons (I.ev hu hy rm rv P M fun ρ₁ h' t' cv P₁ G₁ r₁ => ?_) (starEach_cons hst)
    exact evs_any I (Q := fun vs s₂ => Q (cv :: vs) s₂) rm hus hys (rv.mono P P₁ G₁) P₁ (M.mono G₁) fun ρ₂ h'' t'' cvs P₂ G₂ r₂ => kvs he k _ _ _ _ P₂ (P₁.then G₁ G₂) (.cons (r₁.mono G₂ (fun _ x => nomatch x)) r₂)
theorem ev_not (I : Snd prog w K h₀ F) {e : E} (he : evStep B F d fm hp (.not e) = some (v, hp')) (hx : isE env.kindOf (.not e) x = true) (rm : Room A d) (rv : Resv h₀ R s.heap) (P : Rep prog w h₀ R ρ hp s.heap) (M : FmRel h₀ R fm env ρ hp.n s.heap) (k : KV prog w h₀ R ρ hp s v hp' Q) : wpAny (model prog w) A (eval x env) Q Er s := by
  dsimp only [evStep] at he
  generalize hu : F.ev d fm hp e = o at he
  rcases o with _ | ⟨b, h1⟩
  · exact nos he
  induction b using V.casesOn with
  | bool b =>
    refine iNot (P := WE prog w A env Q Er s) hx fun y p hy => wpAny_UnaryOp (I.ev hu hy rm rv P M fun ρ₁ h' t' cv P₁ G₁ r₁ => ?_)
    exact r₁.inv (P := fun cv => wpAny (model prog w) A (unaryOp .Not cv) Q Er _) (not_value (wpAny_truthy_bool (kv he k _ _ _ _ P₁ G₁ (.bool _))))
  | _ => exact nos he
set_option backward.match.sparseCases true in
theorem bops_any (I : Snd prog w K h₀ F) {pos : Pos} {op : BoolOp} (rm : Room A d) : ∀ {es : List E} {xs : List Expr} {hp hp' : Hp} {v : V} {R : List Addr} {ρ : Nat → Addr} {s : Shared} {Q : Value → Shared → Prop}, bops F d fm op es hp = some (v, hp') → isEs env.kindOf es xs = true →
    Resv h₀ R s.heap → Rep prog w h₀ R ρ hp s.heap → FmRel h₀ R fm env ρ hp.n s.heap → KV prog w h₀ R ρ hp s v hp' Q → wpAny (model prog w) A (boolOp pos op (evalEach xs env)) Q Er s
  | [], xs, hp, hp', v, R, ρ, s, Q, he, hx, rv, P, M, k => nos he
  | [e], xs, hp, hp', v, R, ρ, s, Q, he, hx, rv, P, M, k => iEs (Q := fun xs => wpAny (model prog w) A (boolOp pos op (evalEach xs env)) Q Er s) hx fun y ys _ hy hys => iEs0 (Q := fun ys => wpAny (model prog w) A (boolOp pos op (evalEach (y :: ys) env)) Q Er s) hys (I.ev he hy rm rv P M k)
  | e :: e2 :: es, xs, hp, hp', v, R, ρ, s, Q, he, hx, rv, P, M, k => by
    refine iEs (Q := fun xs => wpAny (model prog w) A (boolOp pos op (evalEach xs env)) Q Er s) hx fun y ys _ hy hys => ?_
    have hys2 := hys
    revert hys
    refine iEs (Q := fun ys => isEs env.kindOf (e2 :: es) ys = true → wpAny (model prog w) A (boolOp pos op (evalEach (y :: ys) env)) Q Er s) hys2 fun y2 ys _ _ _ hys => ?_
    show wpAny _ _ (eval y env >>= fun v => standAt pos >>= fun _ => holding [v] (truthy v) >>= fun t => match op, t with | .And, false | .Or, true => pure v | _, _ => boolOp pos op (evalEach (y2 :: ys) env)) _ _ _
    dsimp only [bops] at he
    generalize hu : F.ev d fm hp e = o at he
    rcases o with _ | ⟨b, h1⟩
    · exact nos he
    induction b using V.casesOn with
    | bool b =>
      refine wpAny_bind (I.ev hu hy rm rv P M fun ρ₁ h' t' cv P₁ G₁ r₁ => ?_)
      refine r₁.inv (P := fun v => wpAny (model prog w) A (standAt pos >>= fun _ => holding [v] (truthy v) >>= fun t => match op, t with | .And, false | .Or, true => pure v | _, _ => boolOp pos op (evalEach (y2 :: ys) env)) Q Er _) ?_
      refine wpAny_bind (wpAny_standAt (wpAny_bind (wpAny_holding (wpAny_truthy_bool ?_))))
      have go : ∀ {op}, bops F d fm op (e2 :: es) h1 = some (v, hp') → wpAny (model prog w) A (boolOp pos op (evalEach (y2 :: ys) env)) Q Er ⟨h', s.gens, s.drawn, t', s.os⟩ := fun he' =>
        bops_any I rm he' hys (rv.mono P P₁ G₁) P₁ (M.mono G₁) fun ρ₂ h'' t'' cv P₂ G₂ r₂ => k _ _ _ _ P₂ (P₁.then G₁ G₂) r₂
      cases op <;> cases b
      · exact wpAny_pure (kv he k _ _ _ _ P₁ G₁ (.bool _))
      · exact go he
      · exact go he
      · exact wpAny_pure (kv he k _ _ _ _ P₁ G₁ (.bool _))
    | _ => exact nos he
theorem ev_bop (I : Snd prog w K h₀ F) {op : BoolOp} {es : List E} (he : evStep B F d fm hp (.bop op es) = some (v, hp')) (hx : isE env.kindOf (.bop op es) x = true) (rm : Room A d) (rv : Resv h₀ R s.heap) (P : Rep prog w h₀ R ρ hp s.heap) (M : FmRel h₀ R fm env ρ hp.n s.heap) (k : KV prog w h₀ R ρ hp s v hp' Q) : wpAny (model prog w) A (eval x env) Q Er s :=
  iBop (P := WE prog w A env Q Er s) hx fun xs p h2 => bops_any I rm he h2 rv P M k
theorem ev_ite (I : Snd prog w K h₀ F) {c a b : E} (he : evStep B F d fm hp (.ite c a b) = some (v, hp')) (hx : isE env.kindOf (.ite c a b) x = true) (rm : Room A d) (rv : Resv h₀ R s.heap) (P : Rep prog w h₀ R ρ hp s.heap) (M : FmRel h₀ R fm env ρ hp.n s.heap) (k : KV prog w h₀ R ρ hp s v hp' Q) : wpAny (model prog w) A (eval x env) Q Er s := by
  set_option smartUnfolding false in refine obp he fun b h1 hu he => ?_
  refine iIte (P := WE prog w A env Q Er s) hx fun t y z p ht hy hz => wpAny_IfExp (I.ts hu ht rm rv P M fun ρ₁ h' t' P₁ G₁ => ?_)
  induction b using Bool.casesOn with
  | true => exact I.ev he hy rm (rv.mono P P₁ G₁) P₁ (M.mono G₁) fun ρ₂ h'' t'' cv P₂ G₂ r₂ => k _ _ _ _ P₂ (P₁.then G₁ G₂) r₂
  | false => exact I.ev he hz rm (rv.mono P P₁ G₁) P₁ (M.mono G₁) fun ρ₂ h'' t'' cv P₂ G₂ r₂ => k _ _ _ _ P₂ (P₁.then G₁ G₂) r₂
theorem fresh_none (h : Heap) : h.get? h.objs.size = none := by
  cases q : h.get? h.objs.size with
  | none => rfl
  | some o => exact absurd (Heap.lt_size q) (Nat.lt_irrefl _)
theorem lim_line : lim ≤ sizeLine := by decide +kernel
theorem short_of {m : Nat} (e : short m = true) : m < lim := by
  unfold short at e; rw [bltD] at e; exact of_decide_eq_true e
theorem newList_any {vs : List V} {cvs : List Value} (he : newList hp vs = some (v, hp')) (P : Rep prog w h₀ R ρ hp s.heap) (r : VRels R ρ hp.n s.heap vs cvs) (k : KV prog w h₀ R ρ hp s v hp' Q) :
    cvs.length ≤ sizeLine ∧ Q (.ref s.heap.objs.size) { s with heap := s.heap.push { cls := .type "list", data := .seq cvs.toArray } } := by
  set_option smartUnfolding false in refine obt he fun hs he => ?_
  obtain ⟨⟨i, h1⟩, e1, e2⟩ := Option.map_eq_some_iff.mp he
  obtain ⟨ρ', P', G, hi, hl⟩ := P.alloc (h' := s.heap.push { cls := .type "list", data := .seq cvs.toArray }) e1 (fresh_none _) (fun b o e => Heap.get?_push_of_some _ e) (Heap.get?_push_size _ rfl)
    fun ρ' G _ => ⟨cvs, 0, rfl, r.mono G (fun _ x => nomatch x)⟩
  exact ⟨r.length ▸ Nat.le_of_lt (Nat.lt_of_lt_of_le (short_of hs) lim_line), hi ▸ kv (congrArg some e2) k ρ' _ s.toks _ P' G (.ref i hl)⟩
theorem ev_lst (I : Snd prog w K h₀ F) {es : List E} (he : evStep B F d fm hp (.lst es) = some (v, hp')) (hx : isE env.kindOf (.lst es) x = true) (rm : Room A d) (rv : Resv h₀ R s.heap) (P : Rep prog w h₀ R ρ hp s.heap) (M : FmRel h₀ R fm env ρ hp.n s.heap) (k : KV prog w h₀ R ρ hp s v hp' Q) : wpAny (model prog w) A (eval x env) Q Er s := by
  set_option smartUnfolding false in refine obp he fun vs h1 hu he => ?_
  exact iLst (P := WE prog w A env Q Er s) hx fun xs p hx => wpAny_List (evs_any I (Q := fun _ _ => True) rm hu hx rv P M fun ρ₁ h' t' cvs P₁ G₁ r₁ => newList_any he P₁ r₁ fun ρ₂ h'' t'' cv P₂ G₂ r₂ => k _ _ _ _ P₂ (P₁.then G₁ G₂) r₂)
theorem newTup_any {vs : List V} {cvs : List Value} (P : Rep prog w h₀ R ρ hp s.heap) (rv : Resv h₀ R s.heap) (r : VRels R ρ hp.n s.heap vs cvs) (k : KV prog w h₀ R ρ hp s (.tup vs) hp Q) :
    Q (.ref s.heap.objs.size) { s with heap := s.heap.push { cls := .type "tuple", data := .seq cvs.toArray } } := by
  have hk : ∀ b o, s.heap.get? b = some o → (s.heap.push ({ cls := .type "tuple", data := .seq cvs.toArray } : Obj)).get? b = some o := fun b o e => Heap.get?_push_of_some _ e
  obtain ⟨P', G⟩ := P.keeps [] hk
  refine k ρ _ s.toks _ P' G (.tup (Heap.get?_push_size _ rfl) rfl rfl ⟨fun i hi q => ?_, fun q => ?_⟩ (r.mono G (fun _ x => nomatch x)))
  · obtain ⟨o, co, _, b, _⟩ := P.obj i hi
    rw [q, fresh_none] at b; cases b
  · have := rv.live _ q; rw [fresh_none] at this; cases this
theorem ev_tpl (I : Snd prog w K h₀ F) {es : List E} (he : evStep B F d fm hp (.tpl es) = some (v, hp')) (hx : isE env.kindOf (.tpl es) x = true) (rm : Room A d) (rv : Resv h₀ R s.heap) (P : Rep prog w h₀ R ρ hp s.heap) (M : FmRel h₀ R fm env ρ hp.n s.heap) (k : KV prog w h₀ R ρ hp s v hp' Q) : wpAny (model prog w) A (eval x env) Q Er s := by
  set_option smartUnfolding false in refine obp he fun vs h1 hu he => ?_
  set_option smartUnfolding false in refine obt he fun hs he => ?_
  exact iTpl (P := WE prog w A env Q Er s) hx fun xs _ p hx => wpAny_Tuple (evs_any I (Q := fun _ _ => True) rm hu hx rv P M fun ρ₁ h' t' cvs P₁ G₁ r₁ => ⟨r₁.length ▸ Nat.le_of_lt (Nat.lt_of_lt_of_le (short_of hs) lim_line),
    newTup_any P₁ (rv.mono P P₁ G₁) r₁ fun ρ₂ h'' t'' cv P₂ G₂ r₂ => kv he k _ _ _ _ P₂ (P₁.then G₁ G₂) r₂⟩)
theorem ev_dct (W : Wd prog w K h₀ mg mb B) (he : evStep B F d fm hp .dct = some (v, hp')) (hx : isE env.kindOf .dct x = true) (P : Rep prog w h₀ R ρ hp s.heap) (k : KV prog w h₀ R ρ hp s v hp' Q) : wpAny (model prog w) A (eval x env) Q Er s := by
  set_option smartUnfolding false in refine obp he fun i h1 hu he => ?_
  refine iDct (P := WE prog w A env Q Er s) hx fun p => wpAny_Dict_empty ?_
  obtain ⟨o, ho, hd⟩ := Heap.dictOf_iff.mp (Heap.DictOf.new (knd := strKind prog w) s.heap)
  rw [Heap.get?_push_size _ rfl] at ho
  have hs : (s.heap.objs.size == sysModules) = false := beq_eq_false_iff_ne.mpr (Nat.ne_of_gt (modules_low (W.lim.keeps P.keep)))
  obtain ⟨ρ', P', G, hi, hl⟩ := P.alloc (h' := s.heap.push _) hu (fresh_none _) (fun b o e => Heap.get?_push_of_some _ e) (Heap.get?_push_size _ rfl)
    fun ρ' G _ => ⟨hs, [], (Option.some.inj ho) ▸ hd, .nil⟩
  exact hi ▸ kv he k ρ' _ s.toks _ P' G (.ref i hl)
end
end
section
section
variable {prog : Program} {w : World} {K : Frag} {h₀ : Heap} {mg mb : Str → Option Value} {B : Tb} {F : Fns} {d : Nat} {fm : Fm} {hp hp' : Hp} {v : V} {A : Around} {env : Env} {R : List Addr} {ρ : Nat → Addr} {n : Nat} {h : Heap} {s : Shared} {x : Expr} {Q : Value → Shared → Prop} {Er : Value → Shared → Prop}
theorem toStr_inj {a b : S} (e : toStr a = toStr b) : a = b := by
  have := congrArg (fun z : Str => z.cps.toList) e
  simpa [toStr] using this
theorem toStr_eq (a b : S) : (toStr a == toStr b) = seqB a b := by
  rw [Bool.eq_iff_iff, beq_iff_eq, seqB_iff]
  exact ⟨toStr_inj, fun e => by rw [e]⟩
theorem toStr_len (a : S) : (toStr a).length = a.length := by simp [toStr, Str.length]
theorem toStr_append (a b : S) : toStr a ++ toStr b = toStr (a ++ b) := by
  apply Str.ext'
  show ((toStr a).cps ++ (toStr b).cps) = _
  simp [toStr]
theorem anyS_eq (x : S) : ∀ l : List S, (l.map toStr).any (· == toStr x) = anyS l x
  | [] => rfl
  | a :: r => by
    rw [List.map_cons, List.any_cons, toStr_eq, anyS_eq x r, anyS]
    cases seqB a x <;> rfl
theorem strsOf_are : ∀ {vs : List V} {cvs : List Value} {l : List S}, VRels R ρ n h vs cvs → strsOf vs = some l → StrsAre cvs (l.map toStr)
  | [], _, l, r, e => r.inv (P := fun c => StrsAre c (l.map toStr)) (Option.some.inj e ▸ .nil)
  | v :: vs, _, l, r, e => r.inv (P := fun c => StrsAre c (l.map toStr)) fun cv cvs x y => by
    induction v using V.casesOn with
    | str s =>
      dsimp only [strsOf] at e
      set_option smartUnfolding false in refine ob e fun l' hl e => ?_
      exact x.inv (P := fun cv => StrsAre (cv :: cvs) (l.map toStr)) fun t => Option.some.inj e ▸ .cons _ _ (strsOf_are y hl)
    | _ => exact nos e
theorem hasC_iff (c : Nat) : ∀ l : S, hasC l c = true ↔ c ∈ l
  | [] => by simp [hasC]
  | a :: r => by
    unfold hasC
    rw [beqD]
    by_cases q : a = c
    · subst q; rw [decide_eq_true rfl]; simp
    · rw [decide_eq_false q]; simp [hasC_iff c r, Ne.symm q]
theorem occ_one (l : S) (c : Nat) : (!(Builtin.Str.occurrences (toStr l) (toStr [c]) 0 (toStr l).length 1).isEmpty) = hasC l c := by
  have := StrLaws.found_one (toStr l) c
  rw [Bool.eq_iff_iff, hasC_iff]
  rw [show toStr [c] = ⟨#[c]⟩ from rfl, this, decide_eq_true_eq]
  simp [toStr]
theorem small_lt {i : Int} (e : small i = true) : i.natAbs ≤ 1000000000000 := by
  induction i using Int.casesOn with
  | ofNat m =>
    have e : Nat.blt m 1000000000000 = true := e
    rw [bltD] at e; have := of_decide_eq_true e
    show m ≤ _; lia
  | negSucc m =>
    have e : Nat.blt m 1000000000000 = true := e
    rw [bltD] at e; have := of_decide_eq_true e
    show m + 1 ≤ _; lia
theorem log2_small {m : Nat} (h : m ≤ 1000000000000) : m.log2 < 9000 := by
  by_cases q : m = 0
  · subst q; decide
  · have : m.log2 < 40 := (Nat.log2_lt q).mpr (Nat.lt_of_le_of_lt h (by decide))
    lia
theorem list_at {vs : List V} {v : V} {cv : Value} {D : Value → Prop} (P : Rep prog w h₀ R ρ hp s.heap) (r : VRel R ρ hp.n s.heap v cv) (e : Mine.listOf hp v = some vs) (k : ∀ a cvs, s.heap.IsList a (List.toArray cvs) → VRels R ρ hp.n s.heap vs cvs → D (.ref a)) : D cv := by
  refine r.inv (P := D) ?_
  induction v using V.casesOn with
  | ref i =>
    intro hi
    set_option smartUnfolding false in refine obL e fun us hg e => ?_
    exact P.atL hi hg fun cvs kk ho r => k _ cvs ⟨_, ho, rfl, kk, rfl⟩ (Option.some.inj e ▸ r)
  | rol us => exact fun cvs a o kk ho hc hd _ r => k a cvs ⟨o, ho, hc, kk, hd⟩ (Option.some.inj e ▸ r)
  | _ => exact nos e
noncomputable abbrev BW (prog : Program) (w : World) (A : Around) (Q : Value → Shared → Prop) (Er : Value → Shared → Prop) (s : Shared) (op : Operator) (ca cb : Value) : Prop := wpAny (model prog w) A (binaryOp op ca cb) Q Er s
theorem binop_any {op : Operator} {a b : V} {ca cb : Value} (he : binop hp op a b = some (v, hp')) (P : Rep prog w h₀ R ρ hp s.heap) (ra : VRel R ρ hp.n s.heap a ca) (rb : VRel R ρ hp.n s.heap b cb) (k : KV prog w h₀ R ρ hp s v hp' Q) :
    wpAny (model prog w) A (binaryOp op ca cb) Q Er s := by
  induction op using Operator.casesOn with
  | Add =>
    have lst : (match (generalizing := false) Mine.listOf hp a with
      | some x => (match (generalizing := false) Mine.listOf hp b with
        | some y => newList hp (x ++ y)
        | none => none)
      | none => none) = some (v, hp') → wpAny (model prog w) A (binaryOp .Add ca cb) Q Er s := fun he => by
      set_option smartUnfolding false in refine ob he fun x hx he => ?_
      set_option smartUnfolding false in refine ob he fun y hy he => ?_
      refine list_at (D := fun ca => BW prog w A Q Er s .Add ca cb) P ra hx fun a1 c1 l1 r1 => list_at (D := BW prog w A Q Er s .Add _) P rb hy fun a2 c2 l2 r2 => ?_
      obtain ⟨hl, q⟩ := newList_any he P (r1.append r2) k
      obtain ⟨⟨cls, dd, data, sl⟩, ho, hc, n, hd⟩ := id l1
      obtain ⟨⟨cls2, dd2, data2, sl2⟩, ho2, hc2, n2, hd2⟩ := id l2
      simp only at hc hd hc2 hd2
      subst hc hd hc2 hd2
      have e : c1.toArray ++ c2.toArray = (c1 ++ c2).toArray := by simp
      refine concat_meets ⟨_, ho, rfl⟩ ⟨_, ho2, rfl⟩ noFill_list_add seq_list_add PySem.F.slot_list_add PySem.F.entry_list_add (PySem.F.args_list_add_2 _ _) (list_addW a1 a2 c1.toArray c2.toArray n n2 dd dd2 sl sl2 (by simpa using hl)) ⟨ho, ho2, ?_⟩
      rw [e]
      exact q
    induction a using V.casesOn with
    | int x => exact ra.inv (P := fun ca => BW prog w A Q Er s .Add ca cb) fun t => vInt (P := fun cb => BW prog w A Q Er s .Add (.int x t) cb) he rb fun y u he => add_int (kv he k _ _ _ _ P (.refl ..) (.int _ _))
    | str x =>
      refine ra.inv (P := fun ca => BW prog w A Q Er s .Add ca cb) fun t => vStr (P := fun cb => BW prog w A Q Er s .Add (.str (toStr x) t) cb) he rb fun y u he => ?_
      set_option smartUnfolding false in refine obt he fun hs he => ?_
      exact add_str (fun t' tk => toStr_append x y ▸ kv he k _ _ _ _ P (.refl ..) (.str _ _)) (by rw [toStr_len, toStr_len]; exact Nat.le_of_lt (Nat.lt_of_lt_of_le (short_of hs) lim_line))
    | ref i => exact lst he
    | rol us => exact lst he
    | _ => exact nos he
  | Sub => set_option smartUnfolding false in exact vInt2 (P := BW prog w A Q Er s .Sub) he ra rb fun x y t u he => sub_int (kv he k _ _ _ _ P (.refl ..) (.int _ _))
  | Mult =>
    set_option smartUnfolding false in refine vInt2 (P := BW prog w A Q Er s .Mult) he ra rb fun x y t u he => ?_
    set_option smartUnfolding false in refine obt he fun hs he => ?_
    have h1 := small_lt (Bool.and_eq_true_iff.mp hs).1
    exact mul_int (kv he k _ _ _ _ P (.refl ..) (.int _ _)) (IntMulOk.of_left (intBits_le_64 (by lia) (by lia)))
  | FloorDiv =>
    set_option smartUnfolding false in refine vInt2 (P := BW prog w A Q Er s .FloorDiv) he ra rb fun x y t u he => ?_
    set_option smartUnfolding false in refine obt he fun hs he => ?_
    have h1 := Bool.and_eq_true_iff.mp hs
    exact floordiv_int (Int.ne_of_gt (of_decide_eq_true (Bool.and_eq_true_iff.mp h1.1).1)) (kv he k _ _ _ _ P (.refl ..) (.int _ _)) (.inl (PyProof.noPylong_of_log2 (log2_small (small_lt h1.2))))
  | Mod =>
    set_option smartUnfolding false in refine vInt2 (P := BW prog w A Q Er s .Mod) he ra rb fun x y t u he => ?_
    set_option smartUnfolding false in refine obt he fun hs he => ?_
    exact mod_int' (Int.ne_of_gt (of_decide_eq_true hs)) (kv he k _ _ _ _ P (.refl ..) (.int _ _))
  | _ => exact nos he
end
end
section
section
variable {prog : Program} {w : World} {K : Frag} {h₀ : Heap} {mg mb : Str → Option Value} {B : Tb} {F : Fns} {d : Nat} {fm : Fm} {hp hp' : Hp} {v : V} {A : Around} {env : Env} {R : List Addr} {ρ : Nat → Addr} {n : Nat} {h : Heap} {s : Shared} {x : Expr} {Q : Value → Shared → Prop} {Er : Value → Shared → Prop}
theorem okS_ok : ∀ s : S, okS s = true → PyData.strOk (toStr s) = true := by
  intro s h
  have : ∀ l : S, okS l = true → ∀ c ∈ l, c < 1114112 := by
    intro l
    induction l with
    | nil => intro _ c hc; cases hc
    | cons a r ih =>
      intro h c hc
      unfold okS at h
      rw [bltD] at h
      by_cases q : a < 1114112
      · rw [decide_eq_true q] at h
        rcases List.mem_cons.mp hc with rfl | hc
        · exact q
        · exact ih h c hc
      · rw [decide_eq_false q] at h; cases h
  simp only [PyData.strOk, toStr, List.all_toArray, List.all_eq_true, decide_eq_true_eq]
  exact this s h
mutual
theorem lay_toPy : ∀ v : V, dataV v = true → PyData.canLay0 (toPy v) = true
  | v, h => by
    induction v using V.casesOn with
    | none => rfl
    | int _ => rfl
    | str s => exact okS_ok s h
    | tup vs => exact lay_toPys vs h
    | rol vs => exact lay_toPys vs h
    | _ => exact nob h
theorem lay_toPys : ∀ vs : List V, dataVs vs = true → PyData.canLayAll0 (toPys vs) = true
  | [], _ => rfl
  | v :: r, h => and2 h fun a b => Bool.and_eq_true_iff.mpr ⟨lay_toPy v a, lay_toPys r b⟩
end
theorem nodata {a u : V} {G : Prop} (e : some a = some u) (hd : dataV u = true) (ha : dataV a = false) : G := nob (ha.symm.trans ((congrArg dataV (Option.some.inj e)).trans hd))
theorem reads_all {f : Nat} (IH : ∀ {v u : V} {cv : Value}, frz f hp v = some u → dataV u = true → VRel R ρ hp.n h v cv → ∃ as, Reads h cv (toPy u) as ∧ PyData.depth (toPy u) ≤ f) :
    ∀ {vs us : List V} {cvs : List Value}, mapO (frz f hp) vs = some us → dataVs us = true → VRels R ρ hp.n h vs cvs → ∃ as, ReadsAll h cvs (toPys us) as ∧ PyData.depthAll (toPys us) ≤ f
  | [], us, _, e, _, r => r.inv (P := fun c => ∃ as, ReadsAll h c (toPys us) as ∧ PyData.depthAll (toPys us) ≤ f) (Option.some.inj e ▸ ⟨_, .nil, Nat.zero_le _⟩)
  | v :: r, us, _, e, hd, rr => rr.inv (P := fun c => ∃ as, ReadsAll h c (toPys us) as ∧ PyData.depthAll (toPys us) ≤ f) fun cv cvs x y => by
    dsimp only [mapO] at e
    set_option smartUnfolding false in refine ob e fun u hu e => ?_
    set_option smartUnfolding false in refine ob e fun l hl e => ?_
    have e : us = u :: l := (Option.some.inj e).symm
    rw [e] at hd ⊢
    refine and2 hd fun d1 d2 => ?_
    obtain ⟨as, r1, d1⟩ := IH hu d1 x
    obtain ⟨bs, r2, d2⟩ := reads_all IH hl d2 y
    exact ⟨as ++ bs, .cons r1 r2, Nat.max_le.mpr ⟨d1, d2⟩⟩
theorem frz_reads (P : Rep prog w h₀ R ρ hp h) : ∀ (f : Nat) {v u : V} {cv : Value}, frz f hp v = some u → dataV u = true → VRel R ρ hp.n h v cv → ∃ as, Reads h cv (toPy u) as ∧ PyData.depth (toPy u) ≤ f
  | 0, _, _, _, e, _, _ => nos e
  | f + 1, v, u, cv, e, hd, r => by
    have lst : ∀ {vs : List V} {cvs : List Value} {a : Addr} {o : Obj} {k : Nat}, (match (generalizing := false) mapO (frz f hp) vs with
        | some us => some (V.rol us)
        | none => none) = some u → h.get? a = some o → o.cls = .type "list" → o.data = .seq (List.toArray cvs) k → VRels R ρ hp.n h vs cvs → ∃ as, Reads h (.ref a) (toPy u) as ∧ PyData.depth (toPy u) ≤ f + 1 := fun e ho hc hdd rr => by
      set_option smartUnfolding false in refine ob e fun us hus e => ?_
      have e : u = .rol us := (Option.some.inj e).symm
      rw [e] at hd ⊢
      obtain ⟨as, r1, d1⟩ := reads_all (frz_reads P f) hus hd rr
      exact ⟨_, .list ho hc hdd (by simpa using r1), Nat.succ_le_succ d1⟩
    dsimp only [frz] at e
    refine r.inv (P := fun cv => ∃ as, Reads h cv (toPy u) as ∧ PyData.depth (toPy u) ≤ f + 1) ?_
    induction v using V.casesOn with
    | ref i =>
      refine fun hi => ?_
      dsimp only at e
      generalize hg : hp.get i = o at e
      rcases o with _ | o
      · exact nos e
      induction o using O.casesOn with
      | list vs =>
        exact P.atL hi hg fun cvs k ho rr => lst e ho rfl rfl rr
      | dict kvs =>
        induction kvs using List.casesOn with
        | nil => exact nodata e hd rfl
        | cons _ _ => exact nos e
      | inst c d =>
        set_option smartUnfolding false in refine obF e fun fs _ e => ?_
        set_option smartUnfolding false in refine ob e fun us _ e => ?_
        exact nodata e hd rfl
      | _ => exact nos e
    | tup vs =>
      refine fun cvs a o k ho hc hdd _ rr => ?_
      set_option smartUnfolding false in refine ob e fun us hus e => ?_
      have e : u = .tup us := (Option.some.inj e).symm
      rw [e] at hd ⊢
      obtain ⟨as, r1, d1⟩ := reads_all (frz_reads P f) hus hd rr
      exact ⟨_, .tuple ho hc hdd (by simpa using r1), Nat.succ_le_succ d1⟩
    | rol vs => exact fun cvs a o k ho hc hdd _ rr => lst e ho hc hdd rr
    | rin c fs =>
      set_option smartUnfolding false in refine ob e fun us _ e => ?_
      exact nodata e hd rfl
    | none => exact Option.some.inj e ▸ ⟨_, .none, Nat.zero_le _⟩
    | int i => exact fun t => Option.some.inj e ▸ ⟨_, .int _ _, Nat.zero_le _⟩
    | str s => exact fun t => Option.some.inj e ▸ ⟨_, .str _ _, Nat.zero_le _⟩
    | _ => exact nodata e hd rfl
end
end
section
section
variable {prog : Program} {w : World} {K : Frag} {h₀ : Heap} {mg mb : Str → Option Value} {B : Tb} {F : Fns} {d : Nat} {fm : Fm} {hp hp' : Hp} {v : V} {A : Around} {env : Env} {R : List Addr} {ρ : Nat → Addr} {n : Nat} {h : Heap} {s : Shared} {x : Expr} {Q : Value → Shared → Prop} {Er : Value → Shared → Prop}
theorem krel_value {x : S} {kvs : List (S × V)} {cks : List (Str × Value)} (r : KR kvs cks) : (valueAt cks (toStr x)).isSome = (getD kvs x).isSome ∧ ∀ v, getD kvs x = some v → ∃ cv, valueAt cks (toStr x) = some cv ∧ VRel R ρ n h v cv := by
  induction r with
  | nil => exact ⟨rfl, fun _ e => nos e⟩
  | @cons k i t kvs cks r ih =>
    unfold valueAt getD
    rw [List.find?_cons]
    dsimp only
    by_cases q : k = x
    · rw [seqB_iff.mpr q, decide_eq_true (congrArg toStr q)]
      exact ⟨rfl, fun v e => ⟨_, rfl, Option.some.inj e ▸ .int _ _⟩⟩
    · rw [Bool.eq_false_iff.mpr fun z => q (seqB_iff.mp z), decide_eq_false fun z => q (toStr_inj z)]
      exact ih
theorem dict_own (P : Rep prog w h₀ R ρ hp s.heap) {i : Nat} {kvs : List (S × V)} (hi : i < hp.n) (e : hp.get i = some (.dict kvs)) {G : Prop} (k : ∀ cks, (ρ i == sysModules) = false → s.heap.DictOf (strKind prog w) (ρ i) cks → KR kvs cks → G) : G :=
  (P.at hi e).elim fun co x => x.2.2.elim fun cks y => k cks x.2.1 (Heap.dictOf_iff.mpr ⟨co, x.1, y.1⟩) y.2
theorem list_own (P : Rep prog w h₀ R ρ hp s.heap) {i : Nat} {vs : List V} (hi : i < hp.n) (e : hp.get i = some (.list vs)) {G : Prop} (k : ∀ cvs, s.heap.IsList (ρ i) (List.toArray cvs) → VRels R ρ hp.n s.heap vs cvs → G) : G :=
  P.atL hi e fun cvs kk ho r => k cvs ⟨_, ho, rfl, kk, rfl⟩ r
theorem hasS_some {vs : List V} {t : S} {b : Bool} (e : hasS vs t = some b) : ∃ l, strsOf vs = some l ∧ b = anyS l t := by
  set_option smartUnfolding false in refine ob e fun l hl e => ?_
  exact ⟨l, hl, (Option.some.inj e).symm⟩
theorem hasS_not {vs : List V} {t : S} {b : Bool} (e : (hasS vs t).map (!·) = some b) : ∃ l, strsOf vs = some l ∧ b = !anyS l t := by
  obtain ⟨c, hc, e⟩ := Option.map_eq_some_iff.mp e
  obtain ⟨l, hl, q⟩ := hasS_some hc
  exact ⟨l, hl, e ▸ q ▸ rfl⟩
theorem kr {b r : Bool} (e : some b = some r) (k : ∀ t, Q (.bool r) { s with toks := t }) : ∀ t, Q (.bool b) { s with toks := t } := Option.some.inj e ▸ k
theorem nrel {a : V} {ca : Value} (r : VRel R ρ n h a ca) : isN a = (ca == .none) := r.inv (P := fun ca => isN a = (ca == .none)) (by cases a <;> (repeat intro _) <;> rfl)
noncomputable abbrev CW (prog : Program) (w : World) (A : Around) (Q : Value → Shared → Prop) (Er : Value → Shared → Prop) (s : Shared) (op : CmpOp) (ca cb : Value) : Prop := wpAny (model prog w) A (compareOp op ca cb) Q Er s
theorem compare_any {op : CmpOp} {a b : V} {r : Bool} {ca cb : Value} (he : compare hp op a b = some r) (P : Rep prog w h₀ R ρ hp s.heap) (ra : VRel R ρ hp.n s.heap a ca) (rb : VRel R ρ hp.n s.heap b cb) (k : ∀ t, Q (.bool r) { s with toks := t }) :
    wpAny (model prog w) A (compareOp op ca cb) Q Er s := by
  induction op using CmpOp.casesOn with
  | Eq =>
    induction a using V.casesOn with
    | str x =>
      refine ra.inv (P := fun ca => CW prog w A Q Er s .Eq ca cb) fun t => ?_
      set_option smartUnfolding false in exact vStr (P := CW prog w A Q Er s .Eq _) he rb fun y u he => eq_str (toStr_eq x y ▸ kr he k s.toks)
    | int x =>
      refine ra.inv (P := fun ca => CW prog w A Q Er s .Eq ca cb) fun t => ?_
      set_option smartUnfolding false in exact vInt (P := CW prog w A Q Er s .Eq _) he rb fun y u he => eq_int (kr he k s.toks)
    | _ => exact nos he
  | NotEq =>
    induction a using V.casesOn with
    | str x =>
      refine ra.inv (P := fun ca => CW prog w A Q Er s .NotEq ca cb) fun t => ?_
      set_option smartUnfolding false in exact vStr (P := CW prog w A Q Er s .NotEq _) he rb fun y u he => ne_str (by rw [bne, toStr_eq]; exact kr he k s.toks)
    | int x =>
      refine ra.inv (P := fun ca => CW prog w A Q Er s .NotEq ca cb) fun t => ?_
      set_option smartUnfolding false in exact vInt (P := CW prog w A Q Er s .NotEq _) he rb fun y u he => ne_int (kr he k s.toks)
    | _ => exact nos he
  | Lt => set_option smartUnfolding false in exact vInt2 (P := CW prog w A Q Er s .Lt) he ra rb fun x y t u he => lt_int (kr he k s.toks)
  | LtE => set_option smartUnfolding false in exact vInt2 (P := CW prog w A Q Er s .LtE) he ra rb fun x y t u he => le_int (kr he k s.toks)
  | Gt => set_option smartUnfolding false in exact vInt2 (P := CW prog w A Q Er s .Gt) he ra rb fun x y t u he => gt_int (kr he k s.toks)
  | GtE => set_option smartUnfolding false in exact vInt2 (P := CW prog w A Q Er s .GtE) he ra rb fun x y t u he => ge_int (kr he k s.toks)
  | Is =>
    induction b using V.casesOn with
    | none => exact rb.inv (P := CW prog w A Q Er s .Is ca) (is_none (nrel ra ▸ kr he k s.toks))
    | _ => exact nos he
  | IsNot =>
    induction b using V.casesOn with
    | none => exact rb.inv (P := CW prog w A Q Er s .IsNot ca) (isNot_none (nrel ra ▸ kr he k s.toks))
    | _ => exact nos he
  | In =>
    induction a using V.casesOn with
    | str x =>
      refine ra.inv (P := fun ca => CW prog w A Q Er s .In ca cb) fun t => ?_
      induction b using V.casesOn with
      | tup vs =>
        obtain ⟨l, hl, e⟩ := hasS_some he
        exact rb.inv (P := CW prog w A Q Er s .In _) fun cvs a o kk ho hc hd off r => in_tuple_strs ⟨_, ho, hc, _, hd⟩ (strsOf_are r hl) (anyS_eq x l ▸ e ▸ k s.toks)
      | str y =>
        refine rb.inv (P := CW prog w A Q Er s .In _) fun u => ?_
        rcases x with _ | ⟨c, _ | _⟩
        · exact nos he
        · exact in_str (occ_one y c ▸ kr he k s.toks)
        · exact nos he
      | ref i =>
        refine rb.inv (P := CW prog w A Q Er s .In _) fun hi => ?_
        dsimp only [compare] at he
        generalize hg : hp.get i = o at he
        rcases o with _ | o
        · exact nos he
        induction o using O.casesOn with
        | list vs =>
          obtain ⟨l, hl, e⟩ := hasS_some he
          refine list_own P hi hg fun cvs L r => ?_
          exact in_list_strs L (strsOf_are r hl) (anyS_eq x l ▸ e ▸ k s.toks)
        | dict kvs =>
          exact dict_own P hi hg fun cks hs D r => wpAny_in_of (strKind_is prog w _ _) hs D.mapOf ((krel_value (R := R) (ρ := ρ) (n := hp.n) (h := s.heap) r).1 ▸ kr he k _)
        | _ => exact nos he
      | _ => exact nos he
    | _ => exact nos he
  | NotIn =>
    induction a using V.casesOn with
    | str x =>
      refine ra.inv (P := fun ca => CW prog w A Q Er s .NotIn ca cb) fun t => ?_
      induction b using V.casesOn with
      | tup vs =>
        obtain ⟨l, hl, e⟩ := hasS_not he
        exact rb.inv (P := CW prog w A Q Er s .NotIn _) fun cvs a o kk ho hc hd off r => notin_tuple_strs ⟨_, ho, hc, _, hd⟩ (strsOf_are r hl) (anyS_eq x l ▸ e ▸ k s.toks)
      | str y =>
        refine rb.inv (P := CW prog w A Q Er s .NotIn _) fun u => ?_
        rcases x with _ | ⟨c, _ | _⟩
        · exact nos he
        · exact notIn_str (occ_one y c ▸ kr he k s.toks)
        · exact nos he
      | ref i =>
        refine rb.inv (P := CW prog w A Q Er s .NotIn _) fun hi => ?_
        dsimp only [compare] at he
        generalize hg : hp.get i = o at he
        rcases o with _ | o
        · exact nos he
        induction o using O.casesOn with
        | list vs =>
          obtain ⟨l, hl, e⟩ := hasS_not he
          refine list_own P hi hg fun cvs L r => ?_
          exact notin_list_strs L (strsOf_are r hl) (anyS_eq x l ▸ e ▸ k s.toks)
        | dict kvs =>
          exact dict_own P hi hg fun cks hs D r => wpAny_notIn_of (strKind_is prog w _ _) hs D.mapOf ((krel_value (R := R) (ρ := ρ) (n := hp.n) (h := s.heap) r).1 ▸ kr he k _)
        | _ => exact nos he
      | _ => exact nos he
    | _ => exact nos he
theorem noD_at {a : V} {ca : Value} (he : noD hp a = true) (P : Rep prog w h₀ R ρ hp s.heap) (r : VRel R ρ hp.n s.heap a ca) : ∃ i, ca = .ref i ∧ (i == sysModules) = false ∧ s.heap.DictOf (strKind prog w) i [] := by
  refine r.inv (P := fun ca => ∃ i, ca = .ref i ∧ (i == sysModules) = false ∧ s.heap.DictOf (strKind prog w) i []) ?_
  induction a using V.casesOn with
  | edc => exact fun a k ho off hs => ⟨_, rfl, hs, _, #[], _, ho, ⟨rfl, rfl, rfl⟩, rfl, fun e he => by simp at he, .nil, List.nodup_nil⟩
  | ref i =>
    refine fun hi => ?_
    dsimp only [noD] at he
    generalize hg : hp.get i = o at he
    rcases o with _ | o
    · exact nob he
    induction o using O.casesOn with
    | dict kvs =>
      induction kvs using List.casesOn with
      | nil =>
        refine dict_own P hi hg fun cks hs D rr => ?_
        cases rr
        exact ⟨_, rfl, hs, D⟩
      | cons _ _ => exact nob he
    | _ => exact nob he
  | _ => exact nob he
theorem Room.line {A : Around} {d : Nat} (rm : Room A d) : A.units + 64 < cLine ∧ A.in1.units + 64 < cLine ∧ A.units < cLine := by
  have := rm.units
  have e : cLine = 9900 := rfl
  rw [e]
  refine ⟨by lia, ?_, by lia⟩
  rw [Around.in1_units]; lia
theorem deepEq_any {op : CmpOp} {a b : V} {r : Bool} {ca cb : Value} (he : deepEq hp op a b = some r) (rm : Room A d) (P : Rep prog w h₀ R ρ hp s.heap) (ra : VRel R ρ hp.n s.heap a ca) (rb : VRel R ρ hp.n s.heap b cb) (k : ∀ t, Q (.bool r) { s with toks := t }) :
    wpAny (model prog w) A (compareOp op ca cb) Q Er s := by
  set_option smartUnfolding false in refine ob he fun x hx he => ?_
  set_option smartUnfolding false in refine ob he fun y hy he => ?_
  set_option smartUnfolding false in refine obt he fun hd he => ?_
  obtain ⟨h1, h2⟩ := Bool.and_eq_true_iff.mp hd
  obtain ⟨as, r1, d1⟩ := frz_reads P _ hx h1 ra
  obtain ⟨bs, r2, d2⟩ := frz_reads P _ hy h2 rb
  induction op using CmpOp.casesOn with
  | Eq => exact eq_dataH r1 r2 (Bool.and_eq_true_iff.mpr ⟨lay_toPy _ h1, decide_eq_true (Nat.le_trans d1 (by decide))⟩) (Bool.and_eq_true_iff.mpr ⟨lay_toPy _ h2, decide_eq_true (Nat.le_trans d2 (by decide))⟩) rm.line.1 (kr he k s.toks)
  | NotEq => exact ne_dataH r1 r2 (Bool.and_eq_true_iff.mpr ⟨lay_toPy _ h1, decide_eq_true (Nat.le_trans d1 (by decide))⟩) (Bool.and_eq_true_iff.mpr ⟨lay_toPy _ h2, decide_eq_true (Nat.le_trans d2 (by decide))⟩) rm.line.1 (kr he k s.toks)
  | _ => exact nos he
theorem cmpV_any (W : Wd prog w K h₀ mg mb B) {op : CmpOp} {a b : V} {r : Bool} {ca cb : Value} (he : cmpV B.sd hp op a b = some r) (rm : Room A d) (P : Rep prog w h₀ R ρ hp s.heap) (ra : VRel R ρ hp.n s.heap a ca) (rb : VRel R ρ hp.n s.heap b cb) (k : ∀ t, Q (.bool r) { s with toks := t }) :
    wpAny (model prog w) A (compareOp op ca cb) Q Er s := by
  have rest : (match (generalizing := false) compare hp op a b with
    | some r => some r
    | none => match (generalizing := false) noD hp a && noD hp b with
      | true => match (generalizing := false) op with
        | .NotEq => some false
        | _ => none
      | false => match (generalizing := false) isSeq a && isSeq b with
        | true => deepEq hp op a b
        | false => none) = some r → wpAny (model prog w) A (compareOp op ca cb) Q Er s := fun he => by
    generalize hc : compare hp op a b = o at he
    induction o using Option.casesOn with
    | some r' => exact compare_any (hc.trans he) P ra rb k
    | none =>
      set_option smartUnfolding false in refine obf he (fun hd he => ?_) fun _ he => ?_
      · obtain ⟨h1, h2⟩ := Bool.and_eq_true_iff.mp hd
        obtain ⟨i, rfl, hs, D⟩ := noD_at h1 P ra
        obtain ⟨j, rfl, hs', D'⟩ := noD_at h2 P rb
        induction op using CmpOp.casesOn with
        | NotEq => exact keq_ne (r := true) hs hs' D D' rm.line.2.2 (fun _ => .nil) (kr he k s.toks)
        | _ => exact nos he
      · set_option smartUnfolding false in refine obt he fun _ he => ?_
        exact deepEq_any he rm P ra rb k
  have sd : ∀ {g : Nat} {x : S} {f : List (S × V) → Bool}, (B.sd g).map f = some r → (∀ {es m kvs}, K.lookup g = some ⟨.type "dict", none, .dict es m, #[]⟩ → KeysLit w.params es.toList → (g == sysModules) = false → (∃ rr, nsIn K g (toStr x) = some rr ∧ rr.isSome = (getD kvs x).isSome) → f kvs = r → wpAny (model prog w) A (compareOp op ca cb) Q Er s) → wpAny (model prog w) A (compareOp op ca cb) Q Er s := fun {g x f} e q => by
    obtain ⟨kvs, hk, e⟩ := Option.map_eq_some_iff.mp e
    obtain ⟨es, m, hl, hlit, hs, hx⟩ := W.sd _ _ hk
    obtain ⟨rr, e1, e2, _⟩ := hx x
    exact q hl hlit hs ⟨rr, e1, e2⟩ e
  induction b using V.casesOn with
  | glb g =>
    dsimp only [cmpV] at he
    generalize hc : cmpG B.sd op a g = o at he
    induction o using Option.casesOn with
    | none => exact rest he
    | some r' =>
      have hc := hc.trans he
      induction op using CmpOp.casesOn with
      | In =>
        induction a using V.casesOn with
        | str x =>
          refine sd (x := x) hc fun hl hlit hs hx e => ?_
          obtain ⟨rr, e1, e2⟩ := hx
          exact ra.inv (P := fun ca => CW prog w A Q Er s .In ca cb) fun t => rb.inv (P := CW prog w A Q Er s .In _) (wpAny_in_of (strKind_is prog w _ _) hs (mapOf_K (prog := prog) (W.X.keeps P.keep) hl hlit) (by rw [find_K hl e1, e2, e]; exact k _))
        | _ => exact nos hc
      | NotIn =>
        induction a using V.casesOn with
        | str x =>
          refine sd (x := x) hc fun hl hlit hs hx e => ?_
          obtain ⟨rr, e1, e2⟩ := hx
          exact ra.inv (P := fun ca => CW prog w A Q Er s .NotIn ca cb) fun t => rb.inv (P := CW prog w A Q Er s .NotIn _) (wpAny_notIn_of (strKind_is prog w _ _) hs (mapOf_K (prog := prog) (W.X.keeps P.keep) hl hlit) (by rw [find_K hl e1, e2, e]; exact k _))
        | _ => exact nos hc
      | _ => exact nos hc
  | _ => exact rest he
theorem ev_bin (I : Snd prog w K h₀ F) {op : Operator} {l r : E} (he : evStep B F d fm hp (.bin op l r) = some (v, hp')) (hx : isE env.kindOf (.bin op l r) x = true) (rm : Room A d) (rv : Resv h₀ R s.heap) (P : Rep prog w h₀ R ρ hp s.heap) (M : FmRel h₀ R fm env ρ hp.n s.heap) (k : KV prog w h₀ R ρ hp s v hp' Q) : wpAny (model prog w) A (eval x env) Q Er s := by
  set_option smartUnfolding false in refine obp he fun a h1 hu he => ?_
  set_option smartUnfolding false in refine obp he fun b h2 hu2 he => ?_
  refine iBin (P := WE prog w A env Q Er s) hx fun y z p hy hz => wpAny_BinOp (I.ev hu hy rm rv P M fun ρ₁ h' t' ca P₁ G₁ r₁ => ?_)
  exact I.ev hu2 hz rm (rv.mono P P₁ G₁) P₁ (M.mono G₁) fun ρ₂ h'' t'' cb P₂ G₂ r₂ => binop_any he P₂ (r₁.mono G₂ (fun _ x => nomatch x)) r₂ fun ρ₃ h3 t3 cv P₃ G₃ r₃ => k _ _ _ _ P₃ (P₂.then (P₁.then G₁ G₂) G₃) r₃
theorem ev_cmp (W : Wd prog w K h₀ mg mb B) (I : Snd prog w K h₀ F) {op : CmpOp} {l r : E} (he : evStep B F d fm hp (.cmp op l r) = some (v, hp')) (hx : isE env.kindOf (.cmp op l r) x = true) (rm : Room A d) (rv : Resv h₀ R s.heap) (P : Rep prog w h₀ R ρ hp s.heap) (M : FmRel h₀ R fm env ρ hp.n s.heap) (k : KV prog w h₀ R ρ hp s v hp' Q) : wpAny (model prog w) A (eval x env) Q Er s := by
  set_option smartUnfolding false in refine obp he fun a h1 hu he => ?_
  set_option smartUnfolding false in refine obp he fun b h2 hu2 he => ?_
  set_option smartUnfolding false in refine ob he fun c hc he => ?_
  refine iCmp (P := WE prog w A env Q Er s) hx fun y z p hy hz hm => wpAny_Compare1 (I.ev hu hy rm rv P M fun ρ₁ h' t' ca P₁ G₁ r₁ => ?_) hm
  exact I.ev hu2 hz rm (rv.mono P P₁ G₁) P₁ (M.mono G₁) fun ρ₂ h'' t'' cb P₂ G₂ r₂ => cmpV_any W hc rm P₂ (r₁.mono G₂ (fun _ x => nomatch x)) r₂ fun t => kv he k _ _ _ _ P₂ (P₁.then G₁ G₂) (.bool _)
end
end
section
section
variable {prog : Program} {w : World} {K : Frag} {h₀ : Heap} {mg mb : Str → Option Value} {B : Tb} {F : Fns} {d : Nat} {fm : Fm} {hp hp' : Hp} {v : V} {A : Around} {env : Env} {R : List Addr} {ρ : Nat → Addr} {n : Nat} {h : Heap} {s : Shared} {x : Expr} {Q : Value → Shared → Prop} {Er : Value → Shared → Prop}
theorem place_some {m : Nat} {i : Int} {j : Nat} (e : place m i = some j) : i = (j : Int) ∧ j < m ∧ j < 100000 := by
  set_option smartUnfolding false in refine obN e fun q hq e => ?_
  set_option smartUnfolding false in refine obt e fun hd e => ?_
  cases e
  exact and2 hd fun h1 h2 => ⟨hq, Nat.blt_eq.mp h1, short_of h2⟩
theorem seq_at {j m : Nat} (hj : j < m) : seqIndex? (j : Int) m = some j := by
  unfold seqIndex?
  have : ¬ (j : Int) < 0 := by lia
  simp only [this, if_false]
  rw [if_pos (by simp; lia)]
  simp
theorem sub_eq {slice : Expr} (hs : ∀ l u st p, slice ≠ .Slice l u st p) (o i : Value) : subscripted slice false o i = operate [o, i] (getItem o i) := by
  cases slice <;> first | rfl | exact absurd rfl (hs _ _ _ _)
theorem items_at {vs : List V} {v : V} {cv : Value} {D : Value → Prop} (P : Rep prog w h₀ R ρ hp s.heap) (r : VRel R ρ hp.n s.heap v cv) (e : itemsOf hp v = some vs)
    (kl : ∀ a cvs, s.heap.IsList a (List.toArray cvs) → VRels R ρ hp.n s.heap vs cvs → D (.ref a)) (kt : ∀ a cvs, s.heap.IsTuple a (List.toArray cvs) → VRels R ρ hp.n s.heap vs cvs → D (.ref a)) : D cv := by
  refine r.inv (P := D) ?_
  induction v using V.casesOn with
  | ref i =>
    refine fun hi => ?_
    set_option smartUnfolding false in refine obL e fun us hg e => ?_
    refine list_own P hi hg fun cvs L r => ?_
    exact kl _ cvs L (Option.some.inj e ▸ r)
  | tup us => exact fun cvs a o k ho hc hd off r => kt a cvs ⟨_, ho, hc, _, hd⟩ (Option.some.inj e ▸ r)
  | rol us => exact fun cvs a o k ho hc hd off r => kl a cvs ⟨_, ho, hc, _, hd⟩ (Option.some.inj e ▸ r)
  | row r => exact fun cvs a o k ok ho hc hd off hi => kl a cvs ⟨_, ho, hc, _, hd⟩ (Option.some.inj e ▸ hi.rels)
  | _ => exact nos e
noncomputable abbrev TW (prog : Program) (w : World) (A : Around) (Q : Value → Shared → Prop) (Er : Value → Shared → Prop) (s : Shared) (value slice : Expr) (o i : Value) : Prop := wpAny (model prog w) A (subscriptTail value slice o i) Q Er s
theorem item_any (W : Wd prog w K h₀ mg mb B) {o i : Value} {vo vi : V} {value slice : Expr} (hs : ∀ l u st p, slice ≠ .Slice l u st p) (he : subOf B hp vo vi = some v)
    (P : Rep prog w h₀ R ρ hp s.heap) (ro : VRel R ρ hp.n s.heap vo o) (ri : VRel R ρ hp.n s.heap vi i) (k : KV prog w h₀ R ρ hp s v hp Q) : wpAny (model prog w) A (subscriptTail value slice o i) Q Er s := by
  refine ri.inv (P := TW prog w A Q Er s value slice o) ?_
  induction vi using V.casesOn with
  | int j =>
    refine fun tk => ?_
    set_option smartUnfolding false in refine obe he (fun vs hvs he => ?_) fun hn he => ?_
    · set_option smartUnfolding false in refine ob he fun q hq he2 => ?_
      obtain ⟨rfl, hlt, hsm⟩ := place_some hq
      refine items_at (D := fun o => TW prog w A Q Er s value slice o (.int q tk)) P ro hvs (fun a cvs L r => ?_) fun a cvs L r => ?_
      · obtain ⟨cv, e1, e2⟩ := r.nth he2
        exact tail_any (T := "list") L.typeIs slot_list_getitem.lookup (wpAny_getItem_list (x := cv) L (by lia) (by lia) (by simpa using e1) (k _ _ _ _ P (.refl ..) e2)) (sub_eq hs _ _)
      · obtain ⟨cv, e1, e2⟩ := r.nth he2
        exact item_tupleT L (by lia) (by lia) (seq_at (r.length ▸ hlt)) e1 (k _ _ _ _ P (.refl ..) e2) (sub_eq hs _ _)
    · set_option smartUnfolding false in refine vStr (P := fun o => TW prog w A Q Er s value slice o (.int j tk)) he ro fun t u he => ?_
      set_option smartUnfolding false in refine ob he fun q hq he => ?_
      set_option smartUnfolding false in refine ob he fun c hc he3 => ?_
      obtain ⟨rfl, hlt, hsm⟩ := place_some hq
      cases he3
      exact tail_any (T := "str") (typeIs_str _ _ _) PySem.F.slot_str_getitem.lookup (PyProof.Rows.getItem_str (c := c) (by simp only [Bool.or_eq_false_iff, decide_eq_false_iff_not]; lia) (by rw [toStr_len, seq_at hlt]; simpa [toStr] using hc) (k _ _ _ _ P (.refl ..) (.str [c] _))) (sub_eq hs _ _)
  | str t =>
    refine fun tk => ?_
    refine ro.inv (P := fun o => TW prog w A Q Er s value slice o (.str (toStr t) tk)) ?_
    induction vo using V.casesOn with
    | glb g =>
      set_option smartUnfolding false in refine ob he fun kvs hk he => ?_
      obtain ⟨es, m, hl, hlit, hsm, hx⟩ := W.sd _ _ hk
      obtain ⟨rr, e1, _, e3⟩ := hx t
      obtain ⟨cv, rfl, r⟩ := e3 _ he
      have Mo := mapOf_K (prog := prog) (W.X.keeps P.keep) hl hlit
      exact tail_any (T := "dict") Mo.typeIs slot_dict_getitem.lookup (wpAny_getItem_of (strKind_is prog w _ _) Mo (by rw [find_K hl e1]) (k _ _ _ _ P (.refl ..) (r _ _ _ _))) (sub_eq hs _ _)
    | ref i =>
      refine fun hi => ?_
      set_option smartUnfolding false in refine obD he fun kvs hg he => ?_
      refine dict_own P hi hg fun cks hsm D r => ?_
      obtain ⟨cv, e1, e2⟩ := (krel_value (R := R) (ρ := ρ) (n := hp.n) (h := s.heap) r).2 _ he
      exact tail_any (T := "dict") D.mapOf.typeIs slot_dict_getitem.lookup (wpAny_getItem_of (strKind_is prog w _ _) D.mapOf e1 (k _ _ _ _ P (.refl ..) e2)) (sub_eq hs _ _)
    | _ => exact nos he
  | _ => exact nos he
theorem ev_sub (W : Wd prog w K h₀ mg mb B) (I : Snd prog w K h₀ F) {o i : E} (he : evStep B F d fm hp (.sub o i) = some (v, hp')) (hx : isE env.kindOf (.sub o i) x = true) (rm : Room A d) (rv : Resv h₀ R s.heap) (P : Rep prog w h₀ R ρ hp s.heap) (M : FmRel h₀ R fm env ρ hp.n s.heap) (k : KV prog w h₀ R ρ hp s v hp' Q) : wpAny (model prog w) A (eval x env) Q Er s := by
  set_option smartUnfolding false in refine obp he fun a h1 hu he => ?_
  set_option smartUnfolding false in refine obp he fun b h2 hu2 he => ?_
  set_option smartUnfolding false in refine ob he fun y hy he => ?_
  refine iSub (P := WE prog w A env Q Er s) hx fun vx j p hns hv hj => Subscript_ (I.ev hu hv rm rv P M fun ρ₁ h' t' ca P₁ G₁ r₁ => ?_)
  refine I.ev hu2 hj rm (rv.mono P P₁ G₁) P₁ (M.mono G₁) fun ρ₂ h'' t'' cb P₂ G₂ r₂ => ?_
  exact item_any W hns hy P₂ (r₁.mono G₂ (fun _ x => nomatch x)) r₂ fun ρ₃ h3 t3 cv P₃ G₃ r₃ => kv he k _ _ _ _ P₃ (P₂.then (P₁.then G₁ G₂) G₃) r₃
noncomputable def PartRel (R : List Addr) (ρ : Nat → Addr) (n : Nat) (h : Heap) : Option V → Value → Prop
  | none, cv => cv = .none
  | some v, cv => VRel R ρ n h v cv
theorem optE_any (I : Snd prog w K h₀ F) {o : Option E} {xo : Option Expr} {l : Option V} {Q : Value → Shared → Prop} (he : optE F d fm hp o = some (l, hp')) (hx : isO env.kindOf o xo = true) (rm : Room A d) (rv : Resv h₀ R s.heap) (P : Rep prog w h₀ R ρ hp s.heap) (M : FmRel h₀ R fm env ρ hp.n s.heap)
    (k : ∀ ρ' h' t' cv, Rep prog w h₀ R ρ' hp' h' → Grow [] ρ hp.n s.heap ρ' hp'.n h' → PartRel R ρ' hp'.n h' l cv → Q cv ⟨h', s.gens, s.drawn, t', s.os⟩) : wpAny (model prog w) A (evalPart xo env) Q Er s := by
  induction o using Option.casesOn with
  | none =>
    cases he
    exact oNo_e (P := fun xo => wpAny (model prog w) A (evalPart xo env) Q Er s) hx (wpAny_pure (k _ _ _ _ P (.refl ..) rfl))
  | some e =>
    refine oO_e (P := fun xo => wpAny (model prog w) A (evalPart xo env) Q Er s) hx fun y hx => ?_
    dsimp only [optE] at he
    set_option smartUnfolding false in refine obp he fun u h1 hu he => ?_
    cases he
    exact I.ev hu hx rm rv P M fun ρ₁ h' t' ca P₁ G₁ r₁ => k _ _ _ _ P₁ G₁ r₁
theorem bound_clip {m dflt a : Nat} {l : Option V} {cv : Value} (e : bound m dflt l = some a) (r : PartRel R ρ n h l cv) : ∃ i : Option (Int × Tok), cv = partValue i ∧ a = clipN m dflt (i.map (·.1)) := by
  induction l using Option.casesOn with
  | none => cases e; cases r; exact ⟨none, rfl, rfl⟩
  | some u =>
    set_option smartUnfolding false in refine vInt (P := fun cv => ∃ i : Option (Int × Tok), cv = partValue i ∧ a = clipN m dflt (i.map (·.1))) e r fun i t e => ?_
    cases e
    exact ⟨some (i, t), rfl, rfl⟩
theorem range_clip (lo hi : Option Int) (m : Nat) : sliceRange (match lo with | none => (0 : Int) | some i => max 0 (min (if i < 0 then i + m else i) (m : Int))) (match hi with | none => (m : Int) | some i => max 0 (min (if i < 0 then i + m else i) (m : Int))) 1 =
    (List.range (clipN m m hi - clipN m 0 lo)).map (fun k => clipN m 0 lo + k) := by
  have e1 : (match lo with | none => (0 : Int) | some i => max 0 (min (if i < 0 then i + m else i) (m : Int))) = ((clipN m 0 lo : Nat) : Int) := by
    induction lo using Option.casesOn with
    | none => rfl
    | some i => simp only [clipN]; lia
  have e2 : (match hi with | none => (m : Int) | some i => max 0 (min (if i < 0 then i + m else i) (m : Int))) = ((clipN m m hi : Nat) : Int) := by
    induction hi using Option.casesOn with
    | none => rfl
    | some i => simp only [clipN]; lia
  rw [e1, e2]
  exact sliceRange_one _ _
theorem clip_le (m dflt : Nat) (hd : dflt ≤ m) (i : Option Int) : clipN m dflt i ≤ m := by
  induction i using Option.casesOn with
  | none => exact hd
  | some i => simp only [clipN]; lia
theorem strIdx_clip (lo hi : Option Int) (m : Nat) : Builtin.Str.strSliceIndices lo hi 1 m = (List.range (clipN m m hi - clipN m 0 lo)).map (fun k => clipN m 0 lo + k) := by
  rw [← range_clip]
  rfl
theorem slice_cut (t : S) (lo hi : Option Int) : Txt.slice (toStr t) lo hi = toStr (cut t (clipN t.length 0 lo) (clipN t.length t.length hi)) := by
  have h1 := clip_le t.length 0 (Nat.zero_le _) lo
  have h2 := clip_le t.length t.length (Nat.le_refl _) hi
  have hp := StrLaws.picks t (clipN t.length t.length hi - clipN t.length 0 lo) (clipN t.length 0 lo) (by lia)
  unfold Txt.slice
  rw [strIdx_clip, toStr_len]
  split
  · rename_i hc
    have hc : clipN t.length t.length hi - clipN t.length 0 lo = t.length := by simpa using hc
    unfold cut
    have h0 : clipN t.length 0 lo = 0 ∨ t.length = 0 := by lia
    rw [hc]
    rcases h0 with z | z
    · rw [z]; simp
    · have : t = [] := List.eq_nil_of_length_eq_zero z
      subst this; simp
  · unfold cut
    apply Str.ext'
    show (List.filterMap (fun x => (toStr t).cps[x]?) _).toArray = (toStr _).cps
    have : (fun x : Nat => (toStr t).cps[x]?) = (fun x : Nat => t[x]?) := by funext q; simp [toStr]
    rw [this, hp]
    rfl
theorem slicePick_clip (items : Array Value) (lo hi : Option Int) : slicePick items lo hi none = ((items.toList.drop (clipN items.size 0 lo)).take (clipN items.size items.size hi - clipN items.size 0 lo)).toArray := by
  have e : sliceBounds lo hi none items.size = ((match lo with | none => (0 : Int) | some i => max 0 (min (if i < 0 then i + items.size else i) (items.size : Int))), (match hi with | none => (items.size : Int) | some i => max 0 (min (if i < 0 then i + items.size else i) (items.size : Int))), 1) := rfl
  unfold slicePick
  rw [e, range_clip, pick_run]
theorem part_is (i : Option (Int × Tok)) : IsPart (partValue i) (i.map (·.1)) := by
  induction i using Option.casesOn with
  | none => exact .none
  | some q => exact .int _ _
theorem slice_str {t : S} {tk : Tok} {sl : Addr} {i1 i2 : Option (Int × Tok)} {value : Expr} {lo hi : Option Expr} {p : Pos} (hs : s.heap.IsSlice sl i1 i2 none) (hsh : short t.length = true)
    (k : ∀ t' k', Q (.str (toStr (cut t (clipN t.length 0 (i1.map (·.1))) (clipN t.length t.length (i2.map (·.1))))) t') { s with toks := k' }) : wpAny (model prog w) A (subscriptTail value (.Slice lo hi none p) (.str (toStr t) tk) (.ref sl)) Q Er s := by
  have hsz : (toStr t).length ≤ sizeLine := by rw [toStr_len]; exact Nat.le_of_lt (Nat.lt_of_lt_of_le (short_of hsh) lim_line)
  refine tail_any (T := "str") (typeIs_str _ _ _) PySem.F.slot_str_getitem.lookup ?_ rfl
  have q : ∀ c : Str, c = Txt.slice (toStr t) (i1.map (·.1)) (i2.map (·.1)) → c.length ≤ sizeLine ∧ ∀ t' k', Q (.str c t') { s with toks := k' } := fun c e => by
    subst e
    refine ⟨Nat.le_trans (Txt.slice_le _ _ _) hsz, fun t' k' => ?_⟩
    rw [slice_cut]
    exact k t' k'
  have e : sliceMade (toStr t) tk i1 i2 none = if ((1 : Int) == 1 && (Builtin.Str.strSliceIndices (i1.map (·.1)) (i2.map (·.1)) 1 (toStr t).length).length == (toStr t).length) = true then .val (.str (toStr t) tk) else .str ⟨((Builtin.Str.strSliceIndices (i1.map (·.1)) (i2.map (·.1)) 1 (toStr t).length).filterMap ((toStr t).cps[·]?)).toArray⟩ := rfl
  refine wpAny_getItem_str_slice (l := i1) (u := i2) (st := none) hs rfl ?_
  rw [e]
  refine post_val_or_str (q _ ?_)
  unfold Txt.slice
  rfl
theorem slice_list {a sl : Addr} {cvs : List Value} {i1 i2 : Option (Int × Tok)} {value : Expr} {lo hi : Option Expr} {p : Pos} (L : s.heap.IsList a (List.toArray cvs)) (hs : s.heap.IsSliceOf sl (partValue i1) (partValue i2) .none) (hsh : short cvs.length = true)
    (k : Q (.ref s.heap.objs.size) { s with heap := s.heap.push { cls := .type "list", data := .seq ((cvs.drop (clipN cvs.length 0 (i1.map (·.1)))).take (clipN cvs.length cvs.length (i2.map (·.1)) - clipN cvs.length 0 (i1.map (·.1)))).toArray } }) :
    wpAny (model prog w) A (subscriptTail value (.Slice lo hi none p) (.ref a) (.ref sl)) Q Er s := by
  refine tail_any (T := "list") L.typeIs slot_list_getitem.lookup (wpAny_getItem_list_slice L hs (part_is i1) (part_is i2) .none (by simp) ?_ ?_) rfl
  · rw [slicePick_clip]
    simpa only [List.size_toArray] using k
  · have := Nat.lt_of_lt_of_le (short_of hsh) lim_line
    rw [List.size_toArray]; lia
theorem PartRel.mono {ρ' : Nat → Addr} {n' : Nat} {h' : Heap} (G : Grow [] ρ n h ρ' n' h') {l : Option V} {cv : Value} (r : PartRel R ρ n h l cv) : PartRel R ρ' n' h' l cv := match l, r with
  | none, r => r
  | some _, r => VRel.mono G (fun _ x => nomatch x) r
theorem ev_slc (W : Wd prog w K h₀ mg mb B) (I : Snd prog w K h₀ F) {o : E} {lo hi : Option E} (he : evStep B F d fm hp (.slc o lo hi) = some (v, hp')) (hx : isE env.kindOf (.slc o lo hi) x = true) (rm : Room A d) (rv : Resv h₀ R s.heap) (P : Rep prog w h₀ R ρ hp s.heap) (M : FmRel h₀ R fm env ρ hp.n s.heap) (k : KV prog w h₀ R ρ hp s v hp' Q) : wpAny (model prog w) A (eval x env) Q Er s := by
  set_option smartUnfolding false in refine obp he fun a h1 hu he => ?_
  set_option smartUnfolding false in refine obp he fun l h2 hu2 he => ?_
  set_option smartUnfolding false in refine obp he fun u h3 hu3 he => ?_
  refine iSlc (P := WE prog w A env Q Er s) hx fun vx lx ux p p' hv hl hux => Subscript_ (I.ev hu hv rm rv P M fun ρ₁ g₁ t₁ ca P₁ G₁ r₁ => ?_)
  refine wpAny_Slice (optE_any I hu2 hl rm (rv.mono P P₁ G₁) P₁ (M.mono G₁) fun ρ₂ g₂ t₂ cl P₂ G₂ r₂ => ?_)
  have G12 := P₁.then G₁ G₂
  refine optE_any I hu3 hux rm (rv.mono P P₂ G12) P₂ (M.mono G12) fun ρ₃ g₃ t₃ cu P₃ G₃ r₃ => ?_
  have r₁ := r₁.mono (P₂.then G₂ G₃) (fun _ x => nomatch x)
  have r₂ := r₂.mono G₃
  refine wpAny_pure ?_
  obtain ⟨P₄, G₄⟩ := P₃.keeps [] (h' := g₃.push { cls := .type "slice", data := .fields #[cl, cu, .none] }) (fun b o e => Heap.get?_push_of_some _ e)
  have G14 := P₃.then (P₂.then G12 G₃) G₄
  induction a using V.casesOn with
  | str t =>
    set_option smartUnfolding false in refine obt he fun hsh he => ?_
    set_option smartUnfolding false in refine ob he fun ba hba he => ?_
    set_option smartUnfolding false in refine ob he fun bb hbb he => ?_
    obtain ⟨i1, rfl, rfl⟩ := bound_clip hba r₂
    obtain ⟨i2, rfl, rfl⟩ := bound_clip hbb r₃
    exact r₁.inv (P := fun ca => TW prog w A Q Er ⟨_, s.gens, s.drawn, t₃, s.os⟩ vx (.Slice lx ux none p) ca (.ref g₃.objs.size)) fun tk => slice_str ⟨_, Heap.get?_push_size _ rfl, rfl, rfl⟩ hsh fun t' k' => kv he k _ _ _ _ P₄ G14 (.str _ _)
  | rol vs =>
    set_option smartUnfolding false in refine obt he fun hsh he => ?_
    set_option smartUnfolding false in refine ob he fun ba hba he => ?_
    set_option smartUnfolding false in refine ob he fun bb hbb he => ?_
    obtain ⟨i1, rfl, rfl⟩ := bound_clip hba r₂
    obtain ⟨i2, rfl, rfl⟩ := bound_clip hbb r₃
    refine (r₁.mono G₄ (fun _ x => nomatch x)).inv (P := fun ca => TW prog w A Q Er ⟨_, s.gens, s.drawn, t₃, s.os⟩ vx (.Slice lx ux none p) ca (.ref g₃.objs.size)) fun cvs a o kk ho hc hd off r => ?_
    have hl := r.length
    obtain ⟨_, q⟩ := newList_any (s := ⟨_, s.gens, s.drawn, t₃, s.os⟩) he P₄ ((r.drop _).take _) fun ρ₅ h5 t5 cv P₅ G₅ r₅ => k _ _ _ _ P₅ (P₄.then G14 G₅) r₅
    exact slice_list ⟨_, ho, hc, _, hd⟩ (Heap.IsSliceOf.new ..) (hl ▸ hsh) (hl.symm ▸ q)
  | _ => exact nos he
theorem not_fresh {G : Prop} (e : (h.get? h.objs.size).isSome = true) : G := by rw [fresh_none] at e; exact nob e
theorem off_new (P : Rep prog w h₀ R ρ hp h) (rv : Resv h₀ R h) : Off R ρ hp.n h.objs.size := ⟨fun i hi q => not_fresh (q ▸ P.alive hi), fun q => not_fresh (rv.live _ q)⟩
theorem repl_eq : ∀ (k : Nat) (c : Value), List.foldl (fun x1 x2 => x1 ++ x2) (#[] : Array Value) (List.replicate k #[c]) = (List.replicate k c).toArray
  | k, c => by
    have : ∀ (k : Nat) (a : List Value), List.foldl (fun x1 x2 => x1 ++ x2) a.toArray (List.replicate k #[c]) = (a ++ List.replicate k c).toArray := by
      intro k
      induction k with
      | zero => intro a; simp
      | succ k ih =>
        intro a
        rw [List.replicate_succ, List.foldl_cons]
        have e : a.toArray ++ #[c] = (a ++ [c]).toArray := by simp
        rw [e, ih, List.replicate_succ]
        simp
    simpa using this k []
theorem repl_rel {c : V} {cv : Value} (r : VRel R ρ n h c cv) : ∀ k : Nat, VRels R ρ n h (repl k [c]) (List.replicate k cv)
  | 0 => .nil
  | k + 1 => .cons r (repl_rel r k)
theorem mul_seq {l : Addr} {items : Array Value} {k : Nat} {x : Int} {u : Tok} {Q : Value → Shared → Prop}
    (hl : s.heap.get? l = some { cls := .type "list", dict := none, data := .seq items k, slots := #[] })
    (hlo : -(2 ^ 63 : Int) ≤ x) (hhi : x < 2 ^ 63) (hsz : items.size * x.toNat ≤ 2 ^ 24)
    (h : Q (.ref s.heap.objs.size) { s with heap := s.heap.push { cls := .type "list", data := .seq (List.foldl (fun x1 x2 => x1 ++ x2) #[] (List.replicate (if items.isEmpty = true then 0 else x.toNat) items)) } }) :
    wpAny (model prog w) A (binaryOp .Mult (.ref l) (.int x u)) Q Er s :=
  wpAny_binaryOp_repeat_ref (T := "list") (U := "int") (by decide) ⟨_, hl, rfl⟩ (fun s' => typeIs_int s' x u) noFill_list_mul PySem.F.fills_int_mul PySem.F.slot_int_rmul repeat_list PySem.F.slot_int_index.lookup
    (call_meets PySem.F.slot_int_rmul (typeIs_int s x u) PySem.F.entry_int_rmul (PySem.F.args_int_rmul_2 _ _) (int___rmul___int_list x u l items k)
      ⟨hl, rfl, ⟨_, hl, rfl⟩, call_meets PySem.F.slot_list_mul ⟨_, hl, rfl⟩ PySem.F.entry_list_mul (PySem.F.args_list_mul_2 _ _)
        (AutoListH.list___mul___list_int_3 l items k x u (by simp [Builtin.List.listFitsIndex]; lia) (by lia) (by simp [Builtin.List.listTooLong, sizeLine]; lia))
        ⟨hl, h⟩⟩)
theorem mul_one {l : Addr} {c : Value} {kk : Nat} {u : Tok} (hl : s.heap.get? l = some { cls := .type "list", data := .seq #[c] }) (hk : kk < 1000)
    (k : Q (.ref s.heap.objs.size) { s with heap := s.heap.push { cls := .type "list", data := .seq (List.replicate kk c).toArray } }) : wpAny (model prog w) A (binaryOp .Mult (.ref l) (.int (kk : Int) u)) Q Er s := by
  have e : List.foldl (fun x1 x2 => x1 ++ x2) (#[] : Array Value) (List.replicate (if (#[c] : Array Value).isEmpty = true then 0 else ((kk : Int)).toNat) #[c]) = (List.replicate kk c).toArray := by
    rw [← repl_eq kk c]
    simp
  refine mul_seq hl (by lia) (by lia) ?_ ?_
  · rw [show (#[c] : Array Value).size = 1 from rfl, Int.toNat_natCast, Nat.one_mul]
    exact Nat.le_trans (Nat.le_of_lt hk) (by decide)
  · rw [e]; exact k
theorem ev_mulL (I : Snd prog w K h₀ F) {a b : E} (he : evStep B F d fm hp (.mulL a b) = some (v, hp')) (hx : isE env.kindOf (.mulL a b) x = true) (rm : Room A d) (rv : Resv h₀ R s.heap) (P : Rep prog w h₀ R ρ hp s.heap) (M : FmRel h₀ R fm env ρ hp.n s.heap) (k : KV prog w h₀ R ρ hp s v hp' Q) : wpAny (model prog w) A (eval x env) Q Er s := by
  set_option smartUnfolding false in refine obp he fun y h1 hu he => ?_
  dsimp only at he
  generalize hu2 : F.ev d fm h1 b = o at he
  rcases o with _ | ⟨c, h2⟩
  · exact nos he
  induction c using V.casesOn with
  | int c =>
    induction c using Int.casesOn with
    | negSucc => exact nos he
    | ofNat kk =>
      set_option smartUnfolding false in refine obt he fun hk he => ?_
      refine iMulL (P := WE prog w A env Q Er s) hx fun ya z p1 p2 hst hx1 hx2 => ?_
      refine wpAny_BinOp (wpAny_List (wpAny_items_cons (I.ev hu hx1 rm rv P M fun ρ₁ g₁ t₁ ca P₁ G₁ r₁ => wpAny_items_nil ⟨(by decide : 1 ≤ sizeLine), ?_⟩) (starEach_cons hst)))
      obtain ⟨P₂, G₂⟩ := P₁.keeps [] (h' := g₁.push { cls := .type "list", data := .seq #[ca] }) (fun b o e => Heap.get?_push_of_some _ e)
      have G12 := P₁.then G₁ G₂
      refine I.ev (s := ⟨_, s.gens, s.drawn, t₁, s.os⟩) hu2 hx2 rm (rv.mono P P₂ G12) P₂ (M.mono G12) fun ρ₃ g₃ t₃ cb P₃ G₃ r₃ => ?_
      have ha := G₃.keep _ _ (Heap.get?_push_size g₁ (o := { cls := .type "list", data := .seq #[ca] }) rfl) (fun x => nomatch x) (off_new P₁ (rv.mono P P₁ G₁)).1
      have G13 := P₂.then G12 G₃
      have hq := newList_any (s := ⟨g₃, s.gens, s.drawn, t₃, s.os⟩) he P₃ (repl_rel (r₁.mono (P₂.then G₂ G₃) (fun _ x => nomatch x)) kk) fun ρ₅ h5 t5 cv P₅ G₅ r₅ => k _ _ _ _ P₅ (P₃.then G13 G₅) r₅
      exact r₃.inv (P := fun cb => wpAny (model prog w) A (binaryOp .Mult (.ref g₁.objs.size) cb) Q Er ⟨g₃, s.gens, s.drawn, t₃, s.os⟩) fun u => mul_one ha (Nat.blt_eq.mp hk) hq.2
  | _ => exact nos he
end
end
section
section
variable {prog : Program} {w : World} {K : Frag} {h₀ : Heap} {mg mb : Str → Option Value} {B : Tb} {F : Fns} {d : Nat} {fm : Fm} {hp hp' : Hp} {v : V} {A : Around} {env : Env} {R : List Addr} {ρ : Nat → Addr} {n : Nat} {h : Heap} {s : Shared} {x : Expr} {Q : Value → Shared → Prop} {Er : Value → Shared → Prop}
theorem short_fit {m : Nat} (e : short m = true) : m ≤ sizeLine := Nat.le_of_lt (Nat.lt_of_lt_of_le (short_of e) lim_line)
theorem short_63 {m : Nat} (e : short m = true) : (m : Int) < 2 ^ 63 := Int.ofNat_lt.mpr (Nat.lt_trans (short_of e) (by decide))
noncomputable abbrev CalW (prog : Program) (w : World) (A : Around) (Q : Value → Shared → Prop) (Er : Value → Shared → Prop) (s : Shared) (f : Value) (cs : List Value) : Prop := wpAny (model prog w) A (call f cs) Q Er s
section
variable {args : List V} {cargs : List Value} (P : Rep prog w h₀ R ρ hp s.heap) (r : VRels R ρ hp.n s.heap args cargs) (q : KV prog w h₀ R ρ hp s v hp' Q)
include P r q
theorem bLen_any (he : bLen hp args = some (v, hp')) : CalW prog w A Q Er s (.builtin "len") cargs := by
  set_option smartUnfolding false in refine ob he fun u hu he => ?_
  set_option smartUnfolding false in refine ob he fun m hm he => ?_
  set_option smartUnfolding false in refine obt he fun hs he => ?_
  refine va1 (P := CalW prog w A Q Er s (.builtin "len")) hu r fun cu x => ?_
  have fin : ∀ {z : Nat} {t : Tok}, z = m → Q (.int z t) { s with toks := t + 1 } := fun {z t} e => e ▸ kv he q _ _ _ _ P (.refl ..) (.int _ _)
  set_option smartUnfolding false in refine obe hm (fun vs hvs hm => ?_) fun _ hm => ?_
  · have e : ∀ {cvs : List Value}, VRels R ρ hp.n s.heap vs cvs → (List.toArray cvs).size = m := fun r => r.length.trans (Option.some.inj hm)
    exact items_at (D := fun cu => CalW prog w A Q Er s (.builtin "len") [cu]) P x hvs (fun a cvs L r => Calls.call_len_list L (e r ▸ short_63 hs) (fin (e r))) fun a cvs L r => PyProof.Rows.len_tuple L (e r ▸ short_63 hs) (fin (e r))
  · set_option smartUnfolding false in refine vStr (P := fun cu => CalW prog w A Q Er s (.builtin "len") [cu]) hm x fun t tk hm => ?_
    have e : (toStr t).length = m := (toStr_len t).trans (Option.some.inj hm)
    exact PySem.P.len_str (Int.not_le.mpr (e ▸ short_63 hs)) (fin e)
theorem bMin_any (rm : Room A d) (he : bMin hp args = some (v, hp')) : CalW prog w A Q Er s (.builtin "min") cargs := by
  set_option smartUnfolding false in refine obp he fun a b hu he => ?_
  refine va2 (P := CalW prog w A Q Er s (.builtin "min")) hu r fun ca cb x y => ?_
  set_option smartUnfolding false in refine vInt2 (P := fun ca cb => CalW prog w A Q Er s (.builtin "min") [ca, cb]) he x y fun a b t u he => ?_
  refine min_two_ints rm.handled fun h' tk hk => ?_
  obtain ⟨P', G⟩ := P.keeps [] hk
  have k := kv he q
  by_cases z : b < a
  · rw [if_pos z] at k ⊢; exact k _ _ _ _ P' G (.int _ _)
  · rw [if_neg z] at k ⊢; exact k _ _ _ _ P' G (.int _ _)
theorem bChr_any (he : bChr hp args = some (v, hp')) : CalW prog w A Q Er s (.builtin "chr") cargs := by
  set_option smartUnfolding false in refine ob he fun u hu he => ?_
  refine va1 (P := CalW prog w A Q Er s (.builtin "chr")) hu r fun cu x => ?_
  set_option smartUnfolding false in refine vInt (P := fun cu => CalW prog w A Q Er s (.builtin "chr") [cu]) he x fun i t he => ?_
  set_option smartUnfolding false in refine obN he fun c hc he => ?_
  set_option smartUnfolding false in refine obt he fun hc' he => ?_
  exact hc ▸ PyProof.Rows.chr_of_range (Int.natCast_nonneg c) (Int.ofNat_le.mpr (Nat.le_trans (Nat.le_of_lt (Nat.blt_eq.mp hc')) (by decide : 128 ≤ 1114111))) (kv he q _ _ _ _ P (.refl ..) (.str [c] _))
theorem bOrd_any (he : bOrd hp args = some (v, hp')) : CalW prog w A Q Er s (.builtin "ord") cargs := by
  set_option smartUnfolding false in refine ob he fun u hu he => ?_
  refine va1 (P := CalW prog w A Q Er s (.builtin "ord")) hu r fun cu x => ?_
  set_option smartUnfolding false in refine vStr (P := fun cu => CalW prog w A Q Er s (.builtin "ord") [cu]) he x fun l t he => ?_
  rcases l with _ | ⟨c, _ | _⟩
  · exact nos he
  · exact PySem.P.ord_of_char (kv he q _ _ _ _ P (.refl ..) (.int _ _))
  · exact nos he
theorem bIsi_any (he : bIsi hp args = some (v, hp')) : CalW prog w A Q Er s (.builtin "isinstance") cargs := by
  set_option smartUnfolding false in refine obp he fun a b hu he => ?_
  refine va2 (P := CalW prog w A Q Er s (.builtin "isinstance")) hu r fun ca cb x y => ?_
  refine y.inv (P := fun cb => CalW prog w A Q Er s (.builtin "isinstance") [ca, cb]) ?_
  induction b using V.casesOn with
  | typ j =>
    set_option smartUnfolding false in refine obt he fun hj he => ?_
    obtain rfl := Nat.eq_of_beq_eq_true hj
    refine x.inv (P := fun ca => CalW prog w A Q Er s (.builtin "isinstance") [ca, .type "int"]) ?_
    induction a using V.casesOn with
    | int i => exact fun t => IsiPair.int_int (kv he q _ _ _ _ P (.refl ..) (.bool _))
    | str i => exact fun t => IsiPair.str_int (kv he q _ _ _ _ P (.refl ..) (.bool _))
    | _ => exact nos he
  | _ => exact nos he
theorem callB_any {k : Nat} (rm : Room A d) (he : callB hp k args = some (v, hp')) : CalW prog w A Q Er s (.builtin (biName k)) cargs := by
  set_option smartUnfolding false in refine obq (G := fun k => CalW prog w A Q Er s (.builtin (biName k)) cargs) he (bLen_any P r q) fun he => ?_
  set_option smartUnfolding false in refine obq (G := fun k => CalW prog w A Q Er s (.builtin (biName k)) cargs) he (bMin_any P r q rm) fun he => ?_
  set_option smartUnfolding false in refine obq (G := fun k => CalW prog w A Q Er s (.builtin (biName k)) cargs) he (bChr_any P r q) fun he => ?_
  set_option smartUnfolding false in refine obq (G := fun k => CalW prog w A Q Er s (.builtin (biName k)) cargs) he (bOrd_any P r q) fun he => ?_
  set_option smartUnfolding false in exact obq (G := fun k => CalW prog w A Q Er s (.builtin (biName k)) cargs) he (bIsi_any P r q) nos
end
end
end
section
theorem gives_int_0120 (u : Tok) : Gives (Builtin.«int.__new__» ⟨[.type "int", .str (toStr [48, 49, 50, 48]) u], []⟩) (.int 120) :=
  PySem.W.KIN.gives_text (by decide) (by decide +kernel)
theorem newCall_int_2 (a b : Value) : checkBuiltinCall "int.__new__" ⟨[.type "int", a, b], []⟩ = pure () := by kernel_rfl
theorem typeCall_int_2 (a b : Value) : checkTypeCall "int" ⟨[a, b], []⟩ = pure () := by kernel_rfl
theorem args_object_init_3 (obj a b : Value) : argsOk "object.__init__" ⟨[obj, a, b], []⟩ := F.initArgs_range_2 obj a b
set_option maxHeartbeats 4000000 in
theorem gives_int_16 {c m : Nat} (e2 : (if ((toStr [c]).cps.all fun x => decide (x < 128)) = true then (toStr [c]).cps.toList else Unicode.numberText (toStr [c]).cps.toList) = [c]) (e : List.takeWhile (fun x : Nat => x != 0) [c] = [c]) (hr : (int_private% "readNumeral") 0 (Int.toNat 16) [c] = (int_private% "Numeral.value") m) (u t : Tok) :
    Gives (Builtin.«int.__new__» ⟨[.type "int", .str (toStr [c]) u, .int 16 t], []⟩) (.int m) :=
  .of_wp fun M A E s Q h => by
    obtain ⟨hp, g, d, tk, os⟩ := s
    have f1 := F.conv_sub_int
    have f2 := F.madeHere_int
    have f6 : typeOf (.str (toStr [c]) u) = pure (.type "str") := rfl
    repeat (any_goals (first
      | assumption
      | wp_step))
    all_goals first | exact ⟨_, rfl, h⟩ | skip
    rw [e2, e]
    repeat (any_goals (first
      | assumption
      | (with_reducible refine wpAny_ite_true (by decide) ?_)
      | wp_step))
    all_goals (try rw [hr])
    all_goals (try dsimp only)
    repeat (any_goals (first
      | assumption
      | (with_reducible refine wpAny_ite_true (by decide) ?_)
      | wp_step))
    all_goals first | exact ⟨_, rfl, h⟩ | skip
section
variable {prog : Program} {w : World} {K : Frag} {h₀ : Heap} {mg mb : Str → Option Value} {B : Tb} {F : Fns} {d : Nat} {fm : Fm} {hp hp' : Hp} {v : V} {A : Around} {env : Env} {R : List Addr} {ρ : Nat → Addr} {n : Nat} {h : Heap} {s : Shared} {x : Expr} {Q : Value → Shared → Prop} {Er : Value → Shared → Prop}
theorem call_int_2 {x y : Value} {S : PySem.Spec} (g : Meets (Builtin.«int.__new__» ⟨[.type "int", x, y], []⟩) S) (h : S A.in1 (wants (fun obj s₁ => s₁.TypeIs obj "int" ∧ Q obj s₁) Er) s) :
    wpAny (model prog w) A (call (.type "int") [x, y]) Q Er s :=
  callType_new F.called_int F.newNe_int (typeCall_int_2 x y) (newCall_int_2 x y) (fun obj => args_object_init_3 obj x y) F.entry_int_new g h
section
variable {args : List V} {cargs : List Value} (rv : Resv h₀ R s.heap) (P : Rep prog w h₀ R ρ hp s.heap) (r : VRels R ρ hp.n s.heap args cargs) (q : KV prog w h₀ R ρ hp s v hp' Q)
include P r q
theorem tInt_any (he : tInt hp args = some (v, hp')) : CalW prog w A Q Er s (.type "int") cargs := by
  set_option smartUnfolding false in refine obe he (fun u hu he => ?_) fun _ he => ?_
  · refine va1 (P := CalW prog w A Q Er s (.type "int")) hu r fun cu x => ?_
    refine x.inv (P := fun cu => CalW prog w A Q Er s (.type "int") [cu]) ?_
    induction u using V.casesOn with
    | int i => exact fun t => call_int_int (kv he q _ _ _ _ P (.refl ..) (.int _ _))
    | str l =>
      refine fun t => ?_
      set_option smartUnfolding false in refine obt he fun hl he => ?_
      obtain rfl := seqB_iff.mp hl
      exact call_int_1 (gives_int_0120 _).meets (show (Made.int 120).post _ s from ⟨rfl, kv he q _ _ _ _ P (.refl ..) (.int _ _)⟩)
    | _ => exact nos he
  · set_option smartUnfolding false in refine obp he fun a b hu he => ?_
    refine va2 (P := CalW prog w A Q Er s (.type "int")) hu r fun ca cb x y => ?_
    set_option smartUnfolding false in refine vStr (P := fun ca => CalW prog w A Q Er s (.type "int") [ca, cb]) he x fun l t he => ?_
    set_option smartUnfolding false in refine vInt (P := fun cb => CalW prog w A Q Er s (.type "int") [.str (toStr l) t, cb]) he y fun i u he => ?_
    set_option smartUnfolding false in refine obt he fun hi he => ?_
    obtain rfl := of_decide_eq_true hi
    set_option smartUnfolding false in refine obf he (fun hl he => ?_) fun _ he => ?_
    · obtain rfl := seqB_iff.mp hl
      exact call_int_2 (gives_int_16 (m := 2) (by decide +kernel) rfl rfl _ _).meets (show (Made.int 2).post _ s from ⟨rfl, kv he q _ _ _ _ P (.refl ..) (.int _ _)⟩)
    · set_option smartUnfolding false in refine obt he fun hl he => ?_
      obtain rfl := seqB_iff.mp hl
      exact call_int_2 (gives_int_16 (m := 11) (by decide +kernel) rfl rfl _ _).meets (show (Made.int 11).post _ s from ⟨rfl, kv he q _ _ _ _ P (.refl ..) (.int _ _)⟩)
theorem tList_any (he : tList hp args = some (v, hp')) : CalW prog w A Q Er s (.type "list") cargs := by
  set_option smartUnfolding false in refine ob he fun u hu he => ?_
  set_option smartUnfolding false in refine ob he fun vs hvs he => ?_
  refine va1 (P := CalW prog w A Q Er s (.type "list")) hu r fun cu x => ?_
  have go : ∀ {a cvs o m T}, (T = "list" ∨ T = "tuple") → s.heap.get? a = some o → o.cls = .type T → o.data = .seq (List.toArray cvs) m → VRels R ρ hp.n s.heap vs cvs → CalW prog w A Q Er s (.type "list") [.ref a] := fun hT ho hc hd r' => by
    refine call_list_seq (hsz := (newList_any (Q := fun _ _ => True) (s := s) he P r' (fun _ _ _ _ _ _ _ => trivial)).1) _ hT ho hc hd fun h' c' hk hD => ?_
    set_option smartUnfolding false in refine obt he fun hs he => ?_
    obtain ⟨⟨i, h1⟩, e1, e2⟩ := Option.map_eq_some_iff.mp he
    obtain ⟨ρ', P', G, hi, hl⟩ := P.alloc (h' := h') e1 (fresh_none _) hk hD fun ρ' G _ => ⟨_, c', rfl, r'.mono G (fun _ x => nomatch x)⟩
    exact hi ▸ kv (congrArg some e2) q ρ' _ s.toks _ P' G (.ref i hl)
  exact items_at (D := fun cu => CalW prog w A Q Er s (.type "list") [cu]) P x hvs (fun a cvs ⟨o, ho, hc, m, hd⟩ r => go (.inl rfl) ho hc hd r) fun a cvs ⟨o, ho, hc, m, hd⟩ r => go (.inr rfl) ho hc hd r
include rv
theorem tRange_any (he : tRange hp args = some (v, hp')) : CalW prog w A Q Er s (.type "range") cargs := by
  set_option smartUnfolding false in refine ob he fun u hu he => ?_
  refine va1 (P := CalW prog w A Q Er s (.type "range")) hu r fun cu x => ?_
  set_option smartUnfolding false in refine vInt (P := fun cu => CalW prog w A Q Er s (.type "range") [cu]) he x fun i t he => ?_
  set_option smartUnfolding false in refine obN he fun m hm he => ?_
  set_option smartUnfolding false in refine obt he fun hs he => ?_
  refine hm ▸ call_range_1 ?_
  obtain ⟨P', G⟩ := P.keeps [] (h' := s.heap.push { cls := .type "range", data := .fields #[.int 0 s.toks, .int (Int.ofNat m) _, .int 1 (s.toks + 1)] }) (fun b o e => Heap.get?_push_of_some _ e)
  exact kv he q _ _ _ _ P' G (.rng (IsRange.new ..) (off_new P rv))
theorem tTup_any (he : tTup hp args = some (v, hp')) : CalW prog w A Q Er s (.type "tuple") cargs := by
  set_option smartUnfolding false in refine ob he fun u hu he => ?_
  set_option smartUnfolding false in refine ob he fun vs hvs he => ?_
  set_option smartUnfolding false in refine obt he fun hs he => ?_
  refine va1 (P := CalW prog w A Q Er s (.type "tuple")) hu r fun cu x => ?_
  refine list_at (D := fun cu => CalW prog w A Q Er s (.type "tuple") [cu]) P x hvs fun a cvs L r' => ?_
  refine call_tuple_list L (fun h' hk => ?_) (Nat.le_trans (Nat.le_of_eq r'.length) (short_fit hs))
  obtain ⟨P₁, G₁⟩ := P.keeps [] hk
  have rv₁ := rv.mono P P₁ G₁
  obtain ⟨P₂, G₂⟩ := P₁.keeps [] (h' := h'.push { cls := .type "tuple", data := .seq cvs.toArray }) (fun b o e => Heap.get?_push_of_some _ e)
  exact kv he q _ _ s.toks _ P₂ (P₁.then G₁ G₂) (.tup (Heap.get?_push_size _ rfl) rfl rfl (off_new P₁ rv₁) (r'.mono (P₁.then G₁ G₂) (fun _ x => nomatch x)))
theorem callT_any {k : Nat} (he : callT hp k args = some (v, hp')) : CalW prog w A Q Er s (.type (typName k)) cargs := by
  set_option smartUnfolding false in refine obq (G := fun k => CalW prog w A Q Er s (.type (typName k)) cargs) he (tRange_any rv P r q) fun he => ?_
  set_option smartUnfolding false in refine obq (G := fun k => CalW prog w A Q Er s (.type (typName k)) cargs) he (tInt_any P r q) fun he => ?_
  set_option smartUnfolding false in refine obq (G := fun k => CalW prog w A Q Er s (.type (typName k)) cargs) he (tList_any P r q) fun he => ?_
  set_option smartUnfolding false in exact obq (G := fun k => CalW prog w A Q Er s (.type (typName k)) cargs) he (tTup_any rv P r q) nos
end
end
end
section
theorem ofStr (x : Str) : toStr x.cps.toList = x := rfl
theorem at_iff {s r : S} {c i : Nat} : StrLaws.At (toStr s) (toStr (c :: r)) (toStr s).length i ↔ preB (c :: r) (s.drop i) = true := by
  unfold StrLaws.At preB
  rw [StrLaws.subAt_eq, toStr_len, toStr_len, seqB_iff, beq_iff_eq]
  refine ⟨fun x => x.2, fun e => ⟨?_, e⟩⟩
  have h := congrArg List.length e
  rw [List.length_take, List.length_drop] at h
  have h := Nat.le_trans (Nat.le_of_eq h.symm) (Nat.min_le_right _ _)
  exact Nat.add_le_of_le_sub' (Nat.le_of_lt (Nat.lt_of_sub_pos (Nat.lt_of_lt_of_le (Nat.succ_pos _) h))) h
theorem fd_none {y : S} (l : S) : (∀ j, preB y (l.drop j) = false) → fdLen y l = none := by
  induction l with
  | nil => exact fun _ => rfl
  | cons c r ih =>
    intro h
    show (match preB y (c :: r) with | true => some 0 | false => match fdLen y r with | some k => some (k + 1) | none => none) = none
    rw [show preB y (c :: r) = false from h 0, ih fun j => h (j + 1)]
theorem fd_hit {c : Nat} {t : S} (l : S) : ∀ j, preB (c :: t) (l.drop j) = true → (∀ i, i < j → preB (c :: t) (l.drop i) = false) → fdLen (c :: t) l = some j := by
  induction l with
  | nil => intro j e; rw [List.drop_nil] at e; cases e
  | cons d r ih =>
    intro j e h
    show (match preB (c :: t) (d :: r) with | true => some 0 | false => match fdLen (c :: t) r with | some k => some (k + 1) | none => none) = some j
    cases j with
    | zero => rw [show preB (c :: t) (d :: r) = true from e]
    | succ j => rw [show preB (c :: t) (d :: r) = false from h 0 (Nat.succ_pos _), ih j e fun i hi => h (i + 1) (Nat.succ_lt_succ hi)]
theorem find_law (s : S) (c : Nat) (r : S) (k : Nat) : Txt.find3 (toStr s) (toStr (c :: r)) (Int.ofNat k) = fdAt k (fdLen (c :: r) (s.drop k)) := by
  have hat : ∀ j, preB (c :: r) ((s.drop k).drop j) = false ↔ ¬ StrLaws.At (toStr s) (toStr (c :: r)) (toStr s).length (k + j) := fun j => by
    rw [at_iff, List.drop_drop, Bool.not_eq_true]
  unfold Txt.find3
  have hk : fromIndex (toStr s).length (Int.ofNat k) = k := rfl
  rw [hk]
  rcases StrLaws.occ_head_from (toStr s) (toStr (c :: r)) k 1 (Nat.le_refl _) with ⟨h0, hn⟩ | ⟨i, l, h0, hlo, hk, hn⟩
  · rw [h0, fd_none _ fun j => (hat j).mpr (hn _ (Nat.le_add_right ..))]
    rfl
  · obtain ⟨j, rfl⟩ := Nat.exists_eq_add_of_le hlo
    rw [h0, fd_hit _ j (by rw [List.drop_drop]; exact at_iff.mp hk) fun i hi => (hat i).mpr (hn _ (Nat.le_add_right ..) (Nat.add_lt_add_left hi _))]
    rfl
theorem split_go (c : Nat) (r p : S) : ∀ a, c ∉ p → splitA c (p ++ r) a = splitA c r (p.reverse ++ a) := by
  induction p with
  | nil => exact fun _ _ => rfl
  | cons d p ih =>
    intro a h
    obtain ⟨h1, h2⟩ := List.ne_and_not_mem_of_not_mem_cons h
    rw [List.reverse_cons, List.append_assoc]
    refine .trans ?_ (ih (d :: a) h2)
    show (match Nat.beq d c with | true => _ | false => _) = _
    rw [beqD, decide_eq_false (Ne.symm h1)]
    rfl
theorem split_back (c : Nat) (l : List S) : ∀ p a, c ∉ p → (∀ q ∈ l, c ∉ q) → splitA c (joinL [c] (p :: l)) a = (a.reverse ++ p) :: l := by
  induction l with
  | nil =>
    intro p a h _
    have := split_go c [] p a h
    rw [List.append_nil] at this
    refine this.trans ?_
    show [(p.reverse ++ a).reverse] = _
    rw [List.reverse_append, List.reverse_reverse]
  | cons q l ih =>
    intro p a h hl
    show splitA c (p ++ [c] ++ joinL [c] (q :: l)) a = _
    rw [List.append_assoc, split_go c _ p a h]
    show (match Nat.beq c c with | true => (p.reverse ++ a).reverse :: splitA c (joinL [c] (q :: l)) [] | false => _) = _
    rw [Nat.beq_refl, List.reverse_append, List.reverse_reverse, ih q [] (hl _ (.head _)) fun u hu => hl _ (.tail _ hu)]
    rfl
theorem join_law (sep : S) (l : List S) : Str.join (toStr sep) (l.map toStr) = toStr (joinL sep l) := by
  induction l with
  | nil => rfl
  | cons p l ih =>
    cases l with
    | nil => rfl
    | cons q l =>
      show toStr p ++ toStr sep ++ Str.join (toStr sep) ((q :: l).map toStr) = toStr (p ++ sep ++ joinL sep (q :: l))
      rw [ih, toStr_append, toStr_append]
theorem split_law (s : S) (c : Nat) : Txt.split (toStr s) (toStr [c]) = (splitA c s []).map toStr := by
  have e1 := StrLaws.join_split (toStr s) (toStr [c])
  have hf := StrLaws.split_free (toStr s) c
  have hp := split_pos (toStr s) (toStr [c])
  rw [show (⟨#[c]⟩ : Str) = toStr [c] from rfl] at hf
  generalize Txt.split (toStr s) (toStr [c]) = L at e1 hf hp ⊢
  have hl : L = (L.map fun x => x.cps.toList).map toStr := by rw [List.map_map]; exact (List.map_id L).symm
  rw [hl, join_law] at e1
  rw [hl, ← toStr_inj e1]
  cases L with
  | nil => cases hp
  | cons x L =>
    exact congrArg (List.map toStr) (split_back c _ _ [] (hf x (.head _)) fun q hq => by
      obtain ⟨x, hx, rfl⟩ := List.mem_map.mp hq
      exact hf x (.tail _ hx)).symm
end
section
section
variable {prog : Program} {w : World} {K : Frag} {h₀ : Heap} {mg mb : Str → Option Value} {B : Tb} {F : Fns} {d : Nat} {fm : Fm} {hp hp' : Hp} {v : V} {A : Around} {env : Env} {R : List Addr} {ρ : Nat → Addr} {n : Nat} {h : Heap} {s : Shared} {x : Expr} {Q : Value → Shared → Prop} {Er : Value → Shared → Prop}
noncomputable def strName : Nat → String
  | 17 => "str.find"
  | 36 => "str.join"
  | 153 => "str.split"
  | _ => "str.strip"
theorem strsOf_eq {vs : List V} : ∀ {l : List S}, strsOf vs = some l → vs = l.map .str := by
  induction vs with
  | nil => exact fun e => Option.some.inj e ▸ rfl
  | cons v r ih =>
    intro l e
    induction v using V.casesOn with
    | str s =>
      dsimp only [strsOf] at e
      set_option smartUnfolding false in refine ob e fun l' hl e => ?_
      exact Option.some.inj e ▸ congrArg (V.str s :: ·) (ih hl)
    | _ => exact nos e
theorem strs_values (l : List S) : ∀ {cvs : List Value}, VRels R ρ n h (l.map .str) cvs → ∃ ts : List (Str × Tok), cvs = strValues ts ∧ ts.map (·.1) = l.map toStr := by
  induction l with
  | nil => exact fun r => r.inv (P := fun cvs => ∃ ts : List (Str × Tok), cvs = strValues ts ∧ ts.map (·.1) = []) ⟨[], rfl, rfl⟩
  | cons a l ih => exact fun r => r.inv (P := fun cvs => ∃ ts : List (Str × Tok), cvs = strValues ts ∧ ts.map (·.1) = toStr a :: l.map toStr) fun cv cvs x r => x.inv (P := fun cv => ∃ ts : List (Str × Tok), cv :: cvs = strValues ts ∧ ts.map (·.1) = toStr a :: l.map toStr) fun t => let ⟨ts, e1, e2⟩ := ih r; ⟨(_, t) :: ts, congrArg (Value.str (toStr a) t :: ·) e1, congrArg (toStr a :: ·) e2⟩
theorem values_rel (l : List S) : ∀ ts : List (Str × Tok), ts.map (·.1) = l.map toStr → VRels R ρ n h (l.map .str) (strValues ts) := by
  induction l with
  | nil => exact fun ts e => List.map_eq_nil_iff.mp e ▸ .nil
  | cons a l ih =>
    intro ts e
    obtain ⟨p, ts, rfl, e1, e2⟩ := List.map_eq_cons_iff.mp e
    refine .cons ?_ (ih ts e2)
    show VRel R ρ n h (.str a) (.str p.1 p.2)
    exact e1 ▸ .str a _
noncomputable abbrev SW (prog : Program) (w : World) (A : Around) (Q : Value → Shared → Prop) (Er : Value → Shared → Prop) (s : Shared) (a : S) (t : Tok) (cs : List Value) (m : String) : Prop := CalW prog w A Q Er s (.builtin m) (.str (toStr a) t :: cs)
theorem split_run {x : Str} {c : Nat} {t u : Tok} (hs : x.length ≤ sizeLine) (q : ∀ (ts : List (Str × Tok)) k, ts.map (·.1) = Txt.split x (toStr [c]) → ts.length ≤ sizeLine ∧ Q (.ref s.heap.objs.size) { s with heap := s.heap.push { cls := .type "list", data := .seq (strValues ts).toArray }, toks := k }) :
    CalW prog w A Q Er s (.builtin "str.split") [.str x t, .str (toStr [c]) u] := by
  cases h1 : (decide (x.length < (toStr [c]).length) || decide (Builtin.Str.strKind x < Builtin.Str.strKind (toStr [c])))
  · cases hf : (Builtin.Str.occurrences x (toStr [c]) 0 x.length (x.length + 1)).isEmpty
    · have e : Txt.split x (toStr [c]) = Builtin.Str.partsBetween x (Builtin.Str.occurrences x (toStr [c]) 0 x.length (x.length + 1)) (toStr [c]).length :=
        (if_neg (h1 ▸ Bool.false_ne_true)).trans (if_neg (hf ▸ Bool.false_ne_true))
      rw [e] at q
      have hn := numbered_texts s.toks (Builtin.Str.partsBetween x (Builtin.Str.occurrences x (toStr [c]) 0 x.length (x.length + 1)) (toStr [c]).length)
      obtain ⟨z1, z2⟩ := q _ (s.toks + (Builtin.Str.partsBetween x (Builtin.Str.occurrences x (toStr [c]) 0 x.length (x.length + 1)) (toStr [c]).length).length) hn
      refine call_meets F.slot_str_split (typeIs_str _ _ _) F.entry_str_split (F.args_str_split_2 _ _) (meets_str_split_sep _ _ t u h1 rfl hf hs ?_) ?_
      · exact Nat.le_trans (Nat.le_of_eq ((congrArg List.length hn).symm.trans (List.length_map _))) z1
      · rw [← strsFrom_eq] at z2
        exact z2
    · exact call_meets F.slot_str_split (typeIs_str _ _ _) F.entry_str_split (F.args_str_split_2 _ _) (meets_str_split_not_found _ _ t u h1 rfl hf) (q [(x, t)] s.toks ((if_neg (h1 ▸ Bool.false_ne_true)).trans (if_pos hf)).symm).2
  · exact call_meets F.slot_str_split (typeIs_str _ _ _) F.entry_str_split (F.args_str_split_2 _ _) (meets_str_split_cannot_occur _ _ t u h1) (q [(x, t)] s.toks (if_pos h1).symm).2
section
variable {a : S} {args : List V} {cargs : List Value} {t : Tok} (P : Rep prog w h₀ R ρ hp s.heap) (r : VRels R ρ hp.n s.heap args cargs) (q : KV prog w h₀ R ρ hp s v hp' Q)
include P r q
theorem sFind_any (he : sFind hp a args = some (v, hp')) : SW prog w A Q Er s a t cargs "str.find" := by
  set_option smartUnfolding false in refine obp he fun x y hu he => ?_
  refine va2 (P := fun cs => SW prog w A Q Er s a t cs "str.find") hu r fun cx cy rx ry => ?_
  set_option smartUnfolding false in refine vStr (P := fun cx => SW prog w A Q Er s a t [cx, cy] "str.find") he rx fun b u he => ?_
  rcases b with _ | ⟨c, b⟩
  · exact nos he
  set_option smartUnfolding false in refine vInt (P := fun cy => SW prog w A Q Er s a t [_, cy] "str.find") he ry fun i u he => ?_
  set_option smartUnfolding false in refine obN he fun k hk he => ?_
  set_option smartUnfolding false in refine obt he fun hs he => ?_
  exact SC.find3 (hk ▸ (find_law a c b k).symm ▸ kv he q _ _ _ _ P (.refl ..) (.int _ _))
theorem sJoin_any (he : sJoin hp a args = some (v, hp')) : SW prog w A Q Er s a t cargs "str.join" := by
  set_option smartUnfolding false in refine ob he fun x hx he => ?_
  set_option smartUnfolding false in refine ob he fun vs hv he => ?_
  set_option smartUnfolding false in refine ob he fun l hl he => ?_
  set_option smartUnfolding false in refine obt he fun hs he => ?_
  refine va1 (P := fun cs => SW prog w A Q Er s a t cs "str.join") hx r fun cu x => ?_
  refine list_at (D := fun cu => SW prog w A Q Er s a t [cu] "str.join") P x hv fun b cvs L r' => ?_
  obtain ⟨ts, rfl, e2⟩ := strs_values l (strsOf_eq hl ▸ r')
  refine SC.join L e2 (and2 hs fun h1 h2 => and2 h2 fun h2 h3 => joinOk_of_weight ?_ ?_) fun t' k => ?_
  · rw [List.map_map, List.length_map]
    exact Nat.le_trans (Nat.add_le_add (Nat.le_of_lt (Nat.lt_of_le_of_lt (Nat.le_of_eq (congrArg List.sum (List.map_congr_left fun y _ => toStr_len y))) (short_of h1))) (Nat.le_of_lt (short_of h2))) (by decide)
  · exact toStr_len a ▸ Nat.le_of_lt (Nat.blt_eq.mp h3)
  · rw [show Txt.join (toStr a) (l.map toStr) = toStr (joinL a l) from (StrLaws.glued_eq_join _ _).trans (join_law a l)]
    exact kv he q _ _ k _ P (.refl ..) (.str _ _)
theorem sSplit_any (he : sSplit hp a args = some (v, hp')) : SW prog w A Q Er s a t cargs "str.split" := by
  set_option smartUnfolding false in refine ob he fun x hx he => ?_
  refine va1 (P := fun cs => SW prog w A Q Er s a t cs "str.split") hx r fun cu x => ?_
  set_option smartUnfolding false in refine vStr (P := fun cx => SW prog w A Q Er s a t [cx] "str.split") he x fun b u he => ?_
  rcases b with _ | ⟨c, _ | _⟩
  · exact nos he
  · set_option smartUnfolding false in refine obt he fun hs he => ?_
    refine split_run (toStr_len a ▸ short_fit hs) fun ts k e => ?_
    obtain ⟨h1, h2⟩ := newList_any (s := ⟨s.heap, s.gens, s.drawn, k, s.os⟩) he P (values_rel _ ts (e.trans (split_law a c))) q
    exact ⟨List.length_map (f := fun p : Str × Tok => Value.str p.1 p.2) ▸ h1, h2⟩
  · exact nos he
theorem sStrip_any (he : sStrip hp a args = some (v, hp')) : SW prog w A Q Er s a t cargs "str.strip" := by
  induction args using List.casesOn with
  | nil =>
    set_option smartUnfolding false in refine obt he fun hs he => ?_
    exact r.inv (P := fun cs => SW prog w A Q Er s a t cs "str.strip") (SC.strip (fun t' k => kv he q _ _ _ _ P (.refl ..) (.str _ _)) (toStr_len a ▸ short_fit hs))
  | cons _ _ => exact nos he
theorem strM_any {m : Nat} (he : strM hp a m args = some (v, hp')) : SW prog w A Q Er s a t cargs (strName m) := by
  set_option smartUnfolding false in refine obq (G := fun m => SW prog w A Q Er s a t cargs (strName m)) he (sFind_any P r q) fun he => ?_
  set_option smartUnfolding false in refine obq (G := fun m => SW prog w A Q Er s a t cargs (strName m)) he (sJoin_any P r q) fun he => ?_
  set_option smartUnfolding false in refine obq (G := fun m => SW prog w A Q Er s a t cargs (strName m)) he (sSplit_any P r q) fun he => ?_
  set_option smartUnfolding false in exact obq (G := fun m => SW prog w A Q Er s a t cargs (strName m)) he (sStrip_any P r q) nos
end
end
end
section
section
variable {prog : Program} {w : World} {K : Frag} {h₀ : Heap} {mg mb : Str → Option Value} {B : Tb} {F : Fns} {d : Nat} {fm : Fm} {hp hp' : Hp} {v : V} {A : Around} {env : Env} {R : List Addr} {ρ : Nat → Addr} {n : Nat} {h : Heap} {s : Shared} {x : Expr} {Q : Value → Shared → Prop} {Er : Value → Shared → Prop}
noncomputable def listName : Nat → String
  | 38 => "list.append"
  | 60 => "list.extend"
  | _ => "list.index"
noncomputable def eqTo (t : S) : Value → Bool
  | .str a _ => a == toStr t
  | _ => false
theorem eqTo_at {t : S} {l : List S} {ts : List (Str × Tok)} (e : ts.map (·.1) = l.map toStr) {j : Nat} (h1 : j < (strValues ts).length) (h2 : j < l.length) : eqTo t (strValues ts)[j] = seqB l[j] t := by
  have h3 : j < ts.length := List.length_map (f := fun p : Str × Tok => Value.str p.1 p.2) ▸ h1
  have hj : (ts.map (·.1))[j]'(Nat.lt_of_lt_of_eq h3 (List.length_map _).symm) = (l.map toStr)[j]'(Nat.lt_of_lt_of_eq h2 (List.length_map _).symm) := List.getElem_of_eq e _
  rw [List.getElem_map, List.getElem_map] at hj
  refine .trans (congrArg (eqTo t) (List.getElem_map fun p : Str × Tok => Value.str p.1 p.2)) ?_
  show (ts[j].1 == toStr t) = _
  rw [hj, toStr_eq]
section
variable {i : Nat} {vs : List V} {m : Nat} {args : List V} {cargs : List Value}
noncomputable abbrev LW (prog : Program) (w : World) (A : Around) (Q : Value → Shared → Prop) (Er : Value → Shared → Prop) (s : Shared) (a : Addr) (m : String) (cs : List Value) : Prop := CalW prog w A Q Er s (.builtin m) (.ref a :: cs)
theorem rolM_any {a : Addr} {cvs : List Value} {k : Nat} (ho : s.heap.get? a = some (PySem.W.listOf (List.toArray cvs) k)) (rr : VRels R ρ hp.n s.heap vs cvs) (he : rolM hp vs args = some (v, hp')) (P : Rep prog w h₀ R ρ hp s.heap) (r : VRels R ρ hp.n s.heap args cargs) (q : KV prog w h₀ R ρ hp s v hp' Q) : LW prog w A Q Er s a "list.index" cargs := by
  set_option smartUnfolding false in refine ob he fun u hu he => ?_
  refine va1 (P := LW prog w A Q Er s a "list.index") hu r fun cu x => ?_
  set_option smartUnfolding false in refine vStr (P := fun cu => LW prog w A Q Er s a "list.index" [cu]) he x fun t u he => ?_
  set_option smartUnfolding false in refine obt he fun hs he => ?_
  set_option smartUnfolding false in refine ob he fun l hl he => ?_
  set_option smartUnfolding false in refine ob he fun j hj he2 => ?_
  obtain rfl := strsOf_eq hl
  obtain ⟨ts, rfl, e⟩ := strs_values l rr
  obtain ⟨h1, h2, h3⟩ := List.findIdx?_eq_some_iff_getElem.mp hj
  have hn : (strValues ts).length = l.length := rr.length.trans (List.length_map _)
  refine call_meets F.slot_list_index ⟨_, ho, rfl⟩ F.entry_list_index (F.args_list_index_2 _ _) (PySem.SeqAt.list_indexAt a (strValues ts).toArray k none #[] (.str (toStr t) u) (eqTo t) j (Nat.lt_of_lt_of_eq h1 hn.symm) ?_ ?_ ?_) ⟨ho, ?_, ?_⟩
  · exact Int.ofNat_lt.mpr (Nat.lt_of_lt_of_le h1 (Nat.le_trans (List.length_map V.str ▸ short_fit hs) (by decide : sizeLine ≤ 2 ^ 63 - 1)))
  · exact (eqTo_at e _ h1).trans h2
  · exact fun m hm h => (eqTo_at e hm (Nat.lt_trans h h1)).trans (Bool.not_eq_true _ ▸ h3 m h)
  · intro y hy
    obtain ⟨p, _, rfl⟩ := List.mem_map.mp (List.mem_toArray.mp hy)
    exact PySem.SeqAt.EqAt.str_str _ _ _ _
  · exact kv he2 q _ _ _ _ P (.refl ..) (.int _ _)
variable (hi : i < hp.n) (hg : hp.get i = some (.list vs)) (P : Rep prog w h₀ R ρ hp s.heap) (r : VRels R ρ hp.n s.heap args cargs) (q : KV prog w h₀ R ρ hp s v hp' Q)
include hi hg P r q
theorem lApp_any (he : lApp hp i vs args = some (v, hp')) : LW prog w A Q Er s (ρ i) "list.append" cargs := by
  set_option smartUnfolding false in refine ob he fun u hu he => ?_
  set_option smartUnfolding false in refine obt he fun hs he => ?_
  refine va1 (P := LW prog w A Q Er s (ρ i) "list.append") hu r fun cu x => ?_
  refine P.atL hi hg fun cvs k ho rr => ?_
  refine call_meets F.slot_list_append ⟨_, ho, rfl⟩ F.entry_list_append (F.args_list_append_2 _ _) (PySem.list_append (ρ i) cvs.toArray k cu (hsz := Nat.le_trans (Nat.le_of_eq rr.length) (short_fit hs))) ⟨ho, ?_⟩
  obtain ⟨P', G⟩ := P.update (o' := .list (vs ++ [u])) hi (Heap.SameBut.update ..) (Heap.get?_update_self (Obj.mapSeq fun z => z.push cu) ho rfl) fun G =>
    ⟨cvs ++ [cu], _, congrArg (PySem.W.listOf · _) (List.push_toArray _ _), VRels.append (rr.mono G (fun _ x => nomatch x)) (.cons (x.mono G (fun _ x => nomatch x)) .nil)⟩
  exact kv he q _ _ _ _ P' G .none
theorem lExt_any (he : lExt hp i vs args = some (v, hp')) : LW prog w A Q Er s (ρ i) "list.extend" cargs := by
  set_option smartUnfolding false in refine ob he fun u hu he => ?_
  refine va1 (P := LW prog w A Q Er s (ρ i) "list.extend") hu r fun cu x => ?_
  refine x.inv (P := fun cu => LW prog w A Q Er s (ρ i) "list.extend" [cu]) ?_
  induction u using V.casesOn with
  | ref j =>
    intro hj
    set_option smartUnfolding false in refine obL he fun us hg2 he => ?_
    set_option smartUnfolding false in refine obt he fun hs he => ?_
    refine P.atL hi hg fun cvs k ho rr => ?_
    refine P.atL hj hg2 fun cus k2 ho2 rr2 => ?_
    have hf : cvs.length + cus.length ≤ sizeLine := Nat.le_trans (Nat.add_le_add (Nat.le_of_eq rr.length) (Nat.le_of_eq rr2.length)) (short_fit hs)
    refine call_meets F.slot_list_extend ⟨_, ho, rfl⟩ F.entry_list_extend (F.args_list_extend_2 _ _) (PySem.AutoSeq1.list_extend_list_list_0 (ρ i) cvs.toArray k (ρ j) cus.toArray k2 (fun z => and2 z fun _ z => Nat.not_lt.mpr hf (of_decide_eq_true z)) (Nat.le_trans (Nat.le_add_right _ _) hf) (Nat.le_succ_of_le hf)) ⟨ho, ho2, ?_⟩
    obtain ⟨P', G⟩ := P.update (o' := .list (vs ++ us)) hi (Heap.SameBut.update ..) (Heap.get?_update_self (Obj.mapSeq fun z => z ++ cus.toArray) ho rfl) fun G =>
      ⟨cvs ++ cus, _, congrArg (PySem.W.listOf · _) (List.append_toArray _ _), VRels.append (rr.mono G (fun _ x => nomatch x)) (rr2.mono G (fun _ x => nomatch x))⟩
    exact kv he q _ _ _ _ P' G .none
  | _ => exact nos he
theorem listM_any (he : listM hp i vs m args = some (v, hp')) : LW prog w A Q Er s (ρ i) (listName m) cargs := by
  set_option smartUnfolding false in refine obq (G := fun m => LW prog w A Q Er s (ρ i) (listName m) cargs) he (lApp_any hi hg P r q) fun he => ?_
  set_option smartUnfolding false in refine obq (G := fun m => LW prog w A Q Er s (ρ i) (listName m) cargs) he (lExt_any hi hg P r q) fun he => ?_
  refine P.atL hi hg fun cvs k ho rr => ?_
  set_option smartUnfolding false in exact obq (G := fun m => LW prog w A Q Er s (ρ i) (listName m) cargs) he (fun he => rolM_any ho rr he P r q) nos
end
end
end
section
section
variable {prog : Program} {w : World} {K : Frag} {h₀ : Heap} {mg mb : Str → Option Value} {B : Tb} {F : Fns} {d : Nat} {fm : Fm} {hp hp' : Hp} {v : V} {A : Around} {env : Env} {R : List Addr} {ρ : Nat → Addr} {n : Nat} {h : Heap} {s : Shared} {x : Expr} {Q : Value → Shared → Prop} {Er : Value → Shared → Prop}
theorem evalArgs_any {M : Model} {f : Value} {trees : List (Bool × Sem Value)} {Q : Args → Shared → Prop} (hns : trees.any (·.1) = false) (h : wpAny M A (spliced trees) (fun vs s' => Q ⟨vs, []⟩ s') Er s) : wpAny M A (evalArgs f true trees []) Q Er s :=
  match trees, hns, h with
  | [], _, h => wpAny_bind (wpAny_mono h (fun _ _ h => wpAny_bind (wpAny_pure (wpAny_holding (wpAny_bind (wpAny_pure (wpAny_bind (wpAny_pure (wpAny_pure h)))))))) fun _ _ x => x)
  | (false, _) :: _, _, h => Calls.evalArgs_plain h
  | (true, _) :: _, e, _ => nomatch e
theorem plain_trees {kd : Kd} {pos : Pos} {es : List E} : ∀ {xs : List Expr}, isEs kd es xs = true → (backTo pos (starEach xs env)).any (·.1) = false ∧ (backTo pos (starEach xs env)).all (fun x => !x.1) = true := by
  induction es with
  | nil => exact fun hx => iEs0 (Q := fun xs => (backTo pos (starEach xs env)).any (·.1) = false ∧ (backTo pos (starEach xs env)).all (fun x => !x.1) = true) hx ⟨rfl, rfl⟩
  | cons e es ih => exact fun hx => iEs (Q := fun xs => (backTo pos (starEach xs env)).any (·.1) = false ∧ (backTo pos (starEach xs env)).all (fun x => !x.1) = true) hx fun y t hy _ ht => by rw [starEach_cons hy]; exact ih ht
theorem known_keep (W : Wd prog w K h₀ mg mb B) {a : Nat} (e : known B a = true) : keepIn K (.ref a) = true := by
  unfold known at e
  cases hf : B.fn a with
  | some fn => exact (W.fn _ _ hf).elim fun _ D => D.keep
  | none =>
    rw [hf] at e
    cases hm : B.cls a with
    | some ms => exact (W.cls _ _ hm).keep
    | none => rw [hm] at e; cases e
noncomputable abbrev Kept (M : Model) (h : Heap) (f : Value) : Prop := ∃ k, (k = Keeper.frame ∨ k = Keeper.machine ∨ k = Keeper.boundFrame) ∧ Looks M h (keeperOf f) k
theorem args_any (I : Snd prog w K h₀ F) (X : K.In h₀) {f : Value} {first : List Value} {args : List E} {as : List Expr} {pos : Pos} {vs : List V} (hf : ∀ h, K.In h → Kept (model prog w) h f) (hv : evs F d fm args hp = some (vs, hp')) (hx : isEs env.kindOf args as = true) (rm : Room A d) (rv : Resv h₀ R s.heap) (P : Rep prog w h₀ R ρ hp s.heap) (M : FmRel h₀ R fm env ρ hp.n s.heap)
    (k : KVs prog w h₀ R ρ hp s vs hp' fun cvs s' => wpAny (model prog w) A (call f (first ++ cvs)) Q Er s') : wpAny (model prog w) A (callWith pos f first (backTo pos (starEach as env)) []) Q Er s :=
  have t := (plain_trees (pos := pos) (env := env) hx).1
  callWith_of ((Bool.or_false _).trans t) hf (evalArgs_any t (evs_any I (Q := fun _ _ => True) rm hv hx rv P M fun _ _ _ _ P' G r => ⟨X.keeps P'.keep, k _ _ _ _ P' G r⟩))
theorem machine {M : Model} {h : Heap} {f : Value} (e : keeperOf f = pure .machine) : Kept M h f := ⟨_, .inr (.inl rfl), .of_pure e⟩
theorem ev_call (W : Wd prog w K h₀ mg mb B) (I : Snd prog w K h₀ F) {y : Nat} {args : List E} (he : evStep B F d fm hp (.call y args) = some (v, hp')) (hx : isE env.kindOf (.call y args) x = true) (rm : Room A d) (rv : Resv h₀ R s.heap) (P : Rep prog w h₀ R ρ hp s.heap) (M : FmRel h₀ R fm env ρ hp.n s.heap) (k : KV prog w h₀ R ρ hp s v hp' Q) : wpAny (model prog w) A (eval x env) Q Er s := by
  set_option smartUnfolding false in refine ob he fun f hf he => ?_
  set_option smartUnfolding false in refine obp he fun vs h1 hvs he => ?_
  refine iCall (P := WE prog w A env Q Er s) hx fun p as pos hy hk hlen has => Call_Name rfl (glob_any W hf hk rv P M fun cf rf => ?_)
  refine rf.inv (P := fun cf => wpAny (model prog w) A (callWith pos cf [] (backTo pos (starEach as env)) []) Q Er s) ?_
  induction f using V.casesOn with
  | glb a =>
    set_option smartUnfolding false in refine obt he fun hkn he => ?_
    exact args_any I W.X (keeps_K (known_keep W hkn)) hvs has rm rv P M fun ρ₁ g₁ t₁ cvs P₁ G₁ r₁ => wpAny_call (I.cl he rm (rv.mono P P₁ G₁) P₁ r₁ fun ρ₂ g₂ t₂ cv P₂ G₂ r₂ => k _ _ _ _ P₂ (P₁.then G₁ G₂) r₂)
  | bi j => exact args_any I W.X (fun _ _ => machine rfl) hvs has rm rv P M fun ρ₁ g₁ t₁ cvs P₁ G₁ r₁ => callB_any (s := ⟨g₁, s.gens, s.drawn, t₁, s.os⟩) P₁ r₁ (fun ρ₂ g₂ t₂ cv P₂ G₂ r₂ => k _ _ _ _ P₂ (P₁.then G₁ G₂) r₂) rm he
  | typ j => exact args_any I W.X (fun _ _ => machine rfl) hvs has rm rv P M fun ρ₁ g₁ t₁ cvs P₁ G₁ r₁ => callT_any (s := ⟨g₁, s.gens, s.drawn, t₁, s.os⟩) (rv.mono P P₁ G₁) P₁ r₁ (fun ρ₂ g₂ t₂ cv P₂ G₂ r₂ => k _ _ _ _ P₂ (P₁.then G₁ G₂) r₂) he
  | _ => exact nos he
section
variable {m : Nat} {pl : Sem Bool} {Q : Value × List Value → Shared → Prop}
noncomputable abbrev GM (prog : Program) (w : World) (A : Around) (Q : Value × List Value → Shared → Prop) (Er : Value → Shared → Prop) (s : Shared) (pl : Sem Bool) (cu : Value) (f : Value) (m : Nat) : Prop := Q (f, [cu]) s → wpAny (model prog w) A (getMethod cu (nm m) pl) Q Er s
theorem getM_str {a : S} {t : Tok} {vs : List V} {r : V × Hp} (he : strM hp a m vs = some r) : GM prog w A Q Er s pl (.str (toStr a) t) (.builtin (strName m)) m := by
  set_option smartUnfolding false in refine obq (G := fun m => GM prog w A Q Er s pl (.str (toStr a) t) (.builtin (strName m)) m) he (fun _ => PySem.GM.find) fun he => ?_
  set_option smartUnfolding false in refine obq (G := fun m => GM prog w A Q Er s pl (.str (toStr a) t) (.builtin (strName m)) m) he (fun _ => PySem.GM.join) fun he => ?_
  set_option smartUnfolding false in refine obq (G := fun m => GM prog w A Q Er s pl (.str (toStr a) t) (.builtin (strName m)) m) he (fun _ => PySem.GM.split) fun he => ?_
  set_option smartUnfolding false in exact obq (G := fun m => GM prog w A Q Er s pl (.str (toStr a) t) (.builtin (strName m)) m) he (fun _ => PySem.GM.strip) nos
theorem getM_list {i : Nat} {a : Addr} {c : Array Value} {k : Nat} {us vs : List V} {r : V × Hp} (he : listM hp i us m vs = some r) (ho : s.heap.get? a = some (PySem.W.listOf c k)) : GM prog w A Q Er s pl (.ref a) (.builtin (listName m)) m := by
  have hT : s.TypeIs (.ref a) "list" := ⟨_, ho, rfl⟩
  have hd : ∀ b, Value.ref a = .ref b → ∃ o, s.heap.get? b = some o ∧ o.dict = none := fun b e => Value.ref.inj e ▸ ⟨_, ho, rfl⟩
  set_option smartUnfolding false in refine obq (G := fun m => GM prog w A Q Er s pl (.ref a) (.builtin (listName m)) m) he (fun _ => getMethod_builtin (name := nm 38) hT F.plainAttrs_list F.slot_list_append F.type_list_append hd) fun he => ?_
  set_option smartUnfolding false in refine obq (G := fun m => GM prog w A Q Er s pl (.ref a) (.builtin (listName m)) m) he (fun _ => getMethod_builtin (name := nm 60) hT F.plainAttrs_list F.slot_list_extend F.type_list_extend hd) fun he => ?_
  set_option smartUnfolding false in exact obq (G := fun m => GM prog w A Q Er s pl (.ref a) (.builtin (listName m)) m) he (fun _ => getMethod_builtin (name := nm 160) hT F.plainAttrs_list F.slot_list_index F.type_list_index hd) nos
theorem getM_own (W : Wd prog w K h₀ mg mb B) {c : Nat} {a : Addr} {mt : Option Nat} {ox : Obj} {es : List DictEntry} {k : Nat} {fs : List (Nat × V)} (he : ownM B c fs m = some mt) (X : K.In s.heap)
    (I : InstAt s.heap a ox c (some (dictOf es k))) (r : DRel R ρ n h fs es) {G : Option Nat → Prop} (q : ∀ f, keepIn K (.ref f) = true → GM prog w A Q Er s pl (.ref a) (.ref f) m → G (some f)) : G mt := by
  set_option smartUnfolding false in refine ob he fun ms hc he => ?_
  set_option smartUnfolding false in refine ob he fun f hm he => ?_
  set_option smartUnfolding false in refine obe he (fun _ _ he => nos he) fun hl he => ?_
  obtain ⟨hn, h1, h2, h3⟩ := (W.cls _ _ hc).meth _ _ hm
  have hg := plainGet_of (W.cls _ _ hc).get
  refine Option.some.inj he ▸ q f h3 (method_fn X I hg.1 hg.2 h1 (beq_iff_eq.mp h2) ?_)
  show (lookIn (nm m) (dictOf es k)).map _ = _
  rw [lookIn_dict, r.miss hn hl]
  rfl
end
noncomputable abbrev mval (u : V) (m : Nat) : Option Nat → Value
  | some f => .ref f
  | none => match u with
    | .str _ => .builtin (strName m)
    | _ => .builtin (listName m)
noncomputable abbrev GK (prog : Program) (w : World) (K : Frag) (A : Around) (Q : Value × List Value → Shared → Prop) (Er : Value → Shared → Prop) (s : Shared) (pl : Sem Bool) (u : V) (m : Nat) (mt : Option Nat) (cu : Value) : Prop := ((∀ h, K.In h → Kept (model prog w) h (mval u m mt)) → Q (mval u m mt, [cu]) s) → wpAny (model prog w) A (getMethod cu (nm m) pl) Q Er s
theorem getM_any (W : Wd prog w K h₀ mg mb B) (P : Rep prog w h₀ R ρ hp s.heap) {u : V} {cu : Value} {m : Nat} {mt : Option Nat} {vs : List V} {h1 : Hp} {r : V × Hp} (x : VRel R ρ hp.n s.heap u cu) (hm : methOf B hp u m = some mt) (he : runMt F d mt u m vs h1 = some r) {pl : Sem Bool} {Q : Value × List Value → Shared → Prop} :
    GK prog w K A Q Er s pl u m mt cu := by
  have X := W.X.keeps P.keep
  refine x.inv (P := GK prog w K A Q Er s pl u m mt) ?_
  induction u using V.casesOn with
  | str a =>
    cases Option.some.inj hm
    exact fun t q => getM_str he (q fun _ _ => machine rfl)
  | ref i =>
    intro hi
    set_option smartUnfolding false in refine ob hm fun o hg hm => ?_
    induction o using O.casesOn with
    | list us =>
      cases Option.some.inj hm
      refine P.atL hi hg fun _ _ ho _ => ?_
      set_option smartUnfolding false in exact obL he fun _ _ he q => getM_list he ho (q fun _ _ => machine rfl)
    | inst c d' =>
      set_option smartUnfolding false in refine obF hm fun fs hgd hm => ?_
      exact inst_own P hi hg hgd fun es kk IA D _ _ => getM_own (G := fun mt => GK prog w K A Q Er s pl (.ref i) m mt (.ref (ρ i))) W hm X IA D fun f hf g q => g (q (keeps_K hf))
    | _ => exact nos hm
  | rin c fs => exact fun es a dx kk ho hd off offd D => getM_own (G := fun mt => GK prog w K A Q Er s pl (.rin c fs) m mt (.ref a)) W hm X ⟨ho, rfl, rfl, hd⟩ D fun f hf g q => g (q (keeps_K hf))
  | _ => exact nos hm
theorem runMt_any (I : Snd prog w K h₀ F) {u : V} {cu : Value} {m : Nat} {mt : Option Nat} {args : List V} {cargs : List Value} (he : runMt F d mt u m args hp = some (v, hp')) (x : VRel R ρ hp.n s.heap u cu) (rm : Room A d) (rv : Resv h₀ R s.heap) (P : Rep prog w h₀ R ρ hp s.heap) (r : VRels R ρ hp.n s.heap args cargs) (q : KV prog w h₀ R ρ hp s v hp' Q) :
    CalW prog w A Q Er s (mval u m mt) (cu :: cargs) := by
  induction mt using Option.casesOn with
  | some f => exact wpAny_call (I.cl he rm rv P (.cons x r) q)
  | none =>
    refine x.inv (P := fun cu => CalW prog w A Q Er s (mval u m none) (cu :: cargs)) ?_
    induction u using V.casesOn with
    | str a => exact fun t => strM_any P r q he
    | ref i =>
      intro hi
      set_option smartUnfolding false in exact obL he fun _ hg he => listM_any hi hg P r q he
    | _ => exact nos he
theorem ev_mcall (W : Wd prog w K h₀ mg mb B) (I : Snd prog w K h₀ F) {o : E} {m : Nat} {args : List E} (he : evStep B F d fm hp (.mcall o m args) = some (v, hp')) (hx : isE env.kindOf (.mcall o m args) x = true) (rm : Room A d) (rv : Resv h₀ R s.heap) (P : Rep prog w h₀ R ρ hp s.heap) (M : FmRel h₀ R fm env ρ hp.n s.heap) (k : KV prog w h₀ R ρ hp s v hp' Q) : wpAny (model prog w) A (eval x env) Q Er s := by
  set_option smartUnfolding false in refine obp he fun u h1 hu he => ?_
  set_option smartUnfolding false in refine ob he fun mt hmt he => ?_
  set_option smartUnfolding false in refine obp he fun vs h2 hvs he => ?_
  refine iMcall (P := WE prog w A env Q Er s) hx fun ov ap as pos hm hlen ho has hline => ?_
  have hform : methodCallForm (as.length + ([] : List Keyword).length) (backTo pos (starEach as env)) (backToKw pos (keywordEach [] env)) = true :=
    Bool.and_eq_true_iff.mpr ⟨Bool.and_eq_true_iff.mpr ⟨(plain_trees has).2, rfl⟩, decide_eq_true (Nat.lt_of_lt_of_le hlen (by decide))⟩
  refine wpAny_bind (ab_any (no_super ho) (I.ev hu ho rm rv P M fun ρ₁ g₁ t₁ cu P₁ G₁ r₁ => wpAny_bind (wpAny_standAt ?_)))
  unfold methodCall
  rw [hform]
  refine wpAny_bind (wpAny_holding (getM_any W P₁ r₁ hmt he fun hk => ?_))
  show wpAny _ _ (methodCallPos true ov env ap pos >>= _) _ _ _
  rw [show methodCallPos true ov env ap pos = pure pos from if_pos hline]
  exact wpAny_bind (wpAny_pure (args_any I W.X (s := ⟨g₁, s.gens, s.drawn, t₁, s.os⟩) hk hvs has rm (rv.mono P P₁ G₁) P₁ (M.mono G₁) fun ρ₂ g₂ t₂ cvs P₂ G₂ r₂ =>
    have G := P₁.then G₁ G₂
    runMt_any (s := ⟨g₂, s.gens, s.drawn, t₂, s.os⟩) I he (r₁.mono G₂ (fun _ x => nomatch x)) rm (rv.mono P P₂ G) P₂ r₂ fun ρ₃ g₃ t₃ cv P₃ G₃ r₃ => k _ _ _ _ P₃ (P₂.then G G₃) r₃))
end
end
section
section
variable {prog : Program} {w : World} {K : Frag} {h₀ : Heap} {mg mb : Str → Option Value} {B : Tb} {F : Fns} {d : Nat} {fm : Fm} {hp hp' : Hp} {b : Bool} {A : Around} {env : Env} {R : List Addr} {ρ : Nat → Addr} {n : Nat} {h : Heap} {s : Shared} {x : Expr} {Q : Bool → Shared → Prop} {Er : Value → Shared → Prop}
noncomputable abbrev TSW (prog : Program) (w : World) (A : Around) (env : Env) (Q : Bool → Shared → Prop) (Er : Value → Shared → Prop) (s : Shared) (x : Expr) : Prop := wpAny (model prog w) A (isTrue x env (eval x env)) Q Er s
theorem alls_any (I : Snd prog w K h₀ F) {op : BoolOp} (rm : Room A d) {es : List E} : ∀ {xs : List Expr} {hp : Hp} {R : List Addr} {ρ : Nat → Addr} {s : Shared}, alls F d fm op es hp = some (b, hp') → isEs env.kindOf es xs = true →
    Resv h₀ R s.heap → Rep prog w h₀ R ρ hp s.heap → FmRel h₀ R fm env ρ hp.n s.heap → KB prog w h₀ R ρ hp s b hp' Q → wpAny (model prog w) A (allTrue op xs env) Q Er s := by
  induction es with
  | nil => exact fun he hx rv P M k => iEs0 (Q := fun xs => wpAny (model prog w) A (allTrue op xs env) Q Er _) hx (wpAny_pure (kb he k _ _ _ P (.refl ..)))
  | cons e es ih =>
    intro xs hp R ρ s he hx rv P M k
    dsimp only [alls] at he
    set_option smartUnfolding false in refine obp he fun c h1 hu he => ?_
    refine iEs (Q := fun xs => wpAny (model prog w) A (allTrue op xs env) Q Er s) hx fun y ys _ hy hys => wpAny_bind (I.ts hu hy rm rv P M fun ρ₁ h' t' P₁ G₁ => ?_)
    have stay := fun he => kb (s := s) (ρ := ρ) (R := R) (w := w) (prog := prog) (h₀ := h₀) (u := c) (h1 := h1) he k _ _ t' P₁ G₁
    have go := fun he => ih (hp := h1) he hys (s := ⟨h', s.gens, s.drawn, t', s.os⟩) (rv.mono P P₁ G₁) P₁ (M.mono G₁) fun ρ₂ h'' t'' P₂ G₂ => k _ _ _ P₂ (P₁.then G₁ G₂)
    cases op <;> cases c
    · exact wpAny_pure (stay he)
    · exact go he
    · exact go he
    · exact wpAny_pure (stay he)
theorem ts_rest (I : Snd prog w K h₀ F) {e : E} (ht : testy e = false) (he : (match F.ev d fm hp e with
    | some (v, h) => match v with
      | .bool b => some (b, h)
      | _ => none
    | none => none) = some (b, hp')) (hx : isE env.kindOf e x = true) (rm : Room A d) (rv : Resv h₀ R s.heap) (P : Rep prog w h₀ R ρ hp s.heap) (M : FmRel h₀ R fm env ρ hp.n s.heap) (k : KB prog w h₀ R ρ hp s b hp' Q) : TSW prog w A env Q Er s x := by
  set_option smartUnfolding false in refine obp he fun c h1 hu he => ?_
  refine wpAny_isTrue_value (I.ev hu hx rm rv P M fun ρ₁ h' t' cv P₁ G₁ r₁ => ?_) (congrFun (congrFun (no_test hx ht) _) _)
  refine r₁.inv (P := fun cv => wpAny (model prog w) A (truthy cv) Q Er _) ?_
  induction c using V.casesOn with
  | bool c => exact wpAny_truthy_bool (kb he k _ _ _ P₁ G₁)
  | _ => exact nos he
theorem ts_any (W : Wd prog w K h₀ mg mb B) (I : Snd prog w K h₀ F) {e : E} (he : tsStep B F d fm hp e = some (b, hp')) (hx : isE env.kindOf e x = true) (rm : Room A d) (rv : Resv h₀ R s.heap) (P : Rep prog w h₀ R ρ hp s.heap) (M : FmRel h₀ R fm env ρ hp.n s.heap) (k : KB prog w h₀ R ρ hp s b hp' Q) : wpAny (model prog w) A (isTrue x env (eval x env)) Q Er s := by
  induction e using E.casesOn with
  | not e =>
    set_option smartUnfolding false in refine obp he fun c h1 hu he => ?_
    exact iNot (P := TSW prog w A env Q Er s) hx fun y p hy => wpAny_isTrue_Not (I.ts hu hy rm rv P M fun ρ₁ h' t' P₁ G₁ => kb he k _ _ _ P₁ G₁)
  | bop op es => exact iBop (P := TSW prog w A env Q Er s) hx fun xs p h2 => wpAny_isTrue_BoolOp (alls_any I rm he h2 rv P M k)
  | ite c a e =>
    set_option smartUnfolding false in refine obp he fun c h1 hu he => ?_
    refine iIte (P := TSW prog w A env Q Er s) hx fun t y z p ht hy hz => wpAny_bind (I.ts hu ht rm rv P M fun ρ₁ h' t' P₁ G₁ => ?_)
    have go := fun {e y} he hy => I.ts (e := e) (x := y) (Er := Er) (s := ⟨h', s.gens, s.drawn, t', s.os⟩) he hy rm (rv.mono P P₁ G₁) P₁ (M.mono G₁) fun ρ₂ h'' t'' P₂ G₂ => k _ _ _ P₂ (P₁.then G₁ G₂)
    induction c using Bool.casesOn with
    | true => exact go he hy
    | false => exact go he hz
  | cmp op l r =>
    set_option smartUnfolding false in refine obp he fun a h1 hu he => ?_
    set_option smartUnfolding false in refine obp he fun c h2 hu2 he => ?_
    set_option smartUnfolding false in refine ob he fun cc hc he => ?_
    refine iCmp (P := TSW prog w A env Q Er s) hx fun y z p hy hz hm => wpAny_isTrue_Compare1 (I.ev hu hy rm rv P M fun ρ₁ h' t' ca P₁ G₁ r₁ => I.ev hu2 hz rm (rv.mono P P₁ G₁) P₁ (M.mono G₁) fun ρ₂ h'' t'' cb P₂ G₂ r₂ => ?_) hm
    exact cmpV_any W hc rm P₂ (r₁.mono G₂ (fun _ x => nomatch x)) r₂ fun t => wpAny_truthy_bool (kb he k _ _ _ P₂ (P₁.then G₁ G₂))
  | _ => exact ts_rest I rfl he hx rm rv P M k
end
end
section
structure Move (R' R : List Addr) (ρ : Nat → Addr) (n : Nat) (h : Heap) (ρ' : Nat → Addr) (n' : Nat) (h' : Heap) : Prop where
  res : ∀ b, b ∈ R → b ∈ R'
  le : n ≤ n'
  same : ∀ i, i < n → ρ' i = ρ i
  keep : ∀ b o, b ∉ R' → (∀ i, i < n → ρ i ≠ b) → h.get? b = some o → h'.get? b = some o
  new : ∀ i, n ≤ i → i < n' → ρ' i ∈ R' ∨ h.get? (ρ' i) = none
section
variable {R' R : List Addr} {ρ ρ' : Nat → Addr} {n n' : Nat} {h h' : Heap} (G : Move R' R ρ n h ρ' n' h')
include G
theorem Move.hk (b : Addr) (o : Obj) (e : h.get? b = some o) (x : Off R' ρ n b) : h'.get? b = some o ∧ Off R ρ' n' b :=
  ⟨G.keep b o x.2 x.1 e, fun i hi q => (Nat.lt_or_ge i n).elim (fun hn => x.1 i hn ((G.same i hn).symm.trans q)) fun hn => (G.new i hn hi).elim (fun z => x.2 (q ▸ z)) (fun z => nos ((q ▸ z : h.get? b = none).symm.trans e)), fun z => x.2 (G.res _ z)⟩
theorem VRel.move {v : V} {cv : Value} (r : VRel R' ρ n h v cv) : VRel R ρ' n' h' v cv := r.map G.le G.same G.hk
theorem VRels.move {v : List V} {cv : List Value} (r : VRels R' ρ n h v cv) : VRels R ρ' n' h' v cv := r.map G.le G.same G.hk
end
section
variable {prog : Program} {w : World} {h₀ : Heap} {R R' : List Addr} {ρ ρ' : Nat → Addr} {n n' : Nat} {hp hp' : Hp} {h h' : Heap}
theorem Rep.leave {X : List Addr} (P : Rep prog w h₀ R' ρ hp h) (hR : ∀ b, b ∈ R → b ∈ R') (hX : ∀ b, b ∈ X → b ∈ R' ∧ h₀.get? b = none ∧ ∀ i, i < hp.n → ρ i ≠ b) (hk : ∀ b o, b ∉ X → h.get? b = some o → h'.get? b = some o) :
    Rep prog w h₀ R ρ hp h' ∧ Move R' R ρ hp.n h ρ hp.n h' :=
  have G : Move R' R ρ hp.n h ρ hp.n h' := ⟨hR, Nat.le_refl _, fun _ _ => rfl, fun b o x _ e => hk b o (fun z => x (hX b z).1) e, fun _ a b => absurd b (Nat.not_lt.mpr a)⟩
  ⟨⟨fun b o e => hk b o (fun z => nos ((hX b z).2.1.symm.trans e)) (P.keep b o e), P.off, P.inj, fun i hi => (P.obj i hi).elim fun o x => x.elim fun co x => ⟨o, co, x.1, hk _ _ (fun z => (hX _ z).2.2 i hi rfl) x.2.1, x.2.2.map _ _ G.le G.same G.hk⟩, P.big⟩, G⟩
theorem Rep.adopt (P : Rep prog w h₀ R' ρ hp h) (hR : ∀ b, b ∈ R → b ∈ R') {o : O} {i : Nat} (e : hp.new o = some (i, hp')) {a : Addr} {co : Obj} (ha : a ∈ R') (off0 : h₀.get? a = none) (own : ∀ i, i < hp.n → ρ i ≠ a) (ho : h.get? a = some co)
    (hr : ∀ ρ', Move R' R ρ hp.n h ρ' (hp.n + 1) h → ρ' hp.n = a → ORel prog w R ρ' (hp.n + 1) h a o co) :
    ∃ ρ', Rep prog w h₀ R ρ' hp' h ∧ Move R' R ρ hp.n h ρ' hp'.n h ∧ ρ' i = a ∧ i < hp'.n :=
  (P.put (R := R) (h' := h) (C := fun ρ' => Move R' R ρ hp.n h ρ' (hp.n + 1) h) e off0 own P.keep (fun _ _ _ e => e) ho fun ρ' sm hn =>
    have G : Move R' R ρ hp.n h ρ' (hp.n + 1) h := ⟨hR, Nat.le_succ _, sm, fun b o _ _ e => e, fun i x y => .inl (Nat.le_antisymm x (Nat.le_of_lt_succ y) ▸ hn ▸ ha)⟩
    ⟨G, hr ρ' G hn, fun _ _ _ c => c.map _ _ G.le G.same G.hk⟩).elim fun ρ' x => ⟨ρ', x.1, x.2.1 ▸ x.2.2.1, x.2.2.2⟩
theorem FmRel.move {fm : Fm} {env : Env} (M : FmRel h₀ R' fm env ρ n h) (G : Move R' R ρ n h ρ' n' h') (hr : env.locals ∈ R) (hk : ∀ o, h.get? env.locals = some o → h'.get? env.locals = some o) (hoff : ∀ i, n ≤ i → i < n' → ρ' i ≠ env.locals) : FmRel h₀ R fm env ρ' n' h' :=
  M.map hr hk (fun i hi q => (Nat.lt_or_ge i n).elim (fun hn => M.off i hn ((G.same i hn).symm.trans q)) fun hn => hoff i hn hi q) G.le G.same fun _ _ r => r.move G
theorem FmRel.under {fm : Fm} {env : Env} (M : FmRel h₀ R fm env ρ n h) (hR : ∀ b, b ∈ R' → b ∈ R ∨ h.get? b = none) (hr : env.locals ∈ R') : FmRel h₀ R' fm env ρ n h := M.map hr (fun _ e => e) M.off (Nat.le_refl _) (fun _ _ => rfl) fun _ _ r => r.resv hR
theorem Grow.past {X : List Addr} {ρ₀ : Nat → Addr} {n₀ : Nat} {g₀ : Heap} {I : Addr} (G : Grow X ρ₀ n₀ g₀ ρ n h) (hI : g₀.get? I = none) (hX : ∀ b, b ∈ X → b ≠ I) (hs : Heap.ExtBut I h h') : Grow X ρ₀ n₀ g₀ ρ n h' :=
  ⟨G.le, G.same, fun b o e x off => hs b o (fun z => nos ((z ▸ hI : g₀.get? b = none).symm.trans e)) (G.keep b o e x off), G.new, fun b x e => (Option.isSome_iff_exists.mp (G.live b x e)).elim fun o q => Option.isSome_iff_exists.mpr ⟨o, hs b o (hX b x) q⟩⟩
end
end
section
section
variable {prog : Program} {w : World} {K : Frag} {h₀ : Heap} {mg mb : Str → Option Value} {B : Tb} {F : Fns} {d : Nat} {fm fm' : Fm} {hp hp' : Hp} {v : V} {A : Around} {env : Env} {R : List Addr} {ρ : Nat → Addr} {n : Nat} {h : Heap} {s : Shared} {x : Expr} {Q : Unit → Shared → Prop} {Er : Value → Shared → Prop}
theorem put_at {l : Addr} {items : Array Value} {c k : Nat} {i : Int} {t : Tok} {cv : Value} (hi : i = (k : Int)) (ho : s.heap.get? l = some (PySem.W.listOf items c)) (hk : k < items.size) (hb : k < 100000)
    (q : Q () { s with heap := s.heap.update l (Obj.mapSeq fun z => z.setIfInBounds k cv) }) : wpAny (model prog w) A (setItem (.ref l) (.int i t) cv) Q Er s := by
  have hT : s.TypeIs (.ref l) "list" := ⟨_, ho, rfl⟩
  have hfit : Builtin.List.listFitsIndex i = true := hi ▸ Bool.and_eq_true_iff.mpr ⟨decide_eq_true (Int.le_trans (by decide) (Int.natCast_nonneg k)), decide_eq_true (Int.ofNat_lt.mpr (Nat.lt_trans hb (by decide)))⟩
  unfold setItem
  try with_reducible refine wpAny_holding ?_
  refine wpAny_bind (wpAny_sequenceKey hT (by decide) (wpAny_bind (wpAny_callSpecial?_slot (name := Str.ofString "__setitem__") hT F.slot_list_setitem (wpAny_call_entry F.slot_list_setitem hT F.entry_list_setitem ?_ (F.args_list_setitem_3 _ _ _)))))
  show wpAny _ _ (Builtin.List.listSubscript? (.int i t) >>= _) _ _ s
  refine wpAny_bind (wpAny_listSubscript_int hfit ?_)
  clear hfit hb
  subst hi
  show wpAny _ _ ((seqItemAt l k >>= fun r => pure (r.map (k, ·))) >>= _) _ _ s
  refine wpAny_bind (wpAny_bind (wpAny_seqItemAt (i := k) ho (rfl : (PySem.W.listOf items c).data = .seq items c) (wpAny_pure ?_)))
  rw [Array.getElem?_eq_getElem hk]
  show wpAny _ _ (setSeqItemAt l k cv >>= _) _ _ s
  exact wpAny_bind (wpAny_setSeqItemAt ho rfl (wpAny_bind (wpAny_pure (wpAny_pure ⟨.none, rfl, wpAny_pure q⟩))))
theorem put_attr {c a i dx : Nat} {es : List DictEntry} {kk : Nat} {ms : List (Nat × Nat)} {cv : Value} (X : K.In s.heap) (C : ClsOk K c ms) (hf : findIn K (.ref c) (nm a) = some none) (I : InstAt s.heap i (instObj c dx) c (some (dictOf es kk))) (hD : s.heap.get? dx = some (dictOf es kk))
    (hr : es.any (·.refKey) = false) (hz : es.length < 999) (q : ∀ (hs : Int) (tk tk' : Tok), Q () { s with heap := s.heap.update dx (Obj.putName (nm a) hs (.str (nm a) tk) cv), toks := tk' }) :
    wpAny (model prog w) A (setAttr (.ref i) (nm a) cv) Q Er s := by
  have ht : takerIn K c (nm a) = some none := by unfold takerIn; rw [hf]; rfl
  refine set_plain X I C.set (osa_open (s := { s with toks := s.toks + 1 }) X I C.over ht fun b => ?_)
  obtain ⟨cd, hc, hd'⟩ := any_some C.dict
  have X' : K.In ({ s with toks := s.toks + 1 } : Shared).heap := X
  refine wpAny_bind (wpAny_pure (wpAny_bind (wpAny_bind (wpAny_loadPart I.at_ (wpAny_bind ((looks_clsIn X' hc).here ?_))))))
  rw [hd']
  refine wpAny_pure (a := some dx) (wpAny_bind (wpAny_pure (wpAny_bind ?_)))
  refine wpAny_bind (wpAny_bind (wpAny_askSetting (wpAny_pure (wpAny_bind (wpAny_mkText (wpAny_bind (wpAny_loadPart hD ?_)))))))
  dsimp only
  rw [aRefKeyMayBeTheName_at, List.any_toArray (l := es) (p := (·.refKey)), hr, Bool.and_false]
  refine wpAny_updatePart hD (wpAny_bind (wpAny_lookBehind (o := dictOf (putL (nm a) (PyData.keyHash w.params (nm a)) (.str (nm a) (s.toks + 1)) cv es) (putN (nm a) es kk)) ?_ (pastItsLine_dict ?_) (wpAny_pure (q _ _ _))))
  · rw [← putName_dict]
    exact Heap.get?_update_self _ hD (by rw [putName_dict]; rfl)
  · exact Nat.le_trans (putL_len (nm a) _ _ cv es) (Nat.succ_le_succ (Nat.le_trans (Nat.le_of_lt hz) (by decide : 999 ≤ sizeLine)))
theorem getL_setL (L : List (Nat × V)) (y x : Nat) (v : V) : Mine.getL (setL L y v) x = match Nat.beq y x with
    | true => some v
    | false => Mine.getL L x := by
  induction L with
  | nil => rfl
  | cons p r ih =>
    show Mine.getL (match Nat.beq p.1 y with | true => (p.1, v) :: r | false => p :: setL r y v) x = match Nat.beq y x with | true => some v | false => (match Nat.beq p.1 x with | true => some p.2 | false => Mine.getL r x)
    cases h : Nat.beq p.1 y with
    | true =>
      rw [← Nat.eq_of_beq_eq_true h]
      show (match Nat.beq p.1 x with | true => some v | false => Mine.getL r x) = _
      cases Nat.beq p.1 x <;> rfl
    | false =>
      show (match Nat.beq p.1 x with | true => some p.2 | false => Mine.getL (setL r y v) x) = _
      rw [ih]
      cases h1 : Nat.beq p.1 x with
      | false => rfl
      | true =>
        rw [← Nat.eq_of_beq_eq_true h1, show Nat.beq y p.1 = false from Bool.eq_false_iff.mpr fun q => by rw [Nat.eq_of_beq_eq_true q, Nat.beq_refl] at h; cases h]
theorem loc_in (M : FmRel h₀ R fm env ρ n h) : ∀ b, b ∈ [env.locals] → b ∈ R := fun _ z => List.mem_singleton.mp z ▸ M.resv
theorem put_loc {y : Nat} {cv : Value} (hy : y < nN) (hk : env.kindOf (nm y) = some .local) (P : Rep prog w h₀ R ρ hp s.heap) (M : FmRel h₀ R fm env ρ hp.n s.heap) (r : VRel R ρ hp.n s.heap v cv)
    (k : KA prog w h₀ R ρ hp s env ⟨setL fm.L y v, fm.C⟩ hp (Q ())) : wpAny (model prog w) A (storeName env (nm y) cv) Q Er s := by
  obtain ⟨m, hn, hl⟩ := M.locs
  refine wpAny_storeName_local hk hn (fun h' hn' hs' => ?_) (by rw [M.kind]; rfl)
  obtain ⟨P', G⟩ := P.beside M.resv M.off0 M.off hs'.extBut (fun _ => hn'.elim fun o z => Option.isSome_iff_exists.mpr ⟨o, z.elim fun _ z => z.elim fun _ z => z.1⟩)
  refine k _ _ _ P' G ⟨M.kind, M.glob, M.blt, ⟨_, hn', fun x u e => ?_⟩, M.resv, M.off, M.off0, M.cells, M.clos⟩
  rw [getL_setL] at e
  cases q : Nat.beq y x with
  | true =>
    rw [q] at e
    exact Nat.eq_of_beq_eq_true q ▸ ⟨hy, cv, if_pos rfl, (Option.some.inj e) ▸ r.mono G (loc_in M)⟩
  | false =>
    rw [q] at e
    obtain ⟨a, cu, b, c⟩ := hl x u e
    exact ⟨a, cu, (if_neg fun z => Bool.false_ne_true (q.symm.trans (nm_inj a hy z ▸ Nat.beq_refl _))).trans b, c.mono G (loc_in M)⟩
theorem put_cel {y i : Nat} {cv : Value} {o : Option V} (hk : env.kindOf (nm y) = some .cell) (hc : getC fm.C y = some i) (hg : hp.get i = some (.cell o)) (P : Rep prog w h₀ R ρ hp s.heap) (M : FmRel h₀ R fm env ρ hp.n s.heap) (r : VRel R ρ hp.n s.heap v cv)
    (k : KA prog w h₀ R ρ hp s env fm (hp.set i (.cell (some v))) (Q ())) : wpAny (model prog w) A (storeName env (nm y) cv) Q Er s := by
  obtain ⟨_, hi, hlk⟩ := M.cells _ _ hc (.inl hk)
  have go : ∀ {v₀}, s.heap.IsCell (ρ i) v₀ → wpAny (model prog w) A (storeName env (nm y) cv) Q Er s := fun hv => wpAny_storeName_cell M.kind hk hlk hv fun h' hc' hs' => by
    obtain ⟨co', ho', hd'⟩ := hc'
    obtain ⟨P', G⟩ := P.update (o' := .cell (some v)) hi hs' ho' fun G => ⟨cv, hd', r.mono G (fun _ x => nomatch x)⟩
    exact k _ _ _ P' (G.wider (fun b z => nomatch z) fun b z e => (Option.isSome_iff_exists.mp e).elim fun oo q => Option.isSome_iff_exists.mpr ⟨oo, (hs'.2 _ (fun z' => M.off i hi (z'.symm.trans (List.mem_singleton.mp z)))).trans q⟩) (M.mono G)
  refine (P.at hi hg).elim fun co x => ?_
  cases o with
  | none => exact go ⟨co, x⟩
  | some u => exact x.2.elim fun cu z => go ⟨co, x.1, z.1⟩
end
end
section
section
variable {prog : Program} {w : World} {K : Frag} {h₀ : Heap} {mg mb : Str → Option Value} {B : Tb} {F : Fns} {d : Nat} {fm fm' : Fm} {hp hp' : Hp} {v : V} {A : Around} {env : Env} {R : List Addr} {ρ : Nat → Addr} {n : Nat} {h : Heap} {s : Shared} {x : Expr} {Q : Unit → Shared → Prop} {Er : Value → Shared → Prop}
theorem sD {a b : S} : decide (toStr a = toStr b) = seqB a b := Bool.eq_iff_iff.mpr (decide_eq_true_iff.trans (Iff.trans ⟨toStr_inj, congrArg toStr⟩ seqB_iff.symm))
section
variable {k : S} {i : Int} {t : Tok} {kvs : List (S × V)} {cks : List (Str × Value)} (r : KR kvs cks)
include r
theorem KR.length : cks.length = kvs.length := by
  induction r with
  | nil => rfl
  | cons _ ih => exact congrArg (· + 1) ih
theorem KR.any : (cks.any fun kv => decide (kv.1 = toStr k)) = kvs.any fun p => seqB p.1 k := by
  induction r with
  | nil => rfl
  | @cons k' i t kvs cks _ ih => exact congr (congrArg or sD) ih
theorem KR.map : KR (kvs.map fun p => match seqB p.1 k with | true => (p.1, .int i) | false => p) (cks.map fun kv => if kv.1 = toStr k then (kv.1, .int i t) else kv) := by
  induction r with
  | nil => exact .nil
  | @cons k' i' t' kvs cks _ ih =>
    have e := sD (a := k') (b := k)
    show KR ((match seqB k' k with | true => (k', V.int i) | false => (k', .int i')) :: _) ((if toStr k' = toStr k then (toStr k', Value.int i t) else (toStr k', .int i' t')) :: _)
    cases q : seqB k' k with
    | true => rw [if_pos (of_decide_eq_true (e.trans q))]; exact .cons ih
    | false => rw [if_neg (of_decide_eq_false (e.trans q))]; exact .cons ih
theorem KR.app : KR (kvs ++ [(k, .int i)]) (cks ++ [(toStr k, .int i t)]) := by
  induction r with
  | nil => exact .cons .nil
  | cons _ ih => exact .cons ih
theorem KR.stored : KR (setD kvs k (.int i)) (stored cks (toStr k) (.int i t)) := by
  unfold setD PySem.stored
  rw [r.any (k := k)]
  cases kvs.any fun p => seqB p.1 k with
  | true => exact r.map
  | false => exact r.app
end
theorem grow_loc (M : FmRel h₀ R fm env ρ n h) {n' : Nat} {ρ' : Nat → Addr} {h' : Heap} (G : Grow [] ρ n h ρ' n' h') : Grow [env.locals] ρ n h ρ' n' h' :=
  G.wider (fun b z => nomatch z) fun b z e => M.locs.elim fun _ x => x.1.elim fun o y => y.elim fun _ y => y.elim fun _ y => Option.isSome_iff_exists.mpr ⟨o, List.mem_singleton.mp z ▸ G.keep _ _ y.1 (fun x => nomatch x) M.off⟩
theorem isNames_cons {kd : Kd} {x : Nat} {xs : List Nat} {P : List Expr → Prop} {es : List Expr} (h : isNames kd (x :: xs) es = true) (q : ∀ p t, x < nN → kd (nm x) = some .local → isNames kd xs t = true → P (.Name (nm x) p :: t)) : P es :=
  oC_e h fun e t h => and2 h fun h1 h2 => iName (P := fun e => P (e :: t)) h1 fun p hy hk => q p t hy hk h2
theorem names_of {kd : Kd} {xs : List Nat} : ∀ {es : List Expr}, isNames kd xs es = true → (assignEach es env).findIdx? (·.1) = none ∧ (assignEach es env).length = xs.length := by
  induction xs with
  | nil => exact fun h => o0_e (P := fun es => (assignEach es env).findIdx? (·.1) = none ∧ (assignEach es env).length = 0) h ⟨rfl, rfl⟩
  | cons x xs ih =>
    refine fun h => isNames_cons (P := fun es => (assignEach es env).findIdx? (·.1) = none ∧ (assignEach es env).length = xs.length + 1) h fun p t _ _ h2 => ⟨?_, congrArg (· + 1) (ih h2).2⟩
    exact List.findIdx?_cons.trans (congrArg (Option.map (· + 1)) (ih h2).1)
theorem tup_any {xs : List Nat} : ∀ {es : List Expr} {vs : List V} {cvs : List Value} {fm : Fm} {L : List (Nat × V)} {ρ : Nat → Addr} {s : Shared}, tupL fm.L xs vs = some L → isNames env.kindOf xs es = true → Rep prog w h₀ R ρ hp s.heap → FmRel h₀ R fm env ρ hp.n s.heap → VRels R ρ hp.n s.heap vs cvs →
    KA prog w h₀ R ρ hp s env ⟨L, fm.C⟩ hp (Q ()) → wpAny (model prog w) A (assignInOrder ((assignEach es env).map (·.2)) cvs) Q Er s := by
  induction xs with
  | nil =>
    intro es vs cvs fm L ρ s he hx P M r k
    refine o0_e (P := fun es => wpAny (model prog w) A (assignInOrder ((assignEach es env).map (·.2)) cvs) Q Er s) hx ?_
    induction vs using List.casesOn with
    | nil => exact r.inv (P := fun cvs => wpAny (model prog w) A (assignInOrder [] cvs) Q Er s) (wpAny_pure (k _ _ _ P (grow_loc M (.refl ..)) (Option.some.inj he ▸ M)))
    | cons _ _ => exact nos he
  | cons x xs ih =>
    intro es vs cvs fm L ρ s he hx P M r k
    refine isNames_cons (P := fun es => wpAny (model prog w) A (assignInOrder ((assignEach es env).map (·.2)) cvs) Q Er s) hx fun p es hy hk h2 => ?_
    induction vs using List.casesOn with
    | nil => exact nos he
    | cons v vs => exact r.inv (P := fun cvs => wpAny (model prog w) A (assignInOrder (assign (.Name (nm x) p) env :: (assignEach es env).map (·.2)) cvs) Q Er s) fun cv cvs r rs => wpAny_assignInOrder_more (wpAny_assign_Name (put_loc hy hk P M r fun ρ₁ h₁ t₁ P₁ G₁ M₁ =>
        ih (fm := ⟨setL fm.L x v, fm.C⟩) (s := ⟨h₁, s.gens, s.drawn, t₁, s.os⟩) he h2 P₁ M₁ (rs.mono G₁ (loc_in M)) fun ρ₂ h₂ t₂ P₂ G₂ M₂ => k _ _ _ P₂ (P₁.then G₁ G₂) M₂))
noncomputable abbrev Put (prog : Program) (w : World) (h₀ : Heap) (R : List Addr) (ρ : Nat → Addr) (hp : Hp) (s : Shared) (fm fm' : Fm) (hp' : Hp) (Q : Unit → Shared → Prop) : Prop := fm = fm' → ∀ h' t', Rep prog w h₀ R ρ hp' h' ∧ Grow [] ρ hp.n s.heap ρ hp'.n h' → Q () ⟨h', s.gens, s.drawn, t', s.os⟩
theorem kput {h1 : Hp} (e : some (fm, h1) = some (fm', hp')) (q : Put prog w h₀ R ρ hp s fm fm' hp' Q) {h' : Heap} {t' : Tok} (x : Rep prog w h₀ R ρ h1 h' ∧ Grow [] ρ hp.n s.heap ρ h1.n h') : Q () ⟨h', s.gens, s.drawn, t', s.os⟩ :=
  have e2 : h1 = hp' := congrArg Prod.snd (Option.some.inj e)
  q (congrArg Prod.fst (Option.some.inj e)) h' t' (e2 ▸ x)
section
variable {a j : Nat} {cv : Value} (P : Rep prog w h₀ R ρ hp s.heap) (r : VRel R ρ hp.n s.heap v cv) (q : Put prog w h₀ R ρ hp s fm fm' hp' Q)
include P r q
theorem putI_any {i : Int} {tk : Tok} (hj : j < hp.n) (he : putI fm hp j i v = some (fm', hp')) : wpAny (model prog w) A (setItem (.ref (ρ j)) (.int i tk) cv) Q Er s := by
  set_option smartUnfolding false in refine obL he fun vs hg he => ?_
  set_option smartUnfolding false in refine ob he fun p hp he => ?_
  obtain ⟨e, hlt, hsm⟩ := place_some hp
  refine P.atL hj hg fun cvs c hobj rr => put_at e hobj (Nat.lt_of_lt_of_eq hlt rr.length.symm) hsm ?_
  exact kput he q (P.update (o' := .list (setN vs p v)) hj (Heap.SameBut.update ..) (Heap.get?_update_self _ hobj rfl) fun G => ⟨cvs.set p cv, _, congrArg (PySem.W.listOf · _) (List.setIfInBounds_toArray ..), VRels.set (rr.mono G (fun _ x => nomatch x)) (r.mono G (fun _ x => nomatch x))⟩)
theorem putD_any {t : S} {tk : Tok} (hj : j < hp.n) (he : putD fm hp j t v = some (fm', hp')) : wpAny (model prog w) A (setItem (.ref (ρ j)) (.str (toStr t) tk) cv) Q Er s := by
  set_option smartUnfolding false in refine obD he fun kvs hg he => ?_
  set_option smartUnfolding false in refine obt he fun hlen he => ?_
  refine r.inv (P := fun cv => wpAny (model prog w) A (setItem (.ref (ρ j)) (.str (toStr t) tk) cv) Q Er s) ?_
  induction v using V.casesOn with
  | int u =>
    refine fun tv => dict_own P hj hg fun cks hsm D rr => wpAny_setItem_pairs (strKind_is prog w (toStr t) tk) D (fun h' D' hs' => ?_) (rr.length ▸ Nat.le_trans (Nat.le_of_lt (Nat.blt_eq.mp hlen)) (by decide : 1000 ≤ sizeLine))
    exact (Heap.dictOf_iff.mp D').elim fun o' x => kput he q (P.update hj hs' x.1 fun G => ⟨hsm, _, x.2, rr.stored⟩)
  | _ => exact nos he
theorem putS_any {u kv : V} {co ci : Value} (ro : VRel R ρ hp.n s.heap u co) (ri : VRel R ρ hp.n s.heap kv ci) (he : putS fm hp u kv v = some (fm', hp')) : wpAny (model prog w) A (setItem co ci cv) Q Er s := by
  set_option smartUnfolding false in refine vRef (P := fun co => wpAny (model prog w) A (setItem co ci cv) Q Er s) he ro fun j hj he => ?_
  refine ri.inv (P := fun ci => wpAny (model prog w) A (setItem (.ref (ρ j)) ci cv) Q Er s) ?_
  induction kv using V.casesOn with
  | int i => exact fun tk => putI_any P r q hj he
  | str t => exact fun tk => putD_any P r q hj he
  | _ => exact nos he
theorem putA_any (W : Wd prog w K h₀ mg mb B) {u : V} {co : Value} (ha : a < nN) (ro : VRel R ρ hp.n s.heap u co) (he : putA B fm hp u a v = some (fm', hp')) : wpAny (model prog w) A (setAttr co (nm a) cv) Q Er s := by
  set_option smartUnfolding false in refine vRef (P := fun co => wpAny (model prog w) A (setAttr co (nm a) cv) Q Er s) he ro fun i hi he => ?_
  set_option smartUnfolding false in refine obI he fun c d' hg he => ?_
  set_option smartUnfolding false in refine obt he fun hfld he => ?_
  set_option smartUnfolding false in refine obF he fun fs hgd he => ?_
  set_option smartUnfolding false in refine obt he fun hlen he => ?_
  refine inst_own P hi hg hgd fun es kk IA D hd hD => (isFld_of W ha hfld).elim fun ms C => ?_
  refine put_attr (W.X.keeps P.keep) C.1 C.2 IA hD D.noRef (Nat.lt_trans (D.length.symm ▸ Nat.blt_eq.mp hlen) (by decide)) fun hs tk tk' => ?_
  exact kput he q (P.update hd (Heap.SameBut.update ..) (Heap.get?_update_self _ hD (by rw [putName_dict]; rfl)) fun G => ⟨_, _, putName_dict .., (D.mono G (fun _ x => nomatch x)).put ha (r.mono G (fun _ x => nomatch x))⟩)
end
noncomputable abbrev AW (prog : Program) (w : World) (A : Around) (env : Env) (Q : Unit → Shared → Prop) (Er : Value → Shared → Prop) (s : Shared) (cv : Value) (x : Expr) : Prop := wpAny (model prog w) A (assign x env cv) Q Er s
section
variable (W : Wd prog w K h₀ mg mb B) (I : Snd prog w K h₀ F) {cv : Value} (rm : Room A d) (rv : Resv h₀ R s.heap) (P : Rep prog w h₀ R ρ hp s.heap) (M : FmRel h₀ R fm env ρ hp.n s.heap) (r : VRel R ρ hp.n s.heap v cv)
    (k : KA prog w h₀ R ρ hp s env fm' hp' (Q ()))
include P M r k
theorem asg_loc {y : Nat} (he : asg B F d fm hp (.loc y) v = some (fm', hp')) (hx : isT env.kindOf (.loc y) x = true) : AW prog w A env Q Er s cv x :=
  iName (P := AW prog w A env Q Er s cv) hx fun p hy hk => wpAny_assign_Name (put_loc hy hk P M r (ka he k))
theorem asg_cel {y : Nat} (he : asg B F d fm hp (.cel y) v = some (fm', hp')) (hx : isT env.kindOf (.cel y) x = true) : AW prog w A env Q Er s cv x := by
  set_option smartUnfolding false in refine ob he fun i hi he => ?_
  set_option smartUnfolding false in refine ob he fun o hg he => ?_
  induction o using O.casesOn with
  | cell o => exact iName (P := AW prog w A env Q Er s cv) hx fun p hy hk => wpAny_assign_Name (put_cel hk hi hg P M r (ka he k))
  | _ => exact nos he
include rm in
theorem asg_tup {xs : List Nat} (he : asg B F d fm hp (.tup xs) v = some (fm', hp')) (hx : isT env.kindOf (.tup xs) x = true) : AW prog w A env Q Er s cv x := by
  refine iTtup (P := AW prog w A env Q Er s cv) hx fun es kk pos hx => ?_
  obtain ⟨h1, h2⟩ := names_of (env := env) hx
  refine r.inv (P := fun cv => AW prog w A env Q Er s cv (.Tuple es kk pos)) ?_
  induction v using V.casesOn with
  | tup vs =>
    set_option smartUnfolding false in refine obt he fun hlen he => ?_
    set_option smartUnfolding false in refine ob he fun L hL he => ?_
    intro cvs a o kk ho hc hd off rr
    refine wpAny_assign_Tuple rm.handled ⟨_, ho, hc, _, hd⟩ (h2.trans ((Nat.eq_of_beq_eq_true hlen).trans rr.length.symm)) h1 fun h' hs' => ?_
    obtain ⟨P₁, G₁⟩ := P.keeps [] (h' := h') fun b o e => hs' b o (fun z => nos ((z ▸ fresh_none s.heap : s.heap.get? b = none).symm.trans e)) e
    exact tup_any hL hx (s := ⟨h', s.gens, s.drawn, s.toks, s.os⟩) P₁ (M.mono G₁) (rr.mono G₁ (fun _ x => nomatch x)) fun ρ₂ h₂ t₂ P₂ G₂ M₂ => ka he k _ _ _ P₂ (P₁.then (grow_loc M G₁) G₂) M₂
  | _ => exact nos he
include W I rm rv in
theorem asg_attr {o : E} {a : Nat} (he : asg B F d fm hp (.attr o a) v = some (fm', hp')) (hx : isT env.kindOf (.attr o a) x = true) : AW prog w A env Q Er s cv x := by
  set_option smartUnfolding false in refine obp he fun u h1 hu he => ?_
  refine iTattr (P := AW prog w A env Q Er s cv) hx fun o' p ha hx' => wpAny_bind (wpAny_holding (I.ev hu hx' rm rv P M fun ρ₁ g₁ t₁ co P₁ G₁ r₁ => ?_))
  refine wpAny_bind (wpAny_standAt (wpAny_bind (wpAny_holding (wpAny_mono (Q := Q) ?_ (fun _ _ h => wpAny_release h) fun _ _ x => x))))
  exact putA_any (s := ⟨g₁, s.gens, s.drawn, t₁, s.os⟩) P₁ (r.mono G₁ fun _ x => nomatch x) (fun (e : fm = fm') h' t' x => have G := P₁.then G₁ x.2; k _ _ _ x.1 (grow_loc M G) (e ▸ M.mono G)) W ha r₁ he
include I rm rv in
theorem asg_sub {o i : E} (he : asg B F d fm hp (.sub o i) v = some (fm', hp')) (hx : isT env.kindOf (.sub o i) x = true) : AW prog w A env Q Er s cv x := by
  set_option smartUnfolding false in refine obp he fun u h1 hu he => ?_
  set_option smartUnfolding false in refine obp he fun kv h2 hu2 he => ?_
  refine iTsub (P := AW prog w A env Q Er s cv) hx fun vv jj pos hj ho hi => wpAny_bind (wpAny_holding (I.ev hu ho rm rv P M fun ρ₁ g₁ t₁ co P₁ G₁ r₁ => ?_))
  refine wpAny_bind (wpAny_holding (I.ev (s := ⟨g₁, s.gens, s.drawn, t₁, s.os⟩) hu2 hi rm (rv.mono P P₁ G₁) P₁ (M.mono G₁) fun ρ₂ g₂ t₂ ci P₂ G₂ r₂ => ?_))
  refine wpAny_bind (wpAny_standAt (wpAny_bind (wpAny_holding (wpAny_mono (Q := Q) ?_ (fun _ _ h => wpAny_release h) fun _ _ x => x))))
  have G12 := P₁.then G₁ G₂
  exact putS_any (s := ⟨g₂, s.gens, s.drawn, t₂, s.os⟩) P₂ (r.mono G12 fun _ x => nomatch x) (fun (e : fm = fm') h' t' x => have G := P₂.then G12 x.2; k _ _ _ x.1 (grow_loc M G) (e ▸ M.mono G)) (r₁.mono G₂ fun _ x => nomatch x) r₂ he
include W I rm rv in
theorem asg_any {t : Tgt} (he : asg B F d fm hp t v = some (fm', hp')) (hx : isT env.kindOf t x = true) : AW prog w A env Q Er s cv x := by
  induction t using Tgt.casesOn with
  | loc y => exact asg_loc P M r k he hx
  | cel y => exact asg_cel P M r k he hx
  | attr o a => exact asg_attr W I rm rv P M r k he hx
  | sub o i => exact asg_sub I rm rv P M r k he hx
  | tup xs => exact asg_tup rm P M r k he hx
end
end
end
section
section
variable {prog : Program} {w : World} {K : Frag} {h₀ : Heap} {mg mb : Str → Option Value} {B : Tb} {F : Fns} {d : Nat} {fm fm' : Fm} {hp hp' : Hp} {v : V} {A : Around} {env : Env} {R R' : List Addr} {ρ : Nat → Addr} {n : Nat} {h : Heap} {s : Shared} {x : Expr} {Rr : Result → Shared → Prop} {Er : Value → Shared → Prop}
noncomputable abbrev LoopQ (again : Shared → Prop) (Rr : Result → Shared → Prop) : Flow → Shared → Prop
  | .next, s => again s
  | .cont, s => again s
  | .brk, s => Rr (.ok .next) s
  | .ret v, s => Rr (.ok (.ret v)) s
noncomputable abbrev FinQ (M : Model) (A : Around) (R : Result → Shared → Prop) (fin : Fin) (s : Shared) : Prop := match fin with
  | .done f => R (.ok f) s
  | .again c => c.quiet = true ∧ codeAny M A c R s
theorem loop_end {c : Code} {M : Model} {f : Flow} {E' : Value → Shared → Prop} (hq : c.quiet = true) (h : LoopQ (codeAny M A c Rr) Rr f s) : wpAny M A (match f with | .next | .cont => again c | .brk => pure (.done .next) | .ret v => pure (.done (.ret v))) (FinQ M A Rr) E' s := by
  cases f with
  | next => exact wpAny_pure ⟨hq, h⟩
  | cont => exact wpAny_pure ⟨hq, h⟩
  | brk => exact wpAny_pure h
  | ret v => exact wpAny_pure h
theorem turn_while {test : Expr} {body : List Stmt}
    (h : ∀ E', wpAny (model prog w) A (isTrue test env (eval test env)) (fun b s₁ => if b = true then wpAny (model prog w) A (execs body env) (LoopQ (codeAny (model prog w) A (.whileLoop test body [] env) Rr) Rr) E' s₁ else Rr (.ok .next) s₁) E' s) : codeAny (model prog w) A (.whileLoop test body [] env) Rr s := by
  refine codeAny_of_tree ?_
  show wpAny _ A ((whileTurn test body [] env).onRaise (fun x => do noteFrame x env; theTreesLotGoes x)) _ _ s
  refine wpAny_noted (wpAny_bind (wpAny_mono (h _) (fun b s₁ h₁ => ?_) fun _ _ h' => h'))
  cases b with
  | false => exact wpAny_bind (wpAny_execs_nil (wpAny_pure h₁))
  | true => exact wpAny_bind (wpAny_mono h₁ (fun f s₂ h₂ => loop_end rfl h₂) fun _ _ h' => h')
noncomputable abbrev NextQ (M : Model) (A : Around) (target : Expr) (it : Value) (env : Env) (E' : Value → Shared → Prop) (stop : Shared → Prop) (go : Shared → Prop) (r : Option Value) (s₁ : Shared) : Prop := match r with
  | none => stop s₁
  | some v => wpAny M A (letOwnedTupleGo target it v) (fun _ s₁' => wpAny M A (assign target env v) (fun _ s₂ => go s₂) E' s₁') E' s₁
theorem turn_for {target : Expr} {it : Value} {body : List Stmt}
    (h : ∀ E', wpAny (model prog w) A (pyNext it) (NextQ (model prog w) A target it env E' (Rr (.ok .next)) (wpAny (model prog w) A (execs body env) (LoopQ (codeAny (model prog w) A (.forLoop target it body [] env) Rr) Rr) E')) E' s) : codeAny (model prog w) A (.forLoop target it body [] env) Rr s := by
  refine codeAny_of_tree ?_
  show wpAny _ A ((forTurn target it body [] env).onRaise (fun x => do noteFrame x env; theTreesLotGoes x)) _ _ s
  refine wpAny_noted (wpAny_bind (wpAny_standAt (wpAny_bind (wpAny_onRaise (wpAny_mono (h _) (fun r s₁ h₁ => ?_) fun _ _ h' => wpAny_standAt h')))))
  cases r with
  | none => exact wpAny_pure ⟨rfl, codeAny_block (wpAny_execs_nil h₁)⟩
  | some v => exact wpAny_bind (wpAny_mono h₁ (fun _ _ h₂ => wpAny_bind (wpAny_mono h₂ (fun _ _ h₃ => wpAny_bind (wpAny_mono h₃ (fun f s₃ h₄ => loop_end rfl h₄) fun _ _ h' => h')) fun _ _ h' => h')) fun _ _ h' => h')
noncomputable abbrev testsM (ifs : List Expr) (env : Env) : Sem Bool := forIn ifs true fun c r => if r = true then do let ok ← isTrue c env (eval c env); pure (ForInStep.yield ok) else pure (ForInStep.yield r)
theorem turn_comp {elt target iter : Expr} {ifs : List Expr} {scope : Scope} {pos : Pos} {it acc : Value}
    (h : ∀ E', wpAny (model prog w) A (pyNext it) (NextQ (model prog w) A target it env E' (Rr (.ok .next)) (wpAny (model prog w) A (testsM ifs env) (fun ok s₃ =>
            if ok = true then wpAny (model prog w) A (eval elt env) (fun x s₄ => wpAny (model prog w) A (call (.builtin "list.append") [acc, x]) (fun _ => codeAny (model prog w) A (.compLoop (.ListComp elt [⟨target, iter, ifs, 0⟩] scope pos) 0 it acc env) Rr) E' s₄) E' s₃
            else codeAny (model prog w) A (.compLoop (.ListComp elt [⟨target, iter, ifs, 0⟩] scope pos) 0 it acc env) Rr s₃) E')) E' s) :
    codeAny (model prog w) A (.compLoop (.ListComp elt [⟨target, iter, ifs, 0⟩] scope pos) 0 it acc env) Rr s := by
  refine codeAny_of_tree ?_
  show wpAny _ A ((compTurn (.ListComp elt [⟨target, iter, ifs, 0⟩] scope pos) 0 it acc env).onRaise (fun x => do noteFrame x env; theTreesLotGoes x)) _ _ s
  refine wpAny_noted (compTurn_list elt target iter ifs scope pos it acc env ▸ wpAny_bind (wpAny_standAt (wpAny_bind (wpAny_mono (h _) (fun r s₁ h₁ => ?_) fun _ _ h' => h'))))
  cases r with
  | none => exact wpAny_pure h₁
  | some v =>
    refine wpAny_bind (wpAny_mono h₁ (fun _ _ h₁' => wpAny_bind (wpAny_mono h₁' (fun _ s₂ h₂ => wpAny_bind (wpAny_mono h₂ (fun ok s₃ h₃ => ?_) fun _ _ h' => h')) fun _ _ h' => h')) fun _ _ h' => h')
    cases ok with
    | false => exact wpAny_pure ⟨rfl, h₃⟩
    | true => exact wpAny_bind (wpAny_bind (wpAny_mono h₃ (fun x s₄ h₄ => wpAny_bind (wpAny_mono h₄ (fun _ s₅ h₅ => wpAny_pure (wpAny_pure ⟨rfl, h₅⟩)) fun _ _ h' => h')) fun _ _ h' => h'))
noncomputable abbrev loud : List String := ["enumerate", "zip", "dict_itemiterator", "dict_reverseitemiterator", "odict_iterator", "itertools.zip_longest", "itertools.pairwise"]
noncomputable def Quiet (h : Heap) (I : Addr) : Prop := ∃ o T vs, h.get? I = some o ∧ o.cls = .type T ∧ o.data = .fields vs ∧ loud.contains T = false
theorem quiet_of {h : Heap} {I : Addr} {o : Obj} {T : String} {vs : Array Value} (ho : h.get? I = some o) (hc : o.cls = .type T) (hd : o.data = .fields vs) (hT : loud.contains T = false) : Quiet h I := ⟨o, T, vs, ho, hc, hd, hT⟩
theorem Quiet.there {h : Heap} {I : Addr} (q : Quiet h I) : ∃ o, h.get? I = some o := q.imp fun _ q => q.elim fun _ q => q.elim fun _ q => q.1
theorem go_quiet {tg : Expr} {I : Addr} {cv : Value} {Q : Unit → Shared → Prop} (hp : plainT tg = true) (ho : Quiet s.heap I) (q : Q () s) : wpAny (model prog w) A (letOwnedTupleGo tg (.ref I) cv) Q Er s := by
  obtain ⟨o, T, vs, ho, hc, hd, hT⟩ := ho
  refine (Bool.or_eq_true_iff.mp hp).elim (fun e => Expr.Name.elim (motive_1 := fun tg => wpAny (model prog w) A (letOwnedTupleGo tg (.ref I) cv) Q Er s) tg (Nat.eq_of_beq_eq_true e) fun _ _ => wpAny_pure q)
    (fun e => Expr.Tuple.elim (motive_1 := fun tg => wpAny (model prog w) A (letOwnedTupleGo tg (.ref I) cv) Q Er s) tg (Nat.eq_of_beq_eq_true e) fun _ _ _ => ?_)
  induction cv using Value.casesOn with
  | ref a =>
    refine wpAny_bind (wpAny_load ho ?_)
    rw [hc, hd]
    show wpAny _ _ (if (loud.contains T && _) = true then _ else pure ()) _ _ _
    rw [hT]
    exact wpAny_pure q
  | _ => exact wpAny_pure q
section
variable {I : Addr} {it : V} {j : Nat} {Q : Option Value → Shared → Prop} (P : Rep prog w h₀ R' ρ hp s.heap) (hit : ItAt prog w R' ρ hp.n s.heap I it j)
include P hit
theorem next_item (hI : I ∈ R') (off0 : h₀.get? I = none) (offI : ∀ i, i < hp.n → ρ i ≠ I) (hg : itGet hp it j = some (some v))
    (q : ∀ h' t' cv, Rep prog w h₀ R' ρ hp h' → Grow [I] ρ hp.n s.heap ρ hp.n h' → Heap.SameBut I s.heap h' → VRel R' ρ hp.n h' v cv → ItAt prog w R' ρ hp.n h' I it (j + 1) → Quiet h' I → Q (some cv) ⟨h', s.gens, s.drawn, t', s.os⟩) :
    wpAny (model prog w) A (pyNext (.ref I)) Q Er s := by
  have hX : ∀ b, b ∈ [I] → b ∈ R' := fun b z => List.mem_singleton.mp z ▸ hI
  have fin : ∀ {h' : Heap} {t' : Tok} {cv : Value}, Quiet h' I → Heap.SameBut I s.heap h' → VRel R' ρ hp.n s.heap v cv → (Grow [I] ρ hp.n s.heap ρ hp.n h' → ItAt prog w R' ρ hp.n h' I it (j + 1)) → Q (some cv) ⟨h', s.gens, s.drawn, t', s.os⟩ := fun hq hs r i =>
    have x := P.beside hI off0 offI hs.extBut (fun _ => Option.isSome_iff_exists.mpr hq.there)
    q _ _ _ x.1 x.2 hs (r.mono x.2 hX) (i x.2) hq
  induction it using V.casesOn with
  | str y =>
    obtain ⟨t, hs⟩ := hit
    set_option smartUnfolding false in refine obt hg fun _ hg => ?_
    set_option smartUnfolding false in refine obe hg (fun c hc hg => ?_) fun _ hg => nos (Option.some.inj hg)
    exact wpAny_pyNext_ascii_item hs ((List.getElem?_toArray ..).trans hc) fun h' hl' hs' => hl'.elim fun o x => fin (quiet_of x.1 x.2.1 x.2.2 (by decide)) hs' (Option.some.inj (Option.some.inj hg) ▸ .str [c] _) fun _ => ⟨t, hl'⟩
  | ref i =>
    set_option smartUnfolding false in refine obL hg fun vs hgi hg => ?_
    refine list_own P hit.1 hgi fun cvs L r => (r.nth (Option.some.inj hg)).elim fun cv e => wpAny_pyNext_list_item hit.2 L ((List.getElem?_toArray ..).trans e.1) fun h' hl' hs' => ?_
    exact hl'.elim fun o x => fin (quiet_of x.1 x.2.1 x.2.2 (by decide)) hs' e.2 fun _ => ⟨hit.1, hl'⟩
  | tup vs =>
    obtain ⟨a, hl, r⟩ := hit
    refine r.inv (P := fun ca => ca = .ref a → wpAny (model prog w) A (pyNext (.ref I)) Q Er s) (fun cvs b o kk ho hc hd off rr e => ?_) rfl
    cases e
    refine (rr.nth (Option.some.inj hg)).elim fun cv e => wpAny_pyNext_tuple_item hl ⟨_, ho, hc, _, hd⟩ ((List.getElem?_toArray ..).trans e.1) fun h' hl' hs' => ?_
    exact hl'.elim fun o x => fin (quiet_of x.1 x.2.1 x.2.2 (by decide)) hs' e.2 fun G => ⟨a, hl', r.mono G hX⟩
  | rol vs =>
    obtain ⟨a, hl, r⟩ := hit
    refine r.inv (P := fun ca => ca = .ref a → wpAny (model prog w) A (pyNext (.ref I)) Q Er s) (fun cvs b o kk ho hc hd off rr e => ?_) rfl
    cases e
    refine (rr.nth (Option.some.inj hg)).elim fun cv e => wpAny_pyNext_list_item hl ⟨_, ho, hc, _, hd⟩ ((List.getElem?_toArray ..).trans e.1) fun h' hl' hs' => ?_
    exact hl'.elim fun o x => fin (quiet_of x.1 x.2.1 x.2.2 (by decide)) hs' e.2 fun G => ⟨a, hl', r.mono G hX⟩
  | rng a b =>
    set_option smartUnfolding false in refine obf hg (fun hlt hg => ?_) fun _ hg => nos (Option.some.inj hg)
    refine wpAny_pyNext_range_item (x := a + j) (left := b - a - j) (step := 1) hit (Int.sub_sub .. ▸ Int.sub_pos_of_lt (of_decide_eq_true hlt)) fun h' hl' hs' => fin (quiet_of hl' rfl rfl (by decide)) hs' (Option.some.inj (Option.some.inj hg) ▸ .int _ _) fun _ => ?_
    show IsRangeIter h' I (a + ((j : Int) + 1)) (b - a - ((j : Int) + 1)) 1
    rw [← Int.add_assoc, ← Int.sub_sub]
    exact hl'
  | _ => exact nos hg
theorem next_none (hh : A.handled = none) (hg : itGet hp it j = some none) (q : ∀ h', Heap.ExtBut I s.heap h' → Q none ⟨h', s.gens, s.drawn, s.toks, s.os⟩) : wpAny (model prog w) A (pyNext (.ref I)) Q Er s := by
  induction it using V.casesOn with
  | str y =>
    obtain ⟨t, hs⟩ := hit
    set_option smartUnfolding false in refine obt hg fun _ hg => ?_
    set_option smartUnfolding false in exact obe hg (fun c hc hg => nos (Option.some.inj hg).symm) fun hc _ => wpAny_pyNext_ascii_end hh hs ((List.getElem?_toArray ..).trans hc) q
  | ref i =>
    set_option smartUnfolding false in refine obL hg fun vs hgi hg => ?_
    exact list_own P hit.1 hgi fun cvs L r => wpAny_pyNext_list_end hh hit.2 L ((List.getElem?_toArray ..).trans (r.nth_none (Option.some.inj hg))) q
  | tup vs =>
    obtain ⟨a, hl, r⟩ := hit
    refine r.inv (P := fun ca => ca = .ref a → wpAny (model prog w) A (pyNext (.ref I)) Q Er s) (fun cvs b o kk ho hc hd off rr e => ?_) rfl
    cases e
    exact wpAny_pyNext_tuple_end hh hl ⟨_, ho, hc, _, hd⟩ ((List.getElem?_toArray ..).trans (rr.nth_none (Option.some.inj hg))) q
  | rol vs =>
    obtain ⟨a, hl, r⟩ := hit
    refine r.inv (P := fun ca => ca = .ref a → wpAny (model prog w) A (pyNext (.ref I)) Q Er s) (fun cvs b o kk ho hc hd off rr e => ?_) rfl
    cases e
    exact wpAny_pyNext_list_end hh hl ⟨_, ho, hc, _, hd⟩ ((List.getElem?_toArray ..).trans (rr.nth_none (Option.some.inj hg))) q
  | rng a b =>
    set_option smartUnfolding false in exact obf hg (fun hlt hg => nos (Option.some.inj hg).symm) fun hlt _ => wpAny_pyNext_range_end hh hit (Int.sub_sub .. ▸ Int.sub_nonpos_of_le (Int.not_lt.mp (of_decide_eq_false hlt))) q
  | _ => exact nos hg
end
end
end
section
section
variable {prog : Program} {w : World} {K : Frag} {h₀ : Heap} {mg mb : Str → Option Value} {B : Tb} {F : Fns} {d : Nat} {fm fm' : Fm} {hp hp' : Hp} {v : V} {A : Around} {env : Env} {R R' : List Addr} {ρ ρ' : Nat → Addr} {n n' : Nat} {h h' : Heap} {s : Shared} {x : Expr} {Rr : Result → Shared → Prop} {Er : Value → Shared → Prop}
theorem ItAt.mono {X : List Addr} {I : Addr} {it : V} {j : Nat} (x : ItAt prog w R ρ n h I it j) (G : Grow X ρ n h ρ' n' h') (hX : ∀ b, b ∈ X → b ∈ R) (hI : I ∉ X) (off : ∀ i, i < n → ρ i ≠ I) : ItAt prog w R ρ' n' h' I it j := by
  have kp : ∀ o, h.get? I = some o → h'.get? I = some o := fun o e => G.keep _ _ e hI off
  induction it using V.casesOn with
  | str y => exact x.imp fun t x => x.imp fun o x => ⟨kp _ x.1, x.2⟩
  | ref i => exact ⟨Nat.lt_of_lt_of_le x.1 G.le, (G.same i x.1).symm ▸ x.2.imp fun o x => ⟨kp _ x.1, x.2⟩⟩
  | tup vs => exact x.imp fun a x => ⟨x.1.imp fun o x => ⟨kp _ x.1, x.2⟩, x.2.mono G hX⟩
  | rol vs => exact x.imp fun a x => ⟨x.1.imp fun o x => ⟨kp _ x.1, x.2⟩, x.2.mono G hX⟩
  | rng a b => exact kp _ x
  | _ => exact x.elim
theorem grow_then {X : List Addr} {ρ₀ ρ₁ ρ₂ : Nat → Addr} {n₀ n₂ : Nat} {g₀ h₁ h₂ : Heap} {hp₁ : Hp} (P₁ : Rep prog w h₀ R ρ₁ hp₁ h₁) (G : Grow X ρ₀ n₀ g₀ ρ₁ hp₁.n h₁) (H : Grow X ρ₁ hp₁.n h₁ ρ₂ n₂ h₂) : Grow X ρ₀ n₀ g₀ ρ₂ n₂ h₂ :=
  Rep.then (hp := ⟨n₀, .nil⟩) P₁ G H
theorem one_in {a : Addr} (ha : a ∈ R) : ∀ b, b ∈ [a] → b ∈ R := fun b z => List.mem_singleton.mp z ▸ ha
theorem not_one {a b : Addr} (h : a ≠ b) : a ∉ [b] := fun z => h (List.mem_singleton.mp z)
theorem flNext {P : Flow → Prop} {cf : Flow} (x : FlRel R ρ n h .next cf) (k : P .next) : P cf := by
  induction cf using Flow.casesOn with
  | next => exact k
  | _ => exact x.elim
theorem flRet {P : Flow → Prop} {cf : Flow} (x : FlRel R ρ n h (.ret v) cf) (k : ∀ cv, VRel R ρ n h v cv → P (.ret cv)) : P cf := by
  induction cf using Flow.casesOn with
  | ret cv => exact k cv x
  | _ => exact x.elim
theorem Rep.left {I : Addr} (P : Rep prog w h₀ (I :: R) ρ hp h) (off0 : h₀.get? I = none) (offI : ∀ i, i < hp.n → ρ i ≠ I) (hs : Heap.ExtBut I h h') : Rep prog w h₀ R ρ hp h' ∧ Move (I :: R) R ρ hp.n h ρ hp.n h' :=
  P.leave (X := [I]) (fun b z => .tail _ z) (fun b z => have e := List.mem_singleton.mp z; ⟨e ▸ .head _, e ▸ off0, e ▸ offI⟩) (fun b o hb e => hs b o (fun z => hb (z ▸ .head _)) e)
theorem wh_step (S : Snd prog w K h₀ F) {c : E} {b : List St} {fl : Fl} (he : whStep F d fm hp c b = some (fl, fm', hp')) {xc : Expr} {xs : List Stmt} (hc : isE env.kindOf c xc = true) (hxs : isSs env.kindOf b xs = true) (rm : Room A d) (rv : Resv h₀ R s.heap) (P : Rep prog w h₀ R ρ hp s.heap) (M : FmRel h₀ R fm env ρ hp.n s.heap)
    (k : KF prog w h₀ R ρ hp s env fl fm' hp' (fun f s' => Rr (.ok f) s')) : codeAny (model prog w) A (.whileLoop xc xs [] env) Rr s := by
  set_option smartUnfolding false in refine obp he fun q h1 hu he => turn_while fun E' => S.ts hu hc rm rv P M fun ρ₁ g₁ t₁ P₁ G₁ => ?_
  have M₁ := M.mono G₁
  have G₁' := grow_loc M G₁
  induction q using Bool.casesOn with
  | true =>
    have rv₁ := rv.mono P P₁ G₁
    refine obThn he (fun fm2 h2 hb he => ?_) fun u fm2 h2 hb he => ?_
    · exact S.ex hb hxs rm rv₁ P₁ M₁ fun ρ₂ g₂ t₂ cf P₂ G₂ M₂ f₂ => flNext (P := fun cf => LoopQ _ _ cf _) f₂ (S.wh he hc hxs rm (rv₁.mono P₁ P₂ G₂) P₂ M₂ fun ρ₃ g₃ t₃ cf P₃ G₃ M₃ f₃ => k _ _ _ _ P₃ (P₂.then (P₁.then G₁' G₂) G₃) M₃ f₃)
    · exact S.ex hb hxs rm rv₁ P₁ M₁ fun ρ₂ g₂ t₂ cf P₂ G₂ M₂ f₂ => flRet (P := fun cf => LoopQ _ _ cf _) f₂ fun cv r => kf he k _ _ _ _ P₂ (P₁.then G₁' G₂) M₂ r
  | false => exact kf he k _ _ _ .next P₁ G₁' M₁ trivial
theorem fo_step (W : Wd prog w K h₀ mg mb B) (S : Snd prog w K h₀ F) {t : Tgt} {it : V} {j : Nat} {b : List St} {fl : Fl} (he : foStep B F d fm hp t it j b = some (fl, fm', hp')) {ρ₀ : Nat → Addr} {I n₀ : Nat} {g₀ : Heap} {tg : Expr} {xs : List Stmt}
    (ht : isT env.kindOf t tg = true) (hpl : plainT tg = true) (hxs : isSs env.kindOf b xs = true) (rm : Room A d) (hIR : I ∉ R) (offI : ∀ i, i < hp.n → ρ i ≠ I) (hL : env.locals ∈ R) (rv : Resv h₀ (I :: R) s.heap) (P : Rep prog w h₀ (I :: R) ρ hp s.heap) (M : FmRel h₀ (I :: R) fm env ρ hp.n s.heap)
    (hit : ItAt prog w (I :: R) ρ hp.n s.heap I it j) (hg₀ : g₀.get? I = none) (G₀ : Grow [env.locals] ρ₀ n₀ g₀ ρ hp.n s.heap)
    (k : KO prog w h₀ R env s ρ₀ n₀ g₀ Rr fl fm' hp') : codeAny (model prog w) A (.forLoop tg (.ref I) xs [] env) Rr s := by
  have off0 : h₀.get? I = none := rv.base _ (.head _)
  have hIL : env.locals ≠ I := fun z => hIR (z ▸ hL)
  have hXI : ∀ b, b ∈ [env.locals] → b ≠ I := fun b z => List.mem_singleton.mp z ▸ hIL
  set_option smartUnfolding false in refine ob he fun o hw he => ?_
  induction o using Option.casesOn with
  | none =>
    refine turn_for fun E' => next_none P hit rm.handled hw fun g₁ hs₁ => ?_
    obtain ⟨P₄, Mv⟩ := P.left off0 offI hs₁
    exact k3 (C := KO prog w h₀ R env s ρ₀ n₀ g₀ Rr) he k _ _ _ .next P₄ (G₀.past hg₀ hXI hs₁) (M.move Mv hL (fun o e => hs₁ _ _ hIL e) (fun i a b => absurd b (Nat.not_lt.mpr a))) trivial
  | some v =>
    set_option smartUnfolding false in refine obp he fun fm2 h2 hasg he => ?_
    refine turn_for fun E' => next_item P hit (.head _) off0 offI hw fun g₁ t₁ cv P₁ G₁ hs₁ r₁ it₁ ho => go_quiet hpl ho ?_
    have M₁ := M.grow G₁ (one_in (.head _)) (not_one hIL)
    have rv₁ := rv.mono P P₁ G₁
    have nI := not_one hIL.symm
    refine ho.there.elim fun oI hoI => asg_any (s := ⟨g₁, s.gens, s.drawn, t₁, s.os⟩) W S rm rv₁ P₁ M₁ r₁ (fun ρ₂ g₂ t₂ P₂ G₂ M₂ => ?_) hasg ht
    have rv₂ := rv₁.mono P₁ P₂ G₂
    have it₂ := it₁.mono G₂ (loc_in M₁) nI offI
    have offI₂ := G₂.off hoI offI
    have hoI₂ := G₂.keep _ _ hoI nI offI
    have G02 := grow_then P₁ (G₀.past hg₀ hXI hs₁.extBut) G₂
    refine obThn he (fun fm3 h3 hb he => ?_) fun u fm3 h3 hb he => ?_
    · exact S.ex hb hxs rm rv₂ P₂ M₂ fun ρ₃ g₃ t₃ cf P₃ G₃ M₃ f₃ => flNext (P := fun cf => LoopQ _ _ cf _) f₃ (S.fo he ht hpl hxs rm hIR (G₃.off hoI₂ offI₂) hL (rv₂.mono P₂ P₃ G₃) P₃ M₃ (it₂.mono G₃ (loc_in M₂) nI offI₂) hg₀ (grow_then P₂ G02 G₃) k)
    · refine S.ex hb hxs rm rv₂ P₂ M₂ fun ρ₃ g₃ t₃ cf P₃ G₃ M₃ f₃ => flRet (P := fun cf => LoopQ _ _ cf _) f₃ fun cv r => ?_
      obtain ⟨P₄, Mv⟩ := P₃.left off0 (G₃.off hoI₂ offI₂) (fun _ _ _ e => e)
      exact k3 (C := KO prog w h₀ R env s ρ₀ n₀ g₀ Rr) he k _ _ _ _ P₄ (grow_then P₂ G02 G₃) (M₃.move Mv hL (fun o e => e) (fun i a b => absurd b (Nat.not_lt.mpr a))) (VRel.move Mv r)
end
end
section
section
variable {prog : Program} {w : World} {K : Frag} {h₀ : Heap} {mg mb : Str → Option Value} {B : Tb} {F : Fns} {d : Nat} {fm fm' : Fm} {hp hp' : Hp} {v : V} {A : Around} {env : Env} {R R' : List Addr} {ρ ρ' : Nat → Addr} {n n' : Nat} {h h' : Heap} {s : Shared} {x : Expr} {Rr : Result → Shared → Prop} {Er : Value → Shared → Prop}
theorem Grow.nil_of {X : List Addr} {ρ₀ : Nat → Addr} {n₀ : Nat} {g₀ : Heap} (G : Grow X ρ₀ n₀ g₀ ρ n h) (hX : ∀ b, b ∈ X → g₀.get? b = none) : Grow [] ρ₀ n₀ g₀ ρ n h := G.narrow (fun b z => .inr (hX b z)) (fun b z => nomatch z)
theorem Grow.to_one {ρ₀ : Nat → Addr} {n₀ : Nat} {g₀ : Heap} {a : Addr} (G : Grow [] ρ₀ n₀ g₀ ρ n h) (ha : g₀.get? a = none) : Grow [a] ρ₀ n₀ g₀ ρ n h := G.wider (fun b z => nomatch z) fun b z e => (Option.isSome_iff_exists.mp e).elim fun o q => nos (((List.mem_singleton.mp z) ▸ ha : g₀.get? b = none).symm.trans q)
theorem CoAt.mono {X : List Addr} {I D : Addr} {it : V} {j kk : Nat} {acc : List V} {cacc : List Value} (x : CoAt prog w R ρ n h I it j D acc cacc kk) (G : Grow X ρ n h ρ' n' h') (hX : ∀ b, b ∈ X → b ∈ R) (hI : I ∉ X) (hD : D ∉ X) (there : ∃ o, h.get? I = some o) : CoAt prog w R ρ' n' h' I it j D acc cacc kk :=
  ⟨x.it.mono G hX hI x.offI, there.elim fun o e => G.off e x.offI, G.off x.hD x.offD, G.keep _ _ x.hD hD x.offD, x.ra.mono G hX⟩
theorem tests_any (S : Snd prog w K h₀ F) {c : Option E} {ifs : List Expr} {b : Bool} (he : coTest F d fm hp c = some (b, hp')) (hx : isC env.kindOf c ifs = true) (rm : Room A d) (rv : Resv h₀ R s.heap) (P : Rep prog w h₀ R ρ hp s.heap) (M : FmRel h₀ R fm env ρ hp.n s.heap) {Q : Bool → Shared → Prop}
    (k : KB prog w h₀ R ρ hp s b hp' Q) : wpAny (model prog w) A (testsM ifs env) Q Er s := by
  induction c using Option.casesOn with
  | none => exact o0_e (P := fun ifs => wpAny (model prog w) A (testsM ifs env) Q Er s) hx (wpAny_tests_nil (kb he k _ _ s.toks P (.refl ..)))
  | some e => exact o1_e (P := fun ifs => wpAny (model prog w) A (testsM ifs env) Q Er s) hx fun y hy => wpAny_tests_one (S.ts he hy rm rv P M k)
theorem co_step (W : Wd prog w K h₀ mg mb B) (S : Snd prog w K h₀ F) {elt : E} {t : Tgt} {it : V} {j : Nat} {c : Option E} {acc us : List V} (he : coStep B F d fm hp elt t it j c acc = some (us, hp')) {ρ₀ : Nat → Addr} {I D n₀ kk : Nat} {g₀ : Heap} {cacc : List Value} {el tg iter : Expr} {ifs : List Expr} {scope : Scope} {pos : Pos}
    (hel : isE env.kindOf elt el = true) (ht : isT env.kindOf t tg = true) (hpl : plainT tg = true) (hif : isC env.kindOf c ifs = true) (rm : Room A d) (hIR : I ∉ R) (hL : env.locals ∈ R) (hDR : D ∈ R) (hDL : D ≠ env.locals)
    (rv : Resv h₀ (I :: R) s.heap) (P : Rep prog w h₀ (I :: R) ρ hp s.heap) (M : FmRel h₀ (I :: R) fm env ρ hp.n s.heap) (C : CoAt prog w (I :: R) ρ hp.n s.heap I it j D acc cacc kk)
    (hg₀ : g₀.get? I = none) (hgD : g₀.get? D = none) (hgL : g₀.get? env.locals = none) (G₀ : Grow [] ρ₀ n₀ g₀ ρ hp.n s.heap) (k : KC prog w h₀ R env s ρ₀ n₀ g₀ D Rr us hp') :
    codeAny (model prog w) A (.compLoop (.ListComp el [⟨tg, iter, ifs, 0⟩] scope pos) 0 (.ref I) (.ref D) env) Rr s := by
  have off0 : h₀.get? I = none := rv.base _ (.head _)
  have hIL : env.locals ≠ I := fun z => hIR (z ▸ hL)
  have hID : D ≠ I := fun z => hIR (z ▸ hDR)
  set_option smartUnfolding false in refine ob he fun o hw he => ?_
  induction o using Option.casesOn with
  | none =>
    refine turn_comp fun E' => next_none P C.it rm.handled hw fun g₁ hs₁ => ?_
    obtain ⟨P₄, Mv⟩ := P.left off0 C.offI hs₁
    exact k2 (C := KC prog w h₀ R env s ρ₀ n₀ g₀ D Rr) he k _ _ _ _ _ fm P₄ (G₀.past hg₀ (fun b z => nomatch z) hs₁) (M.move Mv hL (fun o e => hs₁ _ _ hIL e) (fun i a b => absurd b (Nat.not_lt.mpr a))) C.offD (hs₁ _ _ hID C.hD) (VRels.move Mv C.ra)
  | some v =>
    set_option smartUnfolding false in refine obp he fun fm2 h2 hasg he => ?_
    set_option smartUnfolding false in refine obp he fun q h3 hts he => ?_
    refine turn_comp fun E' => next_item P C.it (.head _) off0 C.offI hw fun g₁ t₁ cv P₁ G₁ hs₁ r₁ it₁ ho => go_quiet hpl ho ?_
    have hX₁ := one_in (R := I :: R) (.head _)
    have M₁ := M.grow G₁ hX₁ (not_one hIL)
    have rv₁ := rv.mono P P₁ G₁
    have C₁ : CoAt prog w (I :: R) ρ hp.n g₁ I it (j + 1) D acc cacc kk := ⟨it₁, C.offI, C.offD, G₁.keep _ _ C.hD (not_one hID) C.offD, C.ra.mono G₁ hX₁⟩
    refine asg_any (s := ⟨g₁, s.gens, s.drawn, t₁, s.os⟩) W S rm rv₁ P₁ M₁ r₁ (fun ρ₂ g₂ t₂ P₂ G₂ M₂ => ?_) hasg ht
    have nI := not_one hIL.symm
    have rv₂ := rv₁.mono P₁ P₂ G₂
    have C₂ := C₁.mono G₂ (loc_in M₁) nI (not_one hDL) ho.there
    have ho₂ := ho.there.imp fun o e => G₂.keep _ _ e nI C₁.offI
    have G02 := (grow_then P₁ ((G₀.past hg₀ (fun b z => nomatch z) hs₁.extBut).to_one hgL) G₂).nil_of (fun b z => List.mem_singleton.mp z ▸ hgL)
    refine tests_any (s := ⟨g₂, s.gens, s.drawn, t₂, s.os⟩) S hts hif rm rv₂ P₂ M₂ fun ρ₃ g₃ t₃ P₃ G₃ => ?_
    have rv₃ := rv₂.mono P₂ P₃ G₃
    have M₃ := M₂.mono G₃
    have G03 := grow_then P₂ G02 G₃
    have C₃ := C₂.mono G₃ (fun b z => nomatch z) (fun z => nomatch z) (fun z => nomatch z) ho₂
    have ho₃ := ho₂.imp fun o e => G₃.keep _ _ e (fun z => nomatch z) C₂.offI
    induction q using Bool.casesOn with
    | false => exact S.co he hel ht hpl hif rm hIR hL hDR hDL rv₃ P₃ M₃ C₃ hg₀ hgD hgL G03 k
    | true =>
      set_option smartUnfolding false in refine obp he fun u h4 hev he => ?_
      set_option smartUnfolding false in refine obt he fun hsh he => ?_
      refine S.ev hev hel rm rv₃ P₃ M₃ fun ρ₄ g₄ t₄ cu P₄ G₄ r₄ => ?_
      have C₄ := C₃.mono G₄ (fun b z => nomatch z) (fun z => nomatch z) (fun z => nomatch z) ho₃
      refine call_meets PySem.F.slot_list_append ⟨_, C₄.hD, rfl⟩ PySem.F.entry_list_append (PySem.F.args_list_append_2 _ _) (PySem.list_append D cacc.toArray kk cu (hsz := Nat.le_trans (Nat.le_of_eq C.ra.length) (short_fit hsh))) ⟨C₄.hD, ?_⟩
      have hD₅ := (Heap.get?_update_self (Obj.mapSeq fun z => z.push cu) C₄.hD rfl).trans (congrArg some (congrArg (PySem.W.listOf · _) (List.push_toArray cacc cu)))
      obtain ⟨P₅, G₅⟩ := P₄.beside (L := D) (.tail _ hDR) (rv.base _ (.tail _ hDR)) C₄.offD (Heap.SameBut.update ..).extBut (fun _ => Option.isSome_iff_exists.mpr ⟨_, hD₅⟩)
      have inD := one_in (R := I :: R) (.tail _ hDR)
      exact S.co (s := ⟨_, s.gens, s.drawn, t₄, s.os⟩) he hel ht hpl hif rm hIR hL hDR hDL ((rv₃.mono P₃ P₄ G₄).mono P₄ P₅ G₅) P₅ ((M₃.mono G₄).grow G₅ inD (not_one hDL.symm)) ⟨C₄.it.mono G₅ inD (not_one hID.symm) C₄.offI, C₄.offI, C₄.offD, hD₅, VRels.append (C₄.ra.mono G₅ inD) (.cons (r₄.mono G₅ inD) .nil)⟩ hg₀ hgD hgL
        ((grow_then P₃ G03 G₄).past hgD (fun b z => nomatch z) (Heap.SameBut.update ..).extBut) k
end
end
section
section
variable {prog : Program} {w : World} {K : Frag} {h₀ : Heap} {mg mb : Str → Option Value} {B : Tb} {F : Fns} {d : Nat} {fm fm' : Fm} {hp hp' : Hp} {v : V} {A : Around} {env : Env} {R R' : List Addr} {ρ ρ' : Nat → Addr} {n n' : Nat} {h h' : Heap} {s : Shared} {x : Expr} {Rr : Result → Shared → Prop} {Er : Value → Shared → Prop}
noncomputable def clCell (env : Env) (y : Str) : Addr := (env.cells.lookup y).getD 0
noncomputable def clFold (env : Env) : List (Str × NameKind) → List (Str × Addr) → List (Str × Addr)
  | [], acc => acc
  | p :: r, acc => match p.2 == NameKind.free with
    | true => clFold env r ((p.1, clCell env p.1) :: acc)
    | false => clFold env r acc
theorem cl_cell {y : Str} (h : (env.cells.lookup y).isSome = true) : env.cells.lookup y = some (clCell env y) := (Option.some_get h).symm.trans (congrArg some (Option.get_eq_getD ..))
theorem closure_go (l : List (Str × NameKind)) : ∀ acc, (∀ x ∈ l, x.2 = .free → (env.cells.lookup x.1).isSome = true) →
      (forIn l acc fun (x : Str × NameKind) (cs : List (Str × Addr)) => match x with
        | (name, kind) => if (kind == .free) = true then do let c ← cellOf env name; pure (ForInStep.yield ((name, c) :: cs)) else pure (ForInStep.yield cs) : Sem (List (Str × Addr))) = pure (clFold env l acc) := by
  induction l with
  | nil => exact fun _ _ => rfl
  | cons p r ih =>
    intro acc hl
    have ih := fun acc => ih acc fun x hx => hl x (.tail _ hx)
    rw [List.forIn_cons]
    show _ = pure (match p.2 == NameKind.free with | true => clFold env r ((p.1, clCell env p.1) :: acc) | false => clFold env r acc)
    dsimp only
    cases q : p.2 == NameKind.free with
    | true =>
      have hc : cellOf env p.1 = pure (clCell env p.1) := by unfold cellOf; rw [cl_cell (hl p (.head _) (beq_iff_eq.mp q))]
      rw [if_pos rfl, hc]
      exact ih _
    | false => exact ih _
theorem closure_eq {scope : Scope} (hf : ∀ x ∈ scope.names, x.2 = .free → (env.cells.lookup x.1).isSome = true) : closureFor scope env = pure (clFold env scope.names []) :=
  congrArg (fun z : Sem (List (Str × Addr)) => z >>= fun cs => pure cs) (closure_go scope.names [] hf)
theorem lookup_all {l : List (Str × Addr)} {y : Str} (h : ∀ p ∈ l, p.2 = clCell env p.1) (hy : ∃ c, (y, c) ∈ l) : l.lookup y = some (clCell env y) := by
  induction l with
  | nil => exact hy.elim fun _ h => nomatch h
  | cons p r ih =>
    rw [List.lookup_cons]
    cases q : y == p.1 with
    | true => exact congrArg some ((h p (.head _)).trans (congrArg _ (beq_iff_eq.mp q).symm))
    | false => exact ih (fun p hp => h p (.tail _ hp)) (hy.elim fun c hc => ⟨c, (List.mem_cons.mp hc).resolve_left fun e => Bool.false_ne_true (q.symm.trans (beq_iff_eq.mpr (congrArg Prod.fst e)))⟩)
theorem closure_at {y : Str} (l : List (Str × NameKind)) : ∀ acc, (∀ p ∈ acc, p.2 = clCell env p.1) → ((y, NameKind.free) ∈ l ∨ ∃ c, (y, c) ∈ acc) → (clFold env l acc).lookup y = some (clCell env y) := by
  induction l with
  | nil => exact fun acc h hy => lookup_all h (hy.resolve_left fun h => nomatch h)
  | cons p r ih =>
    intro acc h hy
    show List.lookup y (match p.2 == NameKind.free with | true => clFold env r ((p.1, clCell env p.1) :: acc) | false => clFold env r acc) = _
    cases q : p.2 == NameKind.free with
    | true => exact ih _ (List.forall_mem_cons.mpr ⟨rfl, h⟩) (hy.elim (fun hy => (List.mem_cons.mp hy).elim (fun e => .inr ⟨clCell env y, by cases e; exact .head _⟩) .inl) fun hy => .inr (hy.imp fun _ => .tail _))
    | false => exact ih _ h (hy.imp_left fun hy => (List.mem_cons.mp hy).resolve_left fun e => Bool.false_ne_true (q.symm.trans (congrArg (fun x : Str × NameKind => x.2 == NameKind.free) e).symm))
theorem lookup_mem {α : Type} {l : List (Str × α)} {y : Str} {k : α} (h : l.lookup y = some k) : (y, k) ∈ l := by
  induction l with
  | nil => cases h
  | cons p r ih =>
    rw [List.lookup_cons] at h
    cases q : y == p.1 with
    | true =>
      rw [q] at h
      rw [beq_iff_eq.mp q, ← Option.some.inj h]
      exact .head _
    | false =>
      rw [q] at h
      exact .tail _ (ih h)
theorem relabel_kind {kd : Kd} {scope : Scope} {y : Str} {k : NameKind} (h : compK kd scope y = some k) (hn : ∀ x ∈ scope.names, x.2 ≠ .cell) (hkk : k = .cell ∨ k = .free) : (y, NameKind.free) ∈ scope.names := by
  obtain ⟨p, hp, e⟩ := List.mem_map.mp (lookup_mem h)
  dsimp only at e
  cases q : p.2 == NameKind.free with
  | true =>
    have e1 : p.1 = y := by split at e <;> exact congrArg Prod.fst e
    rw [← e1, ← beq_iff_eq.mp q]
    exact hp
  | false =>
    rw [q] at e
    have e : p = (y, k) := e
    exact hkk.elim (fun z => absurd ((congrArg Prod.snd e).trans z) (hn p hp)) fun z => z ▸ e ▸ hp
theorem comp_kinds {kd : Kd} {scope : Scope} (h : compSc kd scope = true) : scope.kind = .function ∧ (∀ x ∈ scope.names, x.2 ≠ .cell) ∧ (∀ x ∈ scope.names, x.2 = .local → scope.names.lookup x.1 = some .local) ∧ ∀ x ∈ scope.names, x.2 = .free → kd x.1 = some .cell ∨ kd x.1 = some .free :=
  and2 h fun h1 h2 => ⟨beq_iff_eq.mp h1, fun x hx => and2 (List.all_eq_true.mp h2 x hx) fun a _ => and2 a fun a _ => bne_iff_ne.mp a, fun x hx q => and2 (List.all_eq_true.mp h2 x hx) fun a _ => and2 a fun _ b => (Bool.or_eq_true_iff.mp b).elim (fun z => absurd q (bne_iff_ne.mp z)) beq_iff_eq.mp, fun x hx q => and2 (List.all_eq_true.mp h2 x hx) fun _ b => (Bool.or_eq_true_iff.mp b).elim (fun z => absurd q (bne_iff_ne.mp z)) fun z => (Bool.or_eq_true_iff.mp z).imp beq_iff_eq.mp beq_iff_eq.mp⟩
theorem cenv_kind {scope : Scope} {C : Addr} {cl : List (Str × Addr)} (hk : env.scope.kind = .function) : (compEnvC scope cl C env).kindOf = compK env.kindOf scope := by
  funext y
  show (scope.names.map fun x => match x with | (n, k) => if (k == NameKind.free && env.scope.kind == .function && env.kindOf n == some .cell) then (n, NameKind.cell) else (n, k)).lookup y = _
  rw [hk]
  rfl
noncomputable abbrev ItQ (prog : Program) (w : World) (ρ : Nat → Addr) (n : Nat) (s : Shared) (v : V) (Q : Value → Shared → Prop) (cv : Value) : Prop := ∀ o : Obj, o.isFreed = false → (∀ R' h', h'.get? s.heap.objs.size = some o → VRel R' ρ n h' v cv → ItAt prog w R' ρ n h' s.heap.objs.size v 0) → Q (.ref s.heap.objs.size) { s with heap := s.heap.push o }
theorem small_62 {a : Int} (e : small a = true) : -(2 ^ 62) ≤ a ∧ a < 2 ^ 62 := by
  have := small_lt e
  constructor <;> lia
theorem iter_any {Q : Value → Shared → Prop} {cv : Value} (P : Rep prog w h₀ R ρ hp s.heap) (r : VRel R ρ hp.n s.heap v cv) (hc : canIter hp v = true)
    (q : ItQ prog w ρ hp.n s v Q cv) :
    wpAny (model prog w) A (pyIter cv) Q Er s := by
  unfold canIter at hc
  cases hz : itGet hp v 0 with
  | none => rw [hz] at hc; cases hc
  | some z =>
    rw [hz] at hc
    refine r.inv (P := fun cv => VRel R ρ hp.n s.heap v cv → ItQ prog w ρ hp.n s v Q cv → wpAny (model prog w) A (pyIter cv) Q Er s) ?_ r q
    induction v using V.casesOn with
    | str y =>
      intro t r q
      set_option smartUnfolding false in exact obt hz fun hp _ => wpAny_pyIter_ascii (List.all_toArray.trans hp) (q _ rfl fun R' h' ho rv => ⟨t, _, ho, rfl, rfl⟩)
    | ref i =>
      intro hi r q
      set_option smartUnfolding false in exact obL hz fun vs hg _ => list_own P hi hg fun cvs L rr => wpAny_pyIter_list L (q _ rfl fun R' h' ho rv => ⟨hi, _, ho, rfl, rfl⟩)
    | tup vs => exact fun cvs a o kk ho hc hd off rr r q => wpAny_pyIter_tuple ⟨_, ho, hc, _, hd⟩ (q _ rfl fun R' h' hoo rv => ⟨_, ⟨_, hoo, rfl, rfl⟩, rv⟩)
    | rol vs => exact fun cvs a o kk ho hc hd off rr r q => wpAny_pyIter_list ⟨_, ho, hc, _, hd⟩ (q _ rfl fun R' h' hoo rv => ⟨_, ⟨_, hoo, rfl, rfl⟩, rv⟩)
    | rng a b =>
      intro rr t u v hr off r q
      refine and2 hc fun hab hc => and2 hc fun ha hb => ?_
      have hab := of_decide_eq_true hab
      refine wpAny_pyIter_range hr (small_one (small_62 ha).1 (small_62 ha).2 (small_62 hb).1 (small_62 hb).2) (q _ rfl fun R' h' ho rv => ?_)
      show IsRangeIter h' s.heap.objs.size (a + 0) (b - a - 0) 1
      have e2 : Builtin.Range.rangeSize a b 1 = b - a := (rangeSize_one a b).trans (ite_eq_left_iff.mpr fun z => (Int.sub_eq_zero_of_eq (Int.le_antisymm (Int.not_lt.mp z) hab)).symm)
      rw [Int.add_zero, Int.sub_zero, ← e2]
      exact ho
    | _ => exact nos hz
end
end
section
section
variable {prog : Program} {w : World} {K : Frag} {h₀ : Heap} {mg mb : Str → Option Value} {B : Tb} {F : Fns} {d : Nat} {fm fm' : Fm} {hp hp' : Hp} {v : V} {A : Around} {env : Env} {R R' : List Addr} {ρ ρ' : Nat → Addr} {n n' : Nat} {h h' : Heap} {s : Shared} {x : Expr} {Rr : Result → Shared → Prop} {Er : Value → Shared → Prop}
theorem iter_self {I : Addr} {it : V} {j : Nat} {Q : Value → Shared → Prop} (x : ItAt prog w R ρ n s.heap I it j) (q : Q (.ref I) s) : wpAny (model prog w) A (pyIter (.ref I)) Q Er s := by
  induction it using V.casesOn with
  | str y => exact x.elim fun t hs => wpAny_pyIter_striter_ascii hs q
  | ref i => exact wpAny_pyIter_listiter x.2 q
  | tup vs => exact x.elim fun a x => wpAny_pyIter_tupleiter x.1 q
  | rol vs => exact x.elim fun a x => wpAny_pyIter_listiter x.1 q
  | rng a b => exact wpAny_pyIter_rangeiter x q
  | _ => exact x.elim
theorem Grow.adopt {X : List Addr} {ρ₀ ρ' : Nat → Addr} {n₀ : Nat} {g₀ : Heap} {D : Addr} (G : Grow X ρ₀ n₀ g₀ ρ n h) (sm : ∀ i, i < n → ρ' i = ρ i) (hn : ρ' n = D) (hD : g₀.get? D = none) : Grow X ρ₀ n₀ g₀ ρ' (n + 1) h :=
  ⟨Nat.le_succ_of_le G.le, fun i hi => (sm i (Nat.lt_of_lt_of_le hi G.le)).trans (G.same i hi), G.keep, fun i a b => split_n (C := fun i => n₀ ≤ i → g₀.get? (ρ' i) = none) (fun i hi a => sm i hi ▸ G.new i a hi) (fun _ => hn ▸ hD) i b a, G.live⟩
structure Fresh (h₀ : Heap) (R : List Addr) (ρ : Nat → Addr) (n : Nat) (h : Heap) (a : Addr) : Prop where
  none : h.get? a = none
  base : h₀.get? a = Option.none
  out : a ∉ R
  off : ∀ i, i < n → ρ i ≠ a
theorem not_live {h : Heap} {a : Addr} (e : h.get? a = none) (q : (h.get? a).isSome = true) {G : Prop} : G := nob ((congrArg Option.isSome e).symm.trans q)
theorem fresh_of (P : Rep prog w h₀ R ρ hp h) (rv : Resv h₀ R h) {a : Addr} (e : h.get? a = none) : Fresh h₀ R ρ hp.n h a :=
  ⟨e, Option.eq_none_iff_forall_ne_some.mpr fun o q => nos (e.symm.trans (P.keep a o q)), fun z => not_live e (rv.live _ z), fun i hi q => not_live e (q ▸ P.alive hi)⟩
theorem comp_end {C D : Addr} {h1 h2 : Hp} {ρ₁ ρ' : Nat → Addr} {g₁ h' : Heap} {t' : Tok} {cenv : Env} {us : List V} {cus : List Value} {kk' : Nat} {G : Addr → Addr → Shared → Prop} (hDC : D ≠ C) (fC : Fresh h₀ R ρ₁ h1.n g₁ C) (fD : Fresh h₀ R ρ₁ h1.n g₁ D) (rv : Resv h₀ R s.heap) (P₁ : Rep prog w h₀ R ρ₁ h1 g₁) (M₁ : FmRel h₀ R fm env ρ₁ h1.n g₁) (G₁ : Grow [] ρ hp.n s.heap ρ₁ h1.n g₁)
    (P' : Rep prog w h₀ (D :: C :: R) ρ' h2 h') (G' : Grow [] ρ₁ h1.n g₁ ρ' h2.n h') (M' : FmRel h₀ (D :: C :: R) fm' cenv ρ' h2.n h') (hl : cenv.locals = C) (offD' : ∀ i, i < h2.n → ρ' i ≠ D) (hD' : h'.get? D = some (PySem.W.listOf (List.toArray cus) kk')) (rus : VRels (D :: C :: R) ρ' h2.n h' us cus)
    (he3 : newList h2 us = some (v, hp')) (k : KU prog w h₀ R ρ hp s env fm v hp' G) : G C D ⟨h', s.gens, s.drawn, t', s.os⟩ := by
  set_option smartUnfolding false in refine obt he3 fun hs he => ?_
  obtain ⟨⟨i, hp₂⟩, e1, e2⟩ := Option.map_eq_some_iff.mp he
  obtain ⟨ρ'', P'', Mv, hiD, hil⟩ := P'.adopt (R := C :: R) (fun b hb => .tail _ hb) e1 (.head _) fD.base offD' hD' fun ρ'' Mv hn => ⟨cus, kk', rfl, rus.move Mv⟩
  obtain ⟨hb, rfl, rfl⟩ := Hp.new_some e1
  have GA := G'.adopt Mv.same hiD fD.none
  have GT := P₁.then G₁ GA
  obtain ⟨m, hns, _⟩ := M'.locs
  subst hl
  refine k2 (C := fun v hp' => KU prog w h₀ R ρ hp s env fm v hp' G) (congrArg some e2) k _ D ρ'' h' t' (Option.not_isSome_iff_eq_none.mp fun z => not_live fC.none (P₁.live G₁ z)) fC.out fC.base (split_n (C := fun i => ρ'' i ≠ cenv.locals) (fun i hi q => M'.off i hi ((Mv.same i hi).symm.trans q)) fun q => hDC (hiD.symm.trans q)) ⟨m, hns⟩ P'' GT
    ⟨List.forall_mem_cons.mpr ⟨fC.base, rv.base⟩, List.forall_mem_cons.mpr ⟨Option.isSome_iff_exists.mpr M'.there, fun a ha => P''.live GT (rv.live _ ha)⟩⟩
    ((M₁.under (fun b hb => (List.mem_cons.mp hb).elim (fun e => .inr (e ▸ fC.none)) .inl) (.tail _ M₁.resv)).mono GA) (hiD ▸ .ref _ hil)
theorem comp_core (W : Wd prog w K h₀ mg mb B) (S : Snd prog w K h₀ F) {elt it : E} {t : Tgt} {c : Option E} {u : V} {us : List V} {h1 h2 : Hp} (he1 : F.ev d fm hp it = some (u, h1)) (hci : canIter h1 u = true) (he2 : F.co d ⟨[], fm.C⟩ h1 elt t u 0 c [] = some (us, h2)) (he3 : newList h2 us = some (v, hp'))
    {el tg iter : Expr} {ifs : List Expr} {sc : Scope} {pos fpos : Pos} {use : Option (Value → Sem Unit)} {Q : Value → Shared → Prop} (hsc : compSc env.kindOf sc = true) (hel : isE (compK env.kindOf sc) elt el = true) (ht : isT (compK env.kindOf sc) t tg = true) (hit : isE env.kindOf it iter = true) (hpl : plainT tg = true)
    (hset : ∀ x, foldedSetIterable iter env x = pure x) (hif : isC (compK env.kindOf sc) c ifs = true) (rm : Room A d) (rv : Resv h₀ R s.heap) (P : Rep prog w h₀ R ρ hp s.heap) (M : FmRel h₀ R fm env ρ hp.n s.heap)
    (k : KU prog w h₀ R ρ hp s env fm v hp' fun C D s' => compPost (model prog w) A Er use Q (.ref D) C (.ok .next) s') :
    wpAny (model prog w) A (comprehension (.ListComp el [⟨tg, iter, ifs, 0⟩] sc pos) sc env fpos (PySem.newList []) false (eval iter env) use) Q Er s := by
  obtain ⟨hk, hn1, hn2, hn3⟩ := comp_kinds hsc
  refine wpAny_comprehension_free (cl := clFold env sc.names []) (use := use) rfl hset (closure_eq fun x hx hf => M.clos _ (hn3 x hx hf)) hk hn2 (S.ev he1 hit rm rv P M fun ρ₁ g₁ t₁ cu P₁ G₁ r₁ => ?_)
  refine iter_any P₁ r₁ hci fun o hof hAt => wpAny_newList (items := []) ?_ (Nat.zero_le _)
  refine wpAny_newFunctionEnv hn1 (fun y hy => nomatch hy) (fun H hns hsb => ?_) hk
  dsimp only at hns hsb ⊢
  have rv₁ := rv.mono P P₁ G₁
  have M₁ := M.mono G₁
  have fr := fun a => fresh_of (a := a) P₁ rv₁
  generalize hI : g₁.objs.size = I at *
  generalize hDe : (g₁.push o).objs.size = D at *
  generalize hCe : ((g₁.push o).push { cls := .type "list", data := .seq ([] : List Value).toArray }).objs.size = C at *
  have sD : I < D := by rw [← hDe, ← hI, Heap.size_push]; exact Nat.lt_succ_self _
  have sC : D < C := by rw [← hCe, Heap.size_push, hDe]; exact Nat.lt_succ_self _
  have at_ : ∀ {a}, I ≤ a → Fresh h₀ R ρ₁ h1.n g₁ a := fun {a} ha => fr a (Option.eq_none_iff_forall_ne_some.mpr fun oo q => Nat.not_lt.mpr ha (hI ▸ Heap.lt_size q))
  have fI := at_ (Nat.le_refl I)
  have fD := at_ (Nat.le_of_lt sD)
  have fC := at_ (Nat.le_of_lt (Nat.lt_trans sD sC))
  have keep : ∀ b oo, g₁.get? b = some oo → H.get? b = some oo := fun b oo e => hsb.extBut b oo (fun z => nos (fC.none.symm.trans (z ▸ e))) (Heap.get?_push_of_some _ (Heap.get?_push_of_some _ (Heap.get?_push_of_some _ e)))
  have hHI : H.get? I = some o := hsb.extBut I o (Nat.ne_of_lt (Nat.lt_trans sD sC)) (Heap.get?_push_of_some _ (Heap.get?_push_of_some _ (hI ▸ Heap.get?_push_size _ hof)))
  have hHD : H.get? D = some (PySem.W.listOf (List.toArray []) 0) := hsb.extBut D _ (Nat.ne_of_lt sC) (Heap.get?_push_of_some _ (hDe ▸ Heap.get?_push_size _ rfl))
  have hR' : ∀ b, b ∈ I :: D :: C :: R → b ∈ R ∨ g₁.get? b = none := List.forall_mem_cons.mpr ⟨.inr fI.none, List.forall_mem_cons.mpr ⟨.inr fD.none, List.forall_mem_cons.mpr ⟨.inr fC.none, fun _ => .inl⟩⟩⟩
  obtain ⟨P₂, G₂⟩ := (P₁.resv hR').keeps [] keep
  have rv₂ : Resv h₀ (I :: D :: C :: R) H := ⟨List.forall_mem_cons.mpr ⟨fI.base, List.forall_mem_cons.mpr ⟨fD.base, List.forall_mem_cons.mpr ⟨fC.base, rv.base⟩⟩⟩,
    List.forall_mem_cons.mpr ⟨Option.isSome_iff_exists.mpr ⟨_, hHI⟩, List.forall_mem_cons.mpr ⟨Option.isSome_iff_exists.mpr ⟨_, hHD⟩, List.forall_mem_cons.mpr ⟨Option.isSome_iff_exists.mpr (hns.imp fun _ y => y.elim fun _ y => y.elim fun _ y => y.1), fun a ha => P₂.live G₂ (rv₁.live a ha)⟩⟩⟩⟩
  have ck : (compEnvC sc (clFold env sc.names []) C env).kindOf = compK env.kindOf sc := cenv_kind M.kind
  have cell_at : ∀ y, (compEnvC sc (clFold env sc.names []) C env).kindOf y = some .cell ∨ (compEnvC sc (clFold env sc.names []) C env).kindOf y = some .free → (clFold env sc.names []).lookup y = env.cells.lookup y ∧ (env.kindOf y = some .cell ∨ env.kindOf y = some .free) := fun y hy =>
    have hin := hy.elim (fun q => relabel_kind (ck ▸ q) hn1 (.inl rfl)) fun q => relabel_kind (ck ▸ q) hn1 (.inr rfl)
    have hb := hn3 _ hin rfl
    ⟨(closure_at _ _ (fun _ hp => absurd hp List.not_mem_nil) (.inl hin)).trans (cl_cell (M.clos _ hb)).symm, hb⟩
  have M₂ : FmRel h₀ (I :: D :: C :: R) ⟨[], fm.C⟩ (compEnvC sc (clFold env sc.names []) C env) ρ₁ h1.n H :=
    ⟨hk, M.glob, M.blt, ⟨_, hns, fun x v e => nos e⟩, .tail _ (.tail _ (.head _)), fC.off, fC.base, fun x i e z => have e1 := cell_at _ z; (M₁.cells x i e e1.2).imp_right fun y => ⟨y.1, e1.1.trans y.2⟩, fun y z => have e1 := cell_at _ z; e1.1.symm ▸ M.clos _ e1.2⟩
  have it₂ := hAt _ _ hHI ((r₁.resv hR').mono G₂ (fun b z => nomatch z))
  have loop : ∀ tk, codeAny (model prog w) A (.compLoop (.ListComp el [⟨tg, iter, ifs, 0⟩] sc pos) 0 (.ref I) (.ref D) (compEnvC sc (clFold env sc.names []) C env)) (compPost (model prog w) A Er use Q (.ref D) C) ⟨H, s.gens, s.drawn, tk, s.os⟩ := fun tk =>
    S.co he2 (ck ▸ hel) (ck ▸ ht) hpl (ck ▸ hif) rm (R := D :: C :: R) (List.not_mem_cons_of_ne_of_not_mem (Nat.ne_of_lt sD) (List.not_mem_cons_of_ne_of_not_mem (Nat.ne_of_lt (Nat.lt_trans sD sC)) fI.out)) (.tail _ (.head _)) (.head _) (Nat.ne_of_lt sC) rv₂ P₂ M₂ ⟨it₂, fI.off, fD.off, hHD, .nil⟩ fI.none fD.none fC.none G₂
      fun ρ' h' t' cus kk' fm' P' G' M' offD' hD' rus => comp_end (Nat.ne_of_lt sC) fC fD rv P₁ M₁ G₁ P' G' M' rfl offD' hD' rus he3 k
  exact codeAny_compStart_list (loop _) (iter_self it₂ (loop _))
end
end
section
section
variable {prog : Program} {w : World} {K : Frag} {h₀ : Heap} {mg mb : Str → Option Value} {B : Tb} {F : Fns} {d : Nat} {fm fm' : Fm} {hp hp' : Hp} {v : V} {A : Around} {env : Env} {R R' : List Addr} {ρ ρ' : Nat → Addr} {n n' : Nat} {h h' : Heap} {s : Shared} {x : Expr} {Er : Value → Shared → Prop}
theorem Resv.tail {I : Addr} (rv : Resv h₀ (I :: R) h) : Resv h₀ R h := ⟨fun a ha => rv.base a (.tail _ ha), fun a ha => rv.live a (.tail _ ha)⟩
section
variable (W : Wd prog w K h₀ mg mb B) (S : Snd prog w K h₀ F) (rm : Room A d) (rv : Resv h₀ R s.heap) (P : Rep prog w h₀ R ρ hp s.heap) (M : FmRel h₀ R fm env ρ hp.n s.heap)
include W S rm rv P M
theorem ev_comp {elt it : E} {t : Tgt} {c : Option E} {Q : Value → Shared → Prop} (he : evStep B F d fm hp (.comp elt t it c) = some (v, hp')) (hx : isE env.kindOf (.comp elt t it c) x = true) (k : KV prog w h₀ R ρ hp s v hp' Q) : WE prog w A env Q Er s x := by
  set_option smartUnfolding false in refine obp he fun u h1 he1 he => ?_
  set_option smartUnfolding false in refine obt he fun hci he => ?_
  set_option smartUnfolding false in refine obp he fun us h2 he2 he => ?_
  refine iComp (P := WE prog w A env Q Er s) hx fun el tg iter ifs sc p hsc hel ht hit hpl hif => ?_
  refine comp_core W S he1 hci he2 he (use := none) hsc hel ht hit hpl (no_set hit) hif rm rv P M fun C D ρ₁ g₁ t₁ hC hCR hC0 offC hNs P₁ G₁ rv₁ M₁ r₁ => hNs.imp fun m hn => ⟨hn, fun h'' hs'' => ?_⟩
  have x := P₁.left hC0 offC hs''.extBut
  exact k _ _ _ _ x.1 (G₁.past hC (fun b z => nomatch z) hs''.extBut) (VRel.move x.2 r₁)
theorem us_comp {e : E} (he : evStep B F d fm hp e = some (v, hp')) {u : Value → Sem Unit} {Q : Unit → Shared → Prop} (hx : isE env.kindOf e x = true) (hl : compE e = true) (k : KU prog w h₀ R ρ hp s env fm v hp' fun C D s' => wpAny (model prog w) A (u (.ref D)) (fun _ => UQ Q C) Er s') :
    wpAny (model prog w) A (evalThenUse x env u) Q Er s := by
  induction e using E.casesOn with
  | comp elt t it c =>
    set_option smartUnfolding false in refine obp he fun uu h1 he1 he => ?_
    set_option smartUnfolding false in refine obt he fun hci he => ?_
    set_option smartUnfolding false in refine obp he fun us h2 he2 he => ?_
    refine iComp (P := fun x => wpAny (model prog w) A (evalThenUse x env u) Q Er s) hx fun el tg iter ifs sc p hsc hel ht hit hpl hif => ?_
    show wpAny _ _ (comprehension (.ListComp el [⟨tg, iter, ifs, 0⟩] sc p) sc env _ (PySem.newList []) false (eval iter env) (some u) >>= fun _ => pure ()) _ _ _
    exact wpAny_bind (comp_core W S he1 hci he2 he (use := some u) (Q := fun _ s' => wpAny (model prog w) A (pure ()) Q Er s') hsc hel ht hit hpl (no_set hit) hif rm rv P M fun C D ρ₁ g₁ t₁ hC hCR hC0 offC hNs P₁ G₁ rv₁ M₁ r₁ =>
      wpAny_mono (k C D ρ₁ g₁ t₁ hC hCR hC0 offC hNs P₁ G₁ rv₁ M₁ r₁) (fun _ s'' hq => hq.imp fun m x => ⟨x.1, fun h'' hs => wpAny_pure (x.2 h'' hs)⟩) fun _ _ z => z)
  | _ => exact nob hl
theorem ev_any {e : E} {Q : Value → Shared → Prop} (he : evStep B F d fm hp e = some (v, hp')) (hx : isE env.kindOf e x = true) (k : KV prog w h₀ R ρ hp s v hp' Q) : WE prog w A env Q Er s x := by
  induction e using E.casesOn with
  | cn => exact ev_cn he hx P k
  | cb b => exact ev_cb he hx P k
  | ci i => exact ev_ci he hx P k
  | cs t => exact ev_cs he hx P k
  | loc y => exact ev_loc he hx P M k
  | cel y => exact ev_cel he hx P M k
  | glob y => exact ev_glob W he hx rv P M k
  | attr o a => exact ev_attr W S he hx rm rv P M k
  | mcall o m args => exact ev_mcall W S he hx rm rv P M k
  | call y args => exact ev_call W S he hx rm rv P M k
  | bin op l r => exact ev_bin S he hx rm rv P M k
  | neg i => exact ev_neg he hx P k
  | mulL a r => exact ev_mulL S he hx rm rv P M k
  | not e => exact ev_not S he hx rm rv P M k
  | cmp op l r => exact ev_cmp W S he hx rm rv P M k
  | bop op es => exact ev_bop S he hx rm rv P M k
  | ite c a b => exact ev_ite S he hx rm rv P M k
  | sub o i => exact ev_sub W S he hx rm rv P M k
  | slc o lo hi => exact ev_slc W S he hx rm rv P M k
  | lst es => exact ev_lst S he hx rm rv P M k
  | tpl es => exact ev_tpl S he hx rm rv P M k
  | dct => exact ev_dct W he hx P k
  | comp elt t it c => exact ev_comp W S rm rv P M he hx k
  | raw => exact nos he
end
end
end
section
noncomputable def RawOk (prog : Program) (w : World) (h₀ : Heap) (B : Tb) : Prop :=
  ∀ {k d fm hp fl fm' hp'}, B.raw k d fm hp = some (fl, fm', hp') → ∀ {A : Around} {env : Env} {R : List Addr} {ρ : Nat → Addr} {s : Shared} {x : Stmt} {Q : Flow → Shared → Prop} {Er : Value → Shared → Prop},
    isS env.kindOf (.raw k) x = true → Room A d → Resv h₀ R s.heap → Rep prog w h₀ R ρ hp s.heap → FmRel h₀ R fm env ρ hp.n s.heap → KF prog w h₀ R ρ hp s env fl fm' hp' Q → wpAny (model prog w) A (exec x env) Q Er s
section
variable {prog : Program} {w : World} {K : Frag} {h₀ : Heap} {mg mb : Str → Option Value} {B : Tb} {F : Fns} {d : Nat} {fm fm' : Fm} {hp hp' : Hp} {v : V} {A : Around} {env : Env} {R R' : List Addr} {ρ ρ' : Nat → Addr} {n n' : Nat} {h h' : Heap} {s : Shared} {x : Expr} {Q : Flow → Shared → Prop} {Er : Value → Shared → Prop}
noncomputable abbrev TShp (t : Tgt) (tg : Expr) : Prop := (∀ env, assignEach [tg] env = [(false, assign tg env)]) ∧ (∀ el gs sc p line env, ∃ b, swapsWith (.ListComp el gs sc p) (some tg) line env = pure b) ∧ ∀ val env, (tupT t = true → (fun ts k p => swappedStores [.Tuple ts k p] val) = fun _ _ _ _ => pure none) → swappedStores [tg] val env = pure none
theorem tshape {kd : Kd} {t : Tgt} {tg : Expr} (h : isT kd t tg = true) : TShp t tg := by
  induction t using Tgt.casesOn with
  | loc y => exact iName (P := TShp _) h fun p _ _ => ⟨fun _ => rfl, fun _ _ _ _ _ _ => ⟨_, rfl⟩, fun _ _ _ => rfl⟩
  | cel y => exact iName (P := TShp _) h fun p _ _ => ⟨fun _ => rfl, fun _ _ _ _ _ _ => ⟨_, rfl⟩, fun _ _ _ => rfl⟩
  | attr o a => exact iTattr (P := TShp _) h fun _ _ _ _ => ⟨fun _ => rfl, fun _ _ _ _ _ _ => ⟨_, rfl⟩, fun _ _ _ => rfl⟩
  | sub o i => exact iTsub (P := TShp _) h fun _ _ _ _ _ _ => ⟨fun _ => rfl, fun _ _ _ _ _ _ => ⟨_, rfl⟩, fun _ _ _ => rfl⟩
  | tup xs => exact iTtup (P := TShp _) h fun es k p _ => ⟨fun _ => rfl, fun _ _ _ _ _ _ => ⟨_, rfl⟩, fun _ env q => congrFun (congrFun (congrFun (congrFun (q rfl) es) k) p) env⟩
theorem no_swap {kd : Kd} {t : Tgt} {e : E} {tg val : Expr} (T : TShp t tg) (hx : isE kd e val = true) (hs : okTE t e = true) : swappedStores [tg] val env = pure none := T.2.2 val env fun ht => no_tup hx (by
  unfold okTE at hs
  rw [ht] at hs
  exact (Bool.not_eq_true' _).mp hs)
theorem comp_swap {kd : Kd} {t : Tgt} {e : E} {tg val : Expr} {line : Nat} (T : TShp t tg) (hx : isE kd e val = true) (hc : compE e = true) : ∃ b, swapsWith val (some tg) line env = pure b := by
  induction e using E.casesOn with
  | comp => exact iComp (P := fun val => ∃ b, swapsWith val (some tg) line env = pure b) hx fun el tg' iter ifs sc p _ _ _ _ _ _ => T.2.1 _ _ _ _ _ _
  | _ => exact nob hc
section
variable (W : Wd prog w K h₀ mg mb B) (S : Snd prog w K h₀ F) (rm : Room A d) (rv : Resv h₀ R s.heap) (P : Rep prog w h₀ R ρ hp s.heap) (M : FmRel h₀ R fm env ρ hp.n s.heap)
include W S rm rv P M
section
variable {t : Tgt} {e : E} {h1 : Hp} {tg val : Expr} {pos : Pos} (he : F.ev d fm hp e = some (v, h1)) (ha : asg B F d fm h1 t v = some (fm', hp')) (ht : isT env.kindOf t tg = true) (hx : isE env.kindOf e val = true) (k : KA prog w h₀ R ρ hp s env fm' hp' (fun s' => Q .next s'))
include he ha ht hx k
theorem asg_plain (hs : swappedStores [tg] val env = pure none) : wpAny (model prog w) A (eval val env >>= fun v => swappedStores [tg] val env >>= fun sw => assignStores env v sw [assign tg env]) Q Er s := by
  refine wpAny_bind (S.ev he hx rm rv P M fun ρ₁ g₁ t₁ cv P₁ G₁ r₁ => ?_)
  rw [hs]
  refine wpAny_bind (wpAny_pure ?_)
  show wpAny _ _ (assign tg env cv >>= fun _ => pure Flow.next) _ _ _
  exact wpAny_bind (asg_any W S (s := ⟨g₁, s.gens, s.drawn, t₁, s.os⟩) rm (rv.mono P P₁ G₁) P₁ (M.mono G₁) r₁ (fun ρ₂ g₂ t₂ P₂ G₂ M₂ => wpAny_pure (k _ _ _ P₂ (grow_then P₁ (grow_loc M G₁) G₂) M₂)) ha ht)
theorem asg_use (hl : compE e = true) : wpAny (model prog w) A (evalThenUse val env (assign tg env) >>= fun _ => pure Flow.next) Q Er s := by
  refine wpAny_bind (S.us he hx hl rm rv P M fun C D ρ₁ g₁ t₁ hC hCR hC0 offC hNs P₁ G₁ rv₁ M₁ r₁ => ?_)
  refine asg_any W S (s := ⟨g₁, s.gens, s.drawn, t₁, s.os⟩) rm rv₁ P₁ M₁ r₁ (fun ρ₂ g₂ t₂ P₂ G₂ M₂ => ?_) ha ht
  have hLC : env.locals ≠ C := fun z => hCR (z ▸ M.resv)
  refine hNs.imp fun m hn => hn.elim fun oC hn => hn.elim fun esC hn => hn.elim fun epC hn => ⟨⟨oC, esC, epC, G₂.keep _ _ hn.1 (not_one hLC.symm) offC, hn.2⟩, fun h'' hs'' => wpAny_pure ?_⟩
  have x := P₂.left hC0 (G₂.off hn.1 offC) hs''.extBut
  exact k _ _ _ x.1 ((grow_then P₁ (grow_loc M G₁) G₂).past hC (fun b z => List.mem_singleton.mp z ▸ hLC) hs''.extBut) (M₂.move x.2 M.resv (fun o e => hs''.extBut _ _ hLC e) (fun i a b => absurd b (Nat.not_lt.mpr a)))
theorem st_asg (hside : okTE t e = true) : wpAny (model prog w) A (exec (.Assign [tg] val pos) env) Q Er s := by
  have T := tshape ht
  have go := asg_plain W S rm rv P M he ha ht hx k (Er := Er) (no_swap T hx hside)
  rw [exec_Assign, T.1]
  refine wpAny_bind (wpAny_standAt ?_)
  show wpAny _ _ (swapsWith val (some tg) pos.line env >>= _) _ _ _
  cases hc : compE e with
  | false =>
    rw [no_comp hx hc]
    exact wpAny_bind (wpAny_pure go)
  | true =>
    obtain ⟨b, hb⟩ := comp_swap (line := pos.line) T hx hc
    rw [hb]
    refine wpAny_bind (wpAny_pure ?_)
    cases b with
    | false => exact go
    | true => exact asg_use W S rm rv P M he ha ht hx k hc
end
end
theorem plain_env (M : FmRel h₀ R fm env ρ n h) : interactive env = false := by unfold interactive; rw [M.kind]; rfl
set_option backward.match.sparseCases true in
noncomputable abbrev SeqQ (M : Model) (A : Around) (env : Env) (ys : List Stmt) (Q : Flow → Shared → Prop) (Er : Value → Shared → Prop) (f : Flow) (s' : Shared) : Prop := match f with | .next => wpAny M A (execs ys env) Q Er s' | f => Q f s'
section
variable {fl : Fl} {l : List St} {ys : List Stmt}
theorem block (rest : ∀ {h1 : Hp} {fm1 : Fm}, F.ex d fm1 h1 l = some (fl, fm', hp') → KA prog w h₀ R ρ hp s env fm1 h1 (fun s' => wpAny (model prog w) A (execs ys env) Q Er s')) (k : KF prog w h₀ R ρ hp s env fl fm' hp' Q) {o : Option (Fl × Fm × Hp)} (he : thn o (fun fm h => F.ex d fm h l) = some (fl, fm', hp')) :
    ∃ fl1 fm1 h1, o = some (fl1, fm1, h1) ∧ KF prog w h₀ R ρ hp s env fl1 fm1 h1 (SeqQ (model prog w) A env ys Q Er) :=
  obThn he (fun fm1 h1 ho he => ⟨_, _, _, ho, fun ρ₁ g₁ t₁ cf P₁ G₁ M₁ f₁ => flNext (P := fun cf => SeqQ (model prog w) A env ys Q Er cf _) f₁ (rest he _ _ _ P₁ G₁ M₁)⟩)
    fun v fm1 h1 ho he => ⟨_, _, _, ho, fun ρ₁ g₁ t₁ cf P₁ G₁ M₁ f₁ => flRet (P := fun cf => SeqQ (model prog w) A env ys Q Er cf _) f₁ fun cv r => kf he k _ _ _ (.ret cv) P₁ G₁ M₁ r⟩
end
section
variable (W : Wd prog w K h₀ mg mb B) (S : Snd prog w K h₀ F) (rm : Room A d) (rv : Resv h₀ R s.heap) (P : Rep prog w h₀ R ρ hp s.heap) (M : FmRel h₀ R fm env ρ hp.n s.heap)
include S rm rv P M
theorem fo_empty {u : V} {cu : Value} {tg : Expr} {body : List Stmt} {Rr : Result → Shared → Prop} (hed : isED hp u = true) (r : VRel R ρ hp.n s.heap u cu) (k : KA prog w h₀ R ρ hp s env fm hp (fun s' => Rr (.ok .next) s')) : wpAny (model prog w) A (pyIter cu) (fun it s₂ => codeAny (model prog w) A (.forLoop tg it body [] env) Rr s₂) Er s := by
  refine r.inv (P := fun cu => wpAny (model prog w) A (pyIter cu) (fun it s₂ => codeAny (model prog w) A (.forLoop tg it body [] env) Rr s₂) Er s) ?_
  induction u using V.casesOn with
  | ref i =>
    intro hi
    set_option smartUnfolding false in refine obb hed fun o hg hed => ?_
    induction o using O.casesOn with
    | dict kvs =>
      refine dict_own P hi hg fun cks hs D rr => ?_
      obtain rfl : cks = [] := List.eq_nil_of_length_eq_zero (rr.length.trans (List.length_eq_zero_iff.mpr (List.isEmpty_iff.mp hed)))
      obtain ⟨od, es, ep, hod, hrest⟩ := D
      refine wpAny_pyIter_dict (knd := strKind prog w) hs ⟨od, es, hod, hrest⟩ ?_
      have hI := Heap.get?_push_size s.heap (o := { cls := .type "dict_keyiterator", data := .fields #[.ref (ρ i), .int 0 0, .int (([] : List (Str × Value)).length) 0, .int ep 0] }) rfl
      refine turn_for fun E' => wpAny_pyNext_dict_end (knd := strKind prog w) (s := ⟨_, s.gens, s.drawn, s.toks, s.os⟩) rm.handled ⟨_, hI, rfl, rfl⟩ ⟨od, es, Heap.get?_push_of_some _ hod, hrest⟩ rfl fun h' hs' => ?_
      have x := P.keeps [] (h' := h') fun b o e => hs' b o (fun q => nos ((q ▸ fresh_none s.heap : s.heap.get? b = none).symm.trans e)) (Heap.get?_push_of_some _ e)
      exact k _ _ _ x.1 (grow_loc M x.2) (M.mono x.2)
    | _ => exact nob hed
  | _ => exact nob hed
theorem fo_start {u : V} {cu : Value} {t : Tgt} {b : List St} {fl : Fl} {tg : Expr} {body : List Stmt} {Rr : Result → Shared → Prop} (hci : canIter hp u = true) (hq : F.fo d fm hp t u 0 b = some (fl, fm', hp')) (ht : isT env.kindOf t tg = true) (hpl : plainT tg = true) (hb : isSs env.kindOf b body = true) (r : VRel R ρ hp.n s.heap u cu)
    (k : KF prog w h₀ R ρ hp s env fl fm' hp' (fun f s' => Rr (.ok f) s')) : wpAny (model prog w) A (pyIter cu) (fun it s₂ => codeAny (model prog w) A (.forLoop tg it body [] env) Rr s₂) Er s := by
  refine iter_any P r hci fun o hof hAt => ?_
  have f := fresh_of P rv (fresh_none s.heap)
  have hR' : ∀ b, b ∈ s.heap.objs.size :: R → b ∈ R ∨ s.heap.get? b = none := List.forall_mem_cons.mpr ⟨.inr f.none, fun _ => .inl⟩
  obtain ⟨P₂, G₂⟩ := (P.resv hR').keeps [] (h' := s.heap.push o) fun b oo e => Heap.get?_push_of_some _ e
  have hI := Heap.get?_push_size s.heap hof
  exact S.fo hq (s := ⟨s.heap.push o, s.gens, s.drawn, s.toks, s.os⟩) ht hpl hb rm f.out f.off M.resv ⟨List.forall_mem_cons.mpr ⟨f.base, rv.base⟩, List.forall_mem_cons.mpr ⟨Option.isSome_iff_exists.mpr ⟨_, hI⟩, fun a ha => P₂.live G₂ (rv.live a ha)⟩⟩ P₂ ((M.under hR' (.tail _ M.resv)).mono G₂) (hAt _ _ hI ((r.resv hR').mono G₂ (fun b z => nomatch z))) f.none
    (grow_loc M G₂) k
include W
theorem ex_step (RW : RawOk prog w h₀ B) {l : List St} {fl : Fl} (he : exStep B F d fm hp l = some (fl, fm', hp')) {xs : List Stmt} (hx : isSs env.kindOf l xs = true) (k : KF prog w h₀ R ρ hp s env fl fm' hp' Q) : wpAny (model prog w) A (execs xs env) Q Er s := by
  induction l using List.casesOn with
  | nil => exact iSs0 (Q := fun xs => wpAny (model prog w) A (execs xs env) Q Er s) hx (wpAny_execs_nil (kf he k _ _ s.toks .next P (grow_loc M (.refl ..)) M trivial))
  | cons st l =>
    refine iSs (Q := fun xs => wpAny (model prog w) A (execs xs env) Q Er s) hx fun y ys hy hys => wpAny_execs_cons ?_
    have rest : ∀ {h1 : Hp} {fm1 : Fm}, F.ex d fm1 h1 l = some (fl, fm', hp') → KA prog w h₀ R ρ hp s env fm1 h1 (fun s' => wpAny (model prog w) A (execs ys env) Q Er s') := fun hr ρ₁ g₁ t₁ P₁ G₁ M₁ =>
      S.ex hr hys rm (rv.mono P P₁ G₁) P₁ M₁ fun ρ₂ g₂ t₂ cf P₂ G₂ M₂ f₂ => k _ _ _ _ P₂ (grow_then P₁ G₁ G₂) M₂ f₂
    induction st using St.casesOn with
    | asg t e =>
      set_option smartUnfolding false in refine obp he fun u h1 hu he => ?_
      set_option smartUnfolding false in refine obp he fun fm2 h2 ha he => ?_
      exact iAsg (P := fun y => wpAny (model prog w) A (exec y env) _ Er s) hy fun tg v p ht hv hs => st_asg W S rm rv P M hu ha ht hv (rest he) hs
    | expr e =>
      set_option smartUnfolding false in refine obp he fun u h1 hu he => ?_
      exact iExp (P := fun y => wpAny (model prog w) A (exec y env) _ Er s) hy fun v p hv hc => wpAny_Expr_any (S.ev hu hv rm rv P M fun ρ₁ g₁ t₁ cv P₁ G₁ r₁ => rest he _ _ _ P₁ (grow_loc M G₁) (M.mono G₁)) (plain_env M) (congrFun (congrFun (congrFun (no_comp hv ((Bool.not_eq_true' _).mp hc)) _) _) _)
    | ret e =>
      set_option smartUnfolding false in refine obp he fun u h1 hu he => ?_
      exact iRet (P := fun y => wpAny (model prog w) A (exec y env) _ Er s) hy fun v p hv => wpAny_Return_some (S.ev hu hv rm rv P M fun ρ₁ g₁ t₁ cv P₁ G₁ r₁ => kf he k _ _ _ (.ret cv) P₁ (grow_loc M G₁) (M.mono G₁) r₁)
    | retn => exact iRetn (P := fun y => wpAny (model prog w) A (exec y env) _ Er s) hy fun p => wpAny_Return_none (kf he k _ _ s.toks (.ret .none) P (grow_loc M (.refl ..)) M .none)
    | ifs c a b =>
      set_option smartUnfolding false in refine obp he fun q h1 hu he => ?_
      obtain ⟨fl1, fm1, h2, hq, go⟩ := block rest k he
      refine iIfs (P := fun y => wpAny (model prog w) A (exec y env) _ Er s) hy fun t y z p hc ha hb => wpAny_If (S.ts hu hc rm rv P M fun ρ₁ g₁ t₁ P₁ G₁ => ?_)
      have run := fun {b xs} hq hb => S.ex (l := b) (xs := xs) (Er := Er) (s := ⟨g₁, s.gens, s.drawn, t₁, s.os⟩) hq hb rm (rv.mono P P₁ G₁) P₁ (M.mono G₁) fun ρ₂ g₂ t₂ cf P₂ G₂ M₂ f₂ => go _ _ _ _ P₂ (grow_then P₁ (grow_loc M G₁) G₂) M₂ f₂
      induction q using Bool.casesOn with
      | true => exact run hq ha
      | false => exact run hq hb
    | whl c b =>
      obtain ⟨fl1, fm1, h2, hq, go⟩ := block rest k he
      exact iWhl (P := fun y => wpAny (model prog w) A (exec y env) _ Er s) hy fun t y p hc hb => wpAny_While (S.wh hq hc hb rm rv P M go)
    | fors t e b =>
      set_option smartUnfolding false in refine obp he fun u h1 hu he => ?_
      refine iFors (P := fun y => wpAny (model prog w) A (exec y env) _ Er s) hy fun tg it y p ht hit hb hpl => wpAny_For (S.ev hu hit rm rv P M fun ρ₁ g₁ t₁ cu P₁ G₁ r₁ => ?_) (no_set hit)
      have rv₁ := rv.mono P P₁ G₁
      have M₁ := M.mono G₁
      have G₁' := grow_loc M G₁
      set_option smartUnfolding false in refine obf he (fun hed he => ?_) fun _ he => ?_
      · exact fo_empty S rm (s := ⟨g₁, s.gens, s.drawn, t₁, s.os⟩) rv₁ P₁ M₁ hed r₁ fun ρ₂ g₂ t₂ P₂ G₂ M₂ => rest he _ _ _ P₂ (grow_then P₁ G₁' G₂) M₂
      · set_option smartUnfolding false in refine obt he fun hci he => ?_
        obtain ⟨fl1, fm1, h2, hq, go⟩ := block rest k he
        exact fo_start S rm (s := ⟨g₁, s.gens, s.drawn, t₁, s.os⟩) rv₁ P₁ M₁ hci hq ht hpl hb r₁ fun ρ₂ g₂ t₂ cf P₂ G₂ M₂ f₂ => go _ _ _ _ P₂ (grow_then P₁ G₁' G₂) M₂ f₂
    | raw q =>
      obtain ⟨fl1, fm1, h2, hq, go⟩ := block rest k he
      exact RW hq hy rm rv P M go
end
end
end
section
section
variable {prog : Program} {w : World} {K : Frag} {h₀ : Heap} {mg mb : Str → Option Value} {B : Tb} {F : Fns} {d : Nat} {fm fm' : Fm} {hp hp' : Hp} {v : V} {A : Around} {env : Env} {R R' : List Addr} {ρ ρ' : Nat → Addr} {n n' : Nat} {h h' : Heap} {s : Shared} {x : Expr} {Er : Value → Shared → Prop}
theorem memN_iff {l : List Nat} {x : Nat} : memN l x = true ↔ x ∈ l := by
  induction l with
  | nil => exact ⟨nob, fun h => nomatch h⟩
  | cons y r ih =>
    rw [List.mem_cons, ← ih]
    show (match Nat.beq y x with | true => true | false => memN r x) = true ↔ _
    cases q : Nat.beq y x with
    | true => exact ⟨fun _ => .inl (Nat.eq_of_beq_eq_true q).symm, fun _ => rfl⟩
    | false => exact ⟨.inr, fun h => h.resolve_left fun e => Bool.false_ne_true (q.symm.trans (e ▸ Nat.beq_refl y))⟩
noncomputable abbrev FrL (R : List Addr) (ρ : Nat → Addr) (n : Nat) (h : Heap) (L : List (Nat × V)) (m : Str → Option Value) : Prop := ∀ x v, Mine.getL L x = some v → x < nN ∧ ∃ cv, m (nm x) = some cv ∧ VRel R ρ n h v cv
theorem bindL_rel {kd : Kd} {cells : List Nat} {ps : List Nat} (hk : ∀ x ∈ ps, x < nN ∧ kd (nm x) = some (match memN cells x with | true => .cell | false => .local)) : ∀ {vs : List V} {cvs : List Value} {L : List (Nat × V)} {m : Str → Option Value}, VRels R ρ n h vs cvs → FrL R ρ n h L m →
    FrL R ρ n h (Mine.bindL cells ps vs L) (PySem.bindL kd ((ps.map nm).zip cvs) m) := by
  induction ps with
  | nil => exact fun _ q => q
  | cons p ps ih =>
    intro vs cvs L m r q
    obtain ⟨h1, h2⟩ := List.forall_mem_cons.mp hk
    induction vs using List.casesOn with
    | nil => exact r.inv (P := fun cvs => FrL R ρ n h L (PySem.bindL kd (((p :: ps).map nm).zip cvs) m)) q
    | cons v vs =>
      refine r.inv (P := fun cvs => FrL R ρ n h (Mine.bindL cells ps vs (match memN cells p with | true => L | false => (p, v) :: L)) (PySem.bindL kd ((nm p :: ps.map nm).zip cvs) m)) fun cv cvs r rs => ?_
      refine ih h2 (m := if kd (nm p) = some .local then _ else _) rs ?_
      rw [h1.2]
      cases memN cells p with
      | true => exact q
      | false =>
        refine fun x v e => ?_
        have e : (match Nat.beq p x with | true => some _ | false => Mine.getL L x) = some v := e
        cases z : Nat.beq p x with
        | true =>
          rw [z] at e
          exact Nat.eq_of_beq_eq_true z ▸ ⟨h1.1, cv, if_pos rfl, Option.some.inj e ▸ r⟩
        | false =>
          rw [z] at e
          obtain ⟨a, cu, b, c⟩ := q x v e
          exact ⟨a, cu, (if_neg fun q => Bool.false_ne_true (z.symm.trans (nm_inj a h1.1 q ▸ Nat.beq_refl _))).trans b, c⟩
noncomputable abbrev CeR (R : List Addr) (ρ : Nat → Addr) (n : Nat) (h : Heap) (o : Option V) (cv : Option Value) : Prop := (∀ v, o = some v → ∃ cu, cv = some cu ∧ VRel R ρ n h v cu) ∧ (o = none → cv = none)
theorem bindC_rel {kd : Kd} {c : Nat} (hc : c < nN) (hk : kd (nm c) = some .cell) {ps : List Nat} (hN : ∀ x ∈ ps, x < nN) : ∀ {vs : List V} {cvs : List Value} {o : Option V} {m : Str → Option Value}, VRels R ρ n h vs cvs → CeR R ρ n h o (m (nm c)) →
    CeR R ρ n h (argFor c ps vs o) (PySem.bindC kd ((ps.map nm).zip cvs) m (nm c)) := by
  induction ps with
  | nil => exact fun _ q => q
  | cons p ps ih =>
    intro vs cvs o m r q
    obtain ⟨h1, h2⟩ := List.forall_mem_cons.mp hN
    induction vs using List.casesOn with
    | nil => exact r.inv (P := fun cvs => CeR R ρ n h o (PySem.bindC kd (((p :: ps).map nm).zip cvs) m (nm c))) q
    | cons v vs =>
      refine r.inv (P := fun cvs => CeR R ρ n h (argFor c ps vs (match Nat.beq p c with | true => some v | false => o)) (PySem.bindC kd ((nm p :: ps.map nm).zip cvs) m (nm c))) fun cv cvs r rs => ?_
      refine ih h2 (m := if kd (nm p) = some .local then _ else _) rs ?_
      cases z : Nat.beq p c with
      | true =>
        rw [Nat.eq_of_beq_eq_true z, hk]
        exact ⟨fun u e => ⟨cv, if_pos rfl, Option.some.inj e ▸ r⟩, fun e => nos e.symm⟩
      | false =>
        have e : (if kd (nm p) = some .local then m else fun y => if y = nm p then some cv else m y) (nm c) = m (nm c) := by
          split
          · rfl
          · exact if_neg fun q => Bool.false_ne_true (z.symm.trans (nm_inj hc h1 q ▸ Nat.beq_refl _))
        exact e.symm ▸ q
theorem Move.trans {R₁ R₂ R₃ : List Addr} {ρ₁ ρ₂ ρ₃ : Nat → Addr} {n₁ n₂ n₃ : Nat} (M : Move R₁ R₂ ρ₁ n₁ h ρ₂ n₂ h) (N : Move R₂ R₃ ρ₂ n₂ h ρ₃ n₃ h) : Move R₁ R₃ ρ₁ n₁ h ρ₃ n₃ h :=
  ⟨fun b z => M.res b (N.res b z), Nat.le_trans M.le N.le, fun j hj => (N.same j (Nat.lt_of_lt_of_le hj M.le)).trans (M.same j hj), fun _ _ _ _ e => e,
    fun j x y => (Nat.lt_or_ge j n₂).elim (fun z => N.same j z ▸ M.new j x z) fun z => (N.new j z y).imp_left (M.res _)⟩
theorem CeR.move {o : Option V} {cv : Option Value} (x : CeR R' ρ n h o cv) (G : Move R' R ρ n h ρ' n' h') : CeR R ρ' n' h' o cv := ⟨fun v e => (x.1 v e).imp fun cu y => ⟨y.1, y.2.move G⟩, x.2⟩
theorem CeR.cell {o : Option V} {cv : Option Value} {a : Addr} {co : Obj} (x : CeR R ρ n h o cv) (hd : co.data = .cell cv) : ORel prog w R ρ n h a (.cell o) co := by
  induction o using Option.casesOn with
  | none => exact hd.trans (congrArg Data.cell (x.2 rfl))
  | some v => exact (x.1 v rfl).imp fun cu y => ⟨hd.trans (congrArg Data.cell y.1), y.2⟩
noncomputable abbrev CellsQ (prog : Program) (w : World) (h₀ : Heap) (R : List Addr) (ρ : Nat → Addr) (hp : Hp) (h : Heap) (addr : Nat → Addr) (cells : List Nat) (C : List (Nat × Nat)) (hp' : Hp) : Prop :=
  ∃ ρ', Rep prog w h₀ R ρ' hp' h ∧ Move (cells.map addr ++ R) R ρ hp.n h ρ' hp'.n h ∧ (∀ i, hp.n ≤ i → i < hp'.n → ρ' i ∈ cells.map addr) ∧ ∀ x i, getC C x = some i → x ∈ cells ∧ i < hp'.n ∧ addr x = ρ' i
theorem cells_any {addr : Nat → Addr} {ps : List Nat} {vs : List V} {cells : List Nat} : ∀ {hp hp' : Hp} {C : List (Nat × Nat)} {ρ : Nat → Addr}, Mine.bindC ps vs cells hp = some (C, hp') → Rep prog w h₀ (cells.map addr ++ R) ρ hp h → (cells.map addr).Nodup →
    (∀ c, c ∈ cells → h₀.get? (addr c) = none ∧ (∀ i, i < hp.n → ρ i ≠ addr c) ∧ ∃ co cv, h.get? (addr c) = some co ∧ co.data = .cell cv ∧ CeR (cells.map addr ++ R) ρ hp.n h (argFor c ps vs none) cv) → CellsQ prog w h₀ R ρ hp h addr cells C hp' := by
  induction cells with
  | nil => exact fun {hp hp' C ρ} he P _ _ => k2 (C := CellsQ prog w h₀ R ρ hp h addr []) he.symm ⟨ρ, P, ⟨fun b z => z, Nat.le_refl _, fun _ _ => rfl, fun b o _ _ e => e, fun i a b => absurd b (Nat.not_lt.mpr a)⟩, fun i a b => absurd b (Nat.not_lt.mpr a), fun x i e => nos e⟩
  | cons c cells ih =>
    intro hp hp' C ρ he P hnd hc
    dsimp only [Mine.bindC] at he
    set_option smartUnfolding false in refine obp he fun i h1 hi he => ?_
    set_option smartUnfolding false in refine obp he fun l h2 hl2 hf => ?_
    obtain ⟨⟨h0, ho, co, cv, hco, hd, hv⟩, hcs⟩ := List.forall_mem_cons.mp hc
    obtain ⟨hnd1, hnd2⟩ := List.nodup_cons.mp hnd
    obtain ⟨ρ₁, P₁, M₁, hia, hil⟩ := P.adopt (R := cells.map addr ++ R) (fun b hb => .tail _ hb) hi (.head _) h0 ho hco fun ρ'' Mv hn => (hv.move Mv).cell hd
    obtain ⟨hb, rfl, e1⟩ := Hp.new_some hi
    have en : h1.n = hp.n + 1 := congrArg Hp.n e1
    clear hi e1
    obtain ⟨ρ₂, P₂, M₂, hin, hC⟩ := ih hl2 P₁ hnd2 fun b hb => have x := hcs b hb
      ⟨x.1, en ▸ split_n (fun j hj q => x.2.1 j hj ((M₁.same j hj).symm.trans q)) (fun q => hnd1 (List.mem_map.mpr ⟨b, hb, (hia.symm.trans q).symm⟩)), x.2.2.imp fun co x => x.imp fun cv x => ⟨x.1, x.2.1, x.2.2.move M₁⟩⟩
    have e2 : ρ₂ hp.n = addr c := (M₂.same _ hil).trans hia
    refine k2 (C := CellsQ prog w h₀ R ρ hp h addr (c :: cells)) hf.symm ⟨ρ₂, P₂, M₁.trans M₂, fun j x y => (Nat.lt_or_ge j h1.n).elim (fun z => Nat.le_antisymm x (Nat.le_of_lt_succ (Nat.lt_of_lt_of_eq z en)) ▸ e2 ▸ .head _) fun z => .tail _ (hin j z y), fun x i e => ?_⟩
    have e : (match Nat.beq c x with | true => some hp.n | false => getC l x) = some i := e
    cases z : Nat.beq c x with
    | true =>
      rw [z] at e
      exact Nat.eq_of_beq_eq_true z ▸ Option.some.inj e ▸ ⟨.head _, Nat.lt_of_lt_of_le hil M₂.le, e2.symm⟩
    | false =>
      rw [z] at e
      exact (hC x i e).imp_left (.tail _)
end
end
section
noncomputable def OrcOk (prog : Program) (w : World) (h₀ : Heap) (B : Tb) : Prop :=
  ∀ {d f args hp v hp'}, B.orc d f args hp = some (v, hp') → ∀ {A : Around} {R : List Addr} {ρ : Nat → Addr} {s : Shared} {cargs : List Value} {Rr : Result → Shared → Prop},
    Room A d → Resv h₀ R s.heap → Rep prog w h₀ R ρ hp s.heap → VRels R ρ hp.n s.heap args cargs → KV prog w h₀ R ρ hp s v hp' (fun cv s' => Rr (.ok (.ret cv)) s') → codeAny (model prog w) A (.call (.ref f) ⟨cargs, []⟩) Rr s
section
variable {prog : Program} {w : World} {K : Frag} {h₀ : Heap} {mg mb : Str → Option Value} {B : Tb} {F : Fns} {d : Nat} {fm fm' : Fm} {hp hp' : Hp} {v : V} {A : Around} {env : Env} {R R' : List Addr} {ρ ρ' : Nat → Addr} {n n' : Nat} {h h' : Heap} {s : Shared} {x : Expr} {Er : Value → Shared → Prop} {Rr : Result → Shared → Prop}
theorem Room.deeper {A : Around} {d : Nat} (rm : Room A (d + 1)) (env : Env) : Room (A.deeper env) d :=
  ⟨Nat.le_trans (Nat.le_trans (Nat.le_of_eq (Nat.add_right_comm ..)) (Nat.add_le_add_left (by decide : 1 ≤ 3) _)) rm.depth, Nat.le_trans (Nat.le_trans (Nat.le_of_eq (Nat.add_right_comm ..)) (Nat.add_le_add_left (by decide : 3 ≤ 20) _)) rm.units, rm.handled⟩
theorem cellsFrom_has {names : List (Str × NameKind)} {y : Str} : ∀ {n : Nat} {acc : List (Str × Addr)}, ((y, NameKind.cell) ∈ names ∨ (acc.lookup y).isSome = true) → ((cellsFrom n names acc).lookup y).isSome = true := by
  induction names with
  | nil => exact fun h => h.resolve_left fun h => nomatch h
  | cons p r ih =>
    intro n acc h
    show ((if (p.2 == NameKind.cell) = true then cellsFrom (n + 1) r ((p.1, n) :: acc) else cellsFrom n r acc).lookup y).isSome = true
    have step : (acc.lookup y).isSome = true → (List.lookup y ((p.1, n) :: acc)).isSome = true := fun h => by
      rw [List.lookup_cons]
      cases y == p.1 with
      | true => rfl
      | false => exact h
    cases q : p.2 == NameKind.cell with
    | true => exact ih (h.elim (fun h => (List.mem_cons.mp h).elim (fun e => .inr (by rw [← e, List.lookup_cons_self]; rfl)) .inl) fun h => .inr (step h))
    | false => exact ih (h.imp_left fun h => (List.mem_cons.mp h).resolve_left fun e => Bool.false_ne_true (q.symm.trans (congrArg (fun x : Str × NameKind => x.2 == NameKind.cell) e).symm))
theorem pair_apart {l : List (Str × Addr)} (hp : l.Pairwise fun x y => x.2 ≠ y.2) {y z : Str} {a : Addr} (hy : (y, a) ∈ l) (hz : (z, a) ∈ l) : y = z := by
  induction l with
  | nil => cases hy
  | cons p r ih =>
    obtain ⟨h1, h2⟩ := List.pairwise_cons.mp hp
    exact (List.mem_cons.mp hy).elim (fun e => (List.mem_cons.mp hz).elim (fun e' => congrArg Prod.fst (e.trans e'.symm)) fun hz => absurd (congrArg Prod.snd e).symm (h1 (z, a) hz))
      fun hy => (List.mem_cons.mp hz).elim (fun e' => absurd (congrArg Prod.snd e').symm (h1 (y, a) hy)) (ih h2 hy)
theorem codeAny_calls {f : Nat} {fn : Fn} {D : FnD} (W : Wd prog w K h₀ mg mb B) (hD : FnAt K f fn D) {cargs : List Value} (hdep : A.depth < 1000) (P : Rep prog w h₀ R ρ hp s.heap) (h1 : cargs.length ≤ fn.ps.length) (h2 : fn.ps.length ≤ cargs.length + fn.dflt.length)
    (k : ∀ {cvs : List Value}, cvs = cargs ++ D.cd.drop (cargs.length + fn.dflt.length - fn.ps.length) → ∀ env, env = newEnv D.scope s.heap.objs.size mainGlobals (cellsFrom (s.heap.objs.size + 1) D.scope.names []) (D.qual ++ ".<locals>.") (some f) D.cdv none builtinsNs → ∀ H tk,
      InCallC s env.locals (PySem.bindL env.kindOf ((fn.ps.map nm).zip cvs) fun _ => none) env.cells (PySem.bindC env.kindOf ((fn.ps.map nm).zip cvs) fun _ => none) ⟨H, s.gens, s.drawn, tk, s.os⟩ → codeAny (model prog w) A (.func D.body env) Rr ⟨H, s.gens, s.drawn, tk, s.os⟩) :
    codeAny (model prog w) A (.call (.ref f) ⟨cargs, []⟩) Rr s := by
  have X := W.X.keeps P.keep
  refine codeAny_call_function (fd := D.fnv) hdep (X _ _ hD.look) rfl hD.coro hD.gen rfl (codeRec_of X hD.code) ((Looks.of_peek X (hD.bind cargs h1 h2 _)).here ?_)
  refine wpAny_newFunctionEnv_cells (s := s) hD.kind (fun p hp => ?_) fun env henv s₁ IC => ?_
  · obtain ⟨y, hy, e⟩ := List.mem_map.mp (List.of_mem_zip hp).1
    have q := (hD.ps y hy).2
    rw [← e, q]
    cases z : memN fn.cells y with
    | false => exact .inl rfl
    | true =>
      rw [z] at q
      exact .inr ⟨rfl, cellsFrom_has (.inl (lookup_mem q))⟩
  · obtain ⟨H, tk, rfl⟩ := IC.toInCall.same
    exact ⟨(W.lim.keeps P.keep).keeps IC.toInCall.keep, k rfl env henv H tk IC⟩
theorem enter_fn (W : Wd prog w K h₀ mg mb B) {f : Nat} {fn : Fn} {args vs : List V} {C : List (Nat × Nat)} {h1 : Hp} {cargs : List Value} {D : FnD} (hD : FnAt K f fn D) (ha : fullArgs fn.ps fn.dflt args = some vs) (hc : Mine.bindC fn.ps vs fn.cells hp = some (C, h1))
    (hdep : A.depth < 1000) (rv : Resv h₀ R s.heap) (P : Rep prog w h₀ R ρ hp s.heap) (r : VRels R ρ hp.n s.heap args cargs)
    (k : ∀ env ρ₁ H tk, isSs env.kindOf fn.body D.body = true → env.frame = some env.locals → s.heap.get? env.locals = none → (∀ b o, s.heap.get? b = some o → H.get? b = some o) → Resv h₀ (env.locals :: R) H → Rep prog w h₀ (env.locals :: R) ρ₁ h1 H → Grow [] ρ hp.n s.heap ρ₁ h1.n H → FmRel h₀ (env.locals :: R) ⟨Mine.bindL fn.cells fn.ps vs [], C⟩ env ρ₁ h1.n H → codeAny (model prog w) A (.func D.body env) Rr ⟨H, s.gens, s.drawn, tk, s.os⟩) :
    codeAny (model prog w) A (.call (.ref f) ⟨cargs, []⟩) Rr s := by
  set_option smartUnfolding false in refine obt ha fun hle ha => ?_
  obtain ⟨hle1, hle2⟩ := Bool.and_eq_true_iff.mp hle
  have hlen := r.length
  refine codeAny_calls W hD hdep P (hlen ▸ Nat.le_of_ble_eq_true hle1) (hlen ▸ Nat.le_of_ble_eq_true hle2) fun {cvs} ecv env henv H tk IC => ?_
  have rvs : VRels R ρ hp.n s.heap vs cvs := ecv ▸ Option.some.inj ha ▸ hlen ▸ r.append ((hD.dflt _ _ _ _).drop _)
  have hL : env.locals = s.heap.objs.size := congrArg Env.locals henv
  have hkd : env.kindOf = fun n => D.scope.names.lookup n := by rw [henv]; rfl
  have hcl : env.cells = cellsFrom (s.heap.objs.size + 1) D.scope.names [] := congrArg Env.cells henv
  have fr : ∀ {a}, env.locals ≤ a → Fresh h₀ R ρ hp.n s.heap a := fun {a} ha => fresh_of P rv (Option.eq_none_iff_forall_ne_some.mpr fun oo q => Nat.not_lt.mpr ha (hL ▸ Heap.lt_size q))
  have fL := fr (Nat.le_refl _)
  have hcell : ∀ c ∈ fn.cells, env.cells.lookup (nm c) = some (clCell env (nm c)) := fun c hc => cl_cell (hcl ▸ cellsFrom_has (.inl (lookup_mem (hD.cells c hc).2)))
  have above : ∀ c ∈ fn.cells, env.locals < clCell env (nm c) := fun c hc => IC.above _ _ (lookup_mem (hcell c hc))
  have fC := fun c hc => fr (Nat.le_of_lt (above c hc))
  have hR' : ∀ b, b ∈ fn.cells.map (fun c => clCell env (nm c)) ++ env.locals :: R → b ∈ R ∨ s.heap.get? b = none := List.forall_mem_append.mpr ⟨List.forall_mem_map.mpr fun c hc => .inr (fC c hc).none, List.forall_mem_cons.mpr ⟨.inr fL.none, fun _ => .inl⟩⟩
  obtain ⟨P₂, G₂⟩ := (P.resv hR').keeps [] IC.toInCall.keep
  have rvs₂ := (rvs.resv hR').mono G₂ (fun b z => nomatch z)
  obtain ⟨ρ₁, P₃, Mv, hin, hC⟩ := cells_any hc P₂ (List.pairwise_map.mpr (hD.cnodup.imp_of_mem fun {c c'} hc hc' hne q => hne (nm_inj (hD.cells c hc).1 (hD.cells c' hc').1 (pair_apart IC.apart (lookup_mem (hcell c hc)) (q ▸ lookup_mem (hcell c' hc'))))))
    fun c hc => ⟨(fC c hc).base, (fC c hc).off, (IC.cell _ _ (hcell c hc)).imp fun co x => ⟨_, x.1, x.2, bindC_rel (hD.cells c hc).1 (hkd ▸ (hD.cells c hc).2) (fun x hx => (hD.ps x hx).1) rvs₂ ⟨fun v e => nos e, fun _ => rfl⟩⟩⟩
  have up : ∀ i, hp.n ≤ i → i < h1.n → env.locals < ρ₁ i := fun i a b => (List.mem_map.mp (hin i a b)).elim fun c x => x.2 ▸ above c x.1
  have G₃ : Grow [] ρ hp.n s.heap ρ₁ h1.n H := ⟨Mv.le, Mv.same, G₂.keep, fun i a b => (fr (Nat.le_of_lt (up i a b))).none, fun b z => nomatch z⟩
  refine k env ρ₁ H tk (hkd ▸ hD.is) (by rw [henv]; rfl) fL.none IC.toInCall.keep ⟨List.forall_mem_cons.mpr ⟨fL.base, rv.base⟩, List.forall_mem_cons.mpr ⟨IC.toInCall.ns.elim fun o x => x.elim fun _ x => x.elim fun _ x => Option.isSome_iff_exists.mpr ⟨o, x.1⟩, fun a ha => P₃.live G₃ (rv.live a ha)⟩⟩ P₃ G₃
    ⟨(congrArg (fun e : Env => e.scope.kind) henv).trans hD.kind, congrArg Env.globals henv, congrArg Env.builtins henv, ⟨_, IC.toInCall.ns, bindL_rel (hkd ▸ hD.ps) (rvs₂.move Mv) fun x v e => nos e⟩, .head _,
      fun i hi q => (Nat.lt_or_ge i hp.n).elim (fun z => fL.off i z ((Mv.same i z).symm.trans q)) fun z => Nat.ne_of_gt (up i z hi) q, fL.base, fun x i e _ => have y := hC x i e; ⟨(hD.cells x y.1).1, y.2.1, (hcell x y.1).trans (congrArg some y.2.2)⟩,
      fun y hy => (congrFun hkd y ▸ hy : D.scope.names.lookup y = some .cell ∨ D.scope.names.lookup y = some .free).elim (fun hy => hcl ▸ cellsFrom_has (.inl (lookup_mem hy))) fun hy => absurd rfl (hD.nofree _ (lookup_mem hy))⟩
theorem cl_fn (W : Wd prog w K h₀ mg mb B) (S : Snd prog w K h₀ F) {f : Nat} {fn : Fn} {args : List V} {cargs : List Value} (hf : B.fn f = some fn) (he : clFn F d fn args hp = some (v, hp'))
    (rm : Room A (d + 1)) (rv : Resv h₀ R s.heap) (P : Rep prog w h₀ R ρ hp s.heap) (r : VRels R ρ hp.n s.heap args cargs) (k : KV prog w h₀ R ρ hp s v hp' (fun cv s' => Rr (.ok (.ret cv)) s')) : codeAny (model prog w) A (.call (.ref f) ⟨cargs, []⟩) Rr s := by
  set_option smartUnfolding false in refine ob he fun vs ha he => ?_
  set_option smartUnfolding false in refine obp he fun C h1 hc he => ?_
  set_option smartUnfolding false in refine ob3 he fun fl fm2 h2 hq he => ?_
  refine (W.fn _ _ hf).elim fun D hD => enter_fn W hD ha hc (Nat.lt_of_le_of_lt (Nat.le_trans (Nat.le_add_right _ _) rm.depth) (by decide)) rv P r fun env ρ₁ H tk hb _ hn _ rv₁ P₁ G₁ M₁ => codeAny_func (S.ex hq hb (rm.deeper env) rv₁ P₁ M₁ fun ρ₂ g₂ t₂ cf P₂ G₂ M₂ f₂ => ?_)
  have x := P₂.left (rv₁.base _ (.head _)) M₂.off (fun _ _ _ e => e)
  have fin := fun cv r => kv he k _ _ t₂ cv x.1 ((grow_then P₁ (G₁.to_one hn) G₂).nil_of (fun b z => List.mem_singleton.mp z ▸ hn)) r
  induction fl using Fl.casesOn with
  | next => induction cf using Flow.casesOn with
    | next => exact fin _ .none
    | _ => exact f₂.elim
  | ret u => induction cf using Flow.casesOn with
    | ret cv => exact fin _ (VRel.move x.2 f₂)
    | _ => exact f₂.elim
end
end
section
section
variable {prog : Program} {w : World} {K : Frag} {h₀ : Heap} {mg mb : Str → Option Value} {B : Tb} {F : Fns} {d : Nat} {fm fm' : Fm} {hp hp' : Hp} {v : V} {A : Around} {env : Env} {R R' : List Addr} {ρ ρ' : Nat → Addr} {n n' : Nat} {h h' : Heap} {s : Shared} {x : Expr} {Er : Value → Shared → Prop} {Rr : Result → Shared → Prop}
theorem call_units (as : Args) : Nat.ble (Code.cUnits (.builtin "type.__call__" as)) 20 = true := by kernel_rfl
theorem Room.under {A : Around} {d : Nat} (rm : Room A (d + 1)) (args : List Value) (C : Addr) : Room (A.under (.builtin "type.__call__" ⟨.ref C :: args, []⟩)) d :=
  ⟨Nat.le_trans (Nat.le_trans (Nat.le_of_eq (Nat.add_right_comm ..)) (Nat.add_le_add_left (by decide : 1 ≤ 3) _)) rm.depth, Nat.le_trans (Nat.le_trans (Nat.le_of_eq (Nat.add_right_comm ..)) (Nat.add_le_add_left (Nat.le_of_ble_eq_true (call_units _)) _)) rm.units, rm.handled⟩
theorem nm_init : nm 181 = ("__init__" : Str) := by decide +kernel
theorem cl_cls (W : Wd prog w K h₀ mg mb B) (S : Snd prog w K h₀ F) {f : Nat} {ms : List (Nat × Nat)} {args : List V} {cargs : List Value} (hm : B.cls f = some ms) (he : clCls F d f ms args hp = some (v, hp')) (rm : Room A (d + 1)) (rv : Resv h₀ R s.heap) (P : Rep prog w h₀ R ρ hp s.heap) (r : VRels R ρ hp.n s.heap args cargs) (k : KV prog w h₀ R ρ hp s v hp' (fun cv s' => Rr (.ok (.ret cv)) s')) : codeAny (model prog w) A (.call (.ref f) ⟨cargs, []⟩) Rr s := by
  set_option smartUnfolding false in refine ob he fun init hi he => ?_
  set_option smartUnfolding false in refine obp he fun i h1 e1 he => ?_
  set_option smartUnfolding false in refine obp he fun j h2 e2 he => ?_
  set_option smartUnfolding false in refine obp he fun u h3 e3 he => ?_
  obtain ⟨hh, g, dr, t, os⟩ := s
  have X := W.X.keeps P.keep
  have C := W.cls _ _ hm
  obtain ⟨_, hf1, hf2, _⟩ := C.meth _ _ hi
  rw [nm_init] at hf1
  refine make_core (makes_of X C.makes) (looks_findIn X hf1) (fun self => bind_fn X self (beq_iff_eq.mp hf2)) (.inl rfl) ?_
  obtain ⟨ρ₁, P₁, G₁, hi1, hl1⟩ := P.alloc (h' := hh.push emptyDict) e1 (fresh_none hh) (fun b o e => Heap.get?_push_of_some _ e) (Heap.get?_push_size _ rfl) fun ρ' G _ => ⟨[], 0, rfl, .nil⟩
  have hsz : (hh.push emptyDict).objs.size = hh.objs.size + 1 := Heap.size_push ..
  obtain ⟨ρ₂, P₂, G₂, hi2, hl2⟩ := P₁.alloc (h' := (hh.push emptyDict).push (instObj f hh.objs.size)) (a := hh.objs.size + 1) e2 (hsz ▸ fresh_none (hh.push emptyDict)) (fun b o e => Heap.get?_push_of_some _ e) (hsz ▸ Heap.get?_push_size _ rfl) fun ρ' G _ => ⟨Nat.lt_succ_of_lt hl1, by rw [G.same i hl1, hi1]⟩
  have G12 := P₁.then G₁ G₂
  refine S.cl (s := ⟨(hh.push emptyDict).push (instObj f hh.objs.size), g, dr, t, os⟩) e3 (rm.under cargs f) (rv.mono P P₂ G12) P₂ (.cons (hi2 ▸ .ref j hl2) (r.mono G12 (fun b z => nomatch z))) fun ρ₃ g₃ t₃ cv P₃ G₃ r₃ => ?_
  refine r₃.inv (P := fun cv => cv = .none ∧ _) ?_
  induction u using V.casesOn with
  | none =>
    have := kv he k ρ₃ g₃ t₃ (.ref (ρ₃ j)) P₃ (P₂.then G12 G₃) (.ref j (Nat.lt_of_lt_of_le hl2 G₃.le))
    rw [G₃.same j hl2, hi2] at this
    exact ⟨rfl, this⟩
  | _ => exact nos he
theorem cl_step (W : Wd prog w K h₀ mg mb B) (O : OrcOk prog w h₀ B) (S : Snd prog w K h₀ F) {f : Nat} {args : List V} {cargs : List Value} (he : clStep B F d f args hp = some (v, hp')) (rm : Room A d) (rv : Resv h₀ R s.heap) (P : Rep prog w h₀ R ρ hp s.heap) (r : VRels R ρ hp.n s.heap args cargs)
    (k : KV prog w h₀ R ρ hp s v hp' (fun cv s' => Rr (.ok (.ret cv)) s')) : codeAny (model prog w) A (.call (.ref f) ⟨cargs, []⟩) Rr s := by
  set_option smartUnfolding false in refine obe he (fun q hq he => ?_) fun _ he => ?_
  · exact O (hq.trans he) rm rv P r k
  · induction d using Nat.casesOn with
    | zero => exact nos he
    | succ d =>
      set_option smartUnfolding false in refine obe he (fun fn hf he => cl_fn W S hf he rm rv P r k) fun _ he => ?_
      set_option smartUnfolding false in exact ob he fun ms hm he => cl_cls W S hm he rm rv P r k
theorem snd_all (W : Wd prog w K h₀ mg mb B) (O : OrcOk prog w h₀ B) (RW : RawOk prog w h₀ B) (n : Nat) : Snd prog w K h₀ (run B n) := by
  induction n with
  | zero => exact ⟨fun e => nos e, fun e => nos e, fun e => nos e, fun e => nos e, fun e => nos e, fun e => nos e, fun e => nos e, fun e => nos e⟩
  | succ n S =>
    exact ⟨fun he _ _ _ _ _ _ _ _ hx rm rv P M k => ev_any W S rm rv P M he hx k, fun he => ts_any W S he, fun he => cl_step W O S he, fun he _ _ _ _ _ _ _ _ hx rm rv P M k => ex_step W S rm rv P M RW he hx k, fun he => wh_step S he, fun he => fo_step W S he, fun he => co_step W S he, fun he _ _ _ _ _ _ _ _ _ hx hl rm rv P M k => us_comp W S rm rv P M he hx hl k⟩
end
end
section
theorem peek_bind {K : Frag} {S : Setting} {α β : Type} (m : Sem α) (g : α → Sem β) : peek K S (m >>= g) = (peek K S m).bind fun a => peek K S (g a) := by
  show peek K S (m.bind g) = _
  induction m with
  | pure a => rfl
  | rule _ k ih => exact ih ()
  | point _ k ih => exact ih ()
  | ask k ih => exact ih S
  | load a p k ih =>
    have e : ∀ {γ : Type} (k : Obj → Sem γ), peek K S (.load a p k) = (K.lookup a).bind fun o => peek K S (k o) := fun k => by
      conv => lhs; unfold peek
      cases K.lookup a <;> rfl
    show peek K S (.load a p fun o => (k o).bind g) = _
    rw [e, e]
    cases K.lookup a with
    | none => rfl
    | some o => exact ih o
  | _ => rfl
theorem spb {α β : Type} (a : α) (f : α → Sem β) : (pure a >>= f) = f a := rfl
theorem lookup_zip {y : Str} {P : List Str} : ∀ {cs : List Value} {k : Nat}, P.Nodup → P[k]? = some y → (P.zip cs).lookup y = cs[k]? := by
  induction P with
  | nil => exact fun _ e => nos e
  | cons p P ih =>
    intro cs k hn e
    obtain ⟨h1, h2⟩ := List.nodup_cons.mp hn
    cases cs with
    | nil => rfl
    | cons c cs =>
      rw [List.zip_cons_cons, List.lookup_cons]
      cases k with
      | zero => rw [show p = y from Option.some.inj e, beq_self_eq_true]; rfl
      | succ k => rw [beq_false_of_ne fun (z : y = p) => h1 (z ▸ List.mem_of_getElem? (i := k) e)]; exact ih h2 e
noncomputable def fillD : List (Str × Value) → List (Str × Value) → List (Str × Value)
  | [], sl => sl
  | p :: l, sl => fillD l (match (sl.lookup p.1).isNone with
    | true => sl ++ [p]
    | false => sl)
theorem fill_loop {l : List (Str × Value)} : ∀ {sl : List (Str × Value)}, (forIn l sl fun (x : Str × Value) (slots : List (Str × Value)) => if (slots.lookup x.1).isNone = true then (pure (ForInStep.yield (slots ++ [(x.1, x.2)])) : Sem _) else pure (ForInStep.yield slots)) = pure (fillD l sl) := by
  induction l with
  | nil => exact rfl
  | cons p l ih =>
    intro sl
    rw [List.forIn_cons]
    show _ = pure (fillD l (match (sl.lookup p.1).isNone with | true => sl ++ [p] | false => sl))
    cases (sl.lookup p.1).isNone with
    | true => exact ih
    | false => exact ih
theorem lookup_fill {y : Str} {l : List (Str × Value)} : ∀ {sl : List (Str × Value)}, (fillD l sl).lookup y = (sl.lookup y).or (l.lookup y) := by
  induction l with
  | nil => exact Option.or_none.symm
  | cons p l ih =>
    intro sl
    show (fillD l (match (sl.lookup p.1).isNone with | true => sl ++ [p] | false => sl)).lookup y = _
    rw [ih, List.lookup_cons]
    cases q : (sl.lookup p.1).isNone with
    | true =>
      rw [List.lookup_append, Option.or_assoc, List.lookup_cons]
      cases y == p.1 <;> rfl
    | false =>
      cases z : y == p.1 with
      | true =>
        rw [beq_iff_eq.mp z]
        cases w : sl.lookup p.1 with
        | none => rw [w] at q; cases q
        | some _ => rfl
      | false => rfl
theorem filterMap_zip {f : Str → Option (Str × Value)} {P : List Str} : ∀ {X : List Value}, P.length = X.length → (∀ (k : Nat) (y : Str) (v : Value), P[k]? = some y → X[k]? = some v → f y = some (y, v)) → P.filterMap f = P.zip X := by
  induction P with
  | nil => exact fun _ _ => rfl
  | cons p P ih =>
    intro X h hf
    cases X with
    | nil => cases h
    | cons x X => rw [List.filterMap_cons, hf 0 p x rfl rfl]; exact congrArg ((p, x) :: ·) (ih (Nat.succ.inj h) fun k => hf (k + 1))
theorem peek_else {K : Frag} {S : Setting} {α : Type} {c : Prop} [Decidable c] {t e : Sem α} {r : Option α} (h : ¬ c) (q : peek K S e = r) : peek K S (if c then t else e) = r := (congrArg (peek K S) (if_neg h)).trans q
theorem bind_peek {K : Frag} {S : Setting} {name qual : Str} {body : List Stmt} {scope : Scope} {dV kV doc pm cdv ct : Value} {an : Option Addr} {as : List Arg} {dfs : List Expr} {it : Option (Array Value)} (hd : peek K S (seqItems? dV) = some it) (hnd : (as.map (·.arg)).Nodup)
    (cs : List Value) (h1 : cs.length ≤ (as.map (·.arg)).length) (h2 : (as.map (·.arg)).length ≤ cs.length + (it.getD #[]).toList.length) (h3 : (it.getD #[]).toList.length ≤ (as.map (·.arg)).length) :
    peek K S (bindArgs (fnOf name qual ⟨[], as, none, [], [], none, dfs⟩ body scope dV kV doc pm an cdv ct) ⟨cs, []⟩) = some ((as.map (·.arg)).zip (cs ++ (it.getD #[]).toList.drop (cs.length + (it.getD #[]).toList.length - (as.map (·.arg)).length))) := by
  unfold bindArgs fnOf
  dsimp only [List.map_nil, List.nil_append, List.forIn_nil, spb]
  rw [peek_bind, hd]
  dsimp only [Option.bind_some]
  generalize (it.getD #[]).toList = dfl at *
  generalize hP : as.map (·.arg) = P at *
  have e0 : dfl.length - P.length = 0 := Nat.sub_eq_zero_of_le h3
  have e1 : dfl.drop (dfl.length - P.length) = dfl := e0 ▸ rfl
  clear e0
  refine peek_else (fun z => and2 z fun z _ => Nat.not_lt.mpr (hP ▸ h1) (of_decide_eq_true z)) (peek_else (fun z => ?_) ?_)
  · have c2 : List.filter (fun n => ((P.zip cs).lookup n).isNone) (P.take (P.length - (dfl.drop (dfl.length - P.length)).length)) = [] := by
      rw [e1]
      refine List.filter_eq_nil_iff.mpr fun y hy => ?_
      obtain ⟨k, hk⟩ := List.getElem?_of_mem hy
      rw [List.getElem?_take] at hk
      split at hk
      · rename_i hlt
        rw [lookup_zip hnd hk, List.getElem?_eq_getElem (Nat.lt_of_lt_of_le hlt (Nat.sub_le_iff_le_add.mpr h2))]
        exact Bool.false_ne_true
      · cases hk
    exact nob ((congrArg (fun l : List Str => !l.isEmpty) c2).symm.trans z)
  · refine (congrArg (fun z : Sem (List (Str × Value)) => peek K S (z >>= fun s => pure (List.filterMap (fun n => (List.lookup n s).map (n, ·)) (P ++ [])))) (fill_loop (l := (P.drop (P.length - (dfl.drop (dfl.length - P.length)).length)).zip (dfl.drop (dfl.length - P.length))) (sl := P.zip cs))).trans ?_
    show some (List.filterMap _ (P ++ [])) = some _
    rw [e1, List.append_nil]
    obtain ⟨c, hc⟩ := Nat.exists_eq_add_of_le h1
    obtain ⟨e, he⟩ := Nat.exists_eq_add_of_le h2
    obtain ⟨f, hf⟩ := Nat.exists_eq_add_of_le h3
    have hb : dfl.length = c + e := Nat.add_left_cancel (he.trans (hc ▸ Nat.add_assoc ..))
    have ea : f + e = cs.length := Nat.add_left_cancel (n := c) (by rw [Nat.add_comm f, ← Nat.add_assoc, ← hb, ← hf, hc, Nat.add_comm])
    rw [he, Nat.add_sub_cancel_left, show P.length - dfl.length = f from Nat.sub_eq_of_eq_add' hf]
    refine congrArg some (filterMap_zip (by rw [List.length_append, List.length_drop, hb, Nat.add_sub_cancel]; exact hc) fun k y v h4 h5 => ?_)
    rw [lookup_fill, lookup_zip hnd h4]
    refine (congrArg (Option.map fun x => (y, x)) (?_ : _ = some v))
    rw [List.getElem?_append] at h5
    split at h5
    · rw [h5]; rfl
    · rename_i hg
      obtain ⟨j, rfl⟩ := Nat.exists_eq_add_of_le (Nat.not_lt.mp hg)
      rw [Nat.add_sub_cancel_left, List.getElem?_drop] at h5
      rw [List.getElem?_eq_none (Nat.le_add_right _ _), Option.none_or, lookup_zip (k := e + j) (hnd.sublist (List.drop_sublist _ _)) (by rw [List.getElem?_drop, ← Nat.add_assoc, ea]; exact h4)]
      exact h5
end
section
noncomputable def flatOk (v : V) (cv : Value) : Bool := match v with
  | .none => match cv with
    | .none => true
    | _ => false
  | .int i => match cv with
    | .int j _ => decide (i = j)
    | _ => false
  | .str s => match cv with
    | .str t _ => seqB t.cps.toList s
    | _ => false
  | .glb a => match cv with
    | .ref b => Nat.beq a b
    | _ => false
  | .typ k => match cv with
    | .type n => n == typName k
    | _ => false
  | .bi k => match cv with
    | .builtin n => n == biName k
    | _ => false
  | _ => false
theorem flatOk_rel {R : List Addr} {ρ : Nat → Addr} {n : Nat} {h : Heap} : ∀ {v : V} {cv : Value}, flatOk v cv = true → VRel R ρ n h v cv := by
  intro v cv e
  unfold flatOk at e
  split at e
  · split at e
    · exact .none
    · cases e
  · split at e
    · rw [of_decide_eq_true e]; exact .int ..
    · cases e
  · split at e
    · rename_i s _ t tk
      have : t = toStr s := by
        have := seqB_iff.mp e
        unfold toStr
        rw [← this]
      rw [this]; exact .str ..
    · cases e
  · split at e
    · rw [Nat.eq_of_beq_eq_true e]; exact .glb ..
    · cases e
  · split at e
    · rw [beq_iff_eq.mp e]; exact .typ ..
    · cases e
  · split at e
    · rw [beq_iff_eq.mp e]; exact .bi ..
    · cases e
  · cases e
noncomputable def flatsOk : List V → List Value → Bool
  | [], [] => true
  | v :: r, c :: t => flatOk v c && flatsOk r t
  | _, _ => false
theorem flatsOk_rel {R : List Addr} {ρ : Nat → Addr} {n : Nat} {h : Heap} : ∀ {vs : List V} {cvs : List Value}, flatsOk vs cvs = true → VRels R ρ n h vs cvs
  | [], [], _ => .nil
  | v :: r, c :: t, e => by
    simp only [flatsOk, Bool.and_eq_true] at e
    exact .cons (flatOk_rel e.1) (flatsOk_rel e.2)
  | [], _ :: _, e => by simp [flatsOk] at e
  | _ :: _, [], e => by simp [flatsOk] at e
section
variable (K : Frag)
noncomputable def tupIn (cv : Value) : Option (List Value) := match cv with
  | .ref a => match K.lookup a with
    | some o => match o.cls with
      | .type c => match c == "tuple" with
        | true => match o.data with
          | .seq xs _ => some xs.toList
          | _ => none
        | false => none
      | _ => none
    | none => none
  | _ => none
mutual
noncomputable def litOk (v : V) (cv : Value) : Bool := match v with
  | .tup vs => match tupIn K cv with
    | some cvs => litsOk vs cvs
    | none => false
  | v => flatOk v cv
noncomputable def litsOk (vs : List V) (cvs : List Value) : Bool := match vs with
  | [] => cvs.isEmpty
  | v :: r => match cvs with
    | c :: t => litOk v c && litsOk r t
    | [] => false
end
end
theorem tupIn_some {K : Frag} {h₀ : Heap} (X : K.In h₀) {cv : Value} {cvs : List Value} (e : tupIn K cv = some cvs) : ∃ a o k, cv = .ref a ∧ h₀.get? a = some o ∧ o.cls = .type "tuple" ∧ o.data = .seq cvs.toArray k := by
  unfold tupIn at e
  split at e
  · rename_i a
    split at e
    · rename_i o ho
      split at e
      · rename_i c hc
        split at e
        · rename_i hq
          split at e
          · rename_i xs k hd
            cases e
            exact ⟨a, o, k, rfl, X _ _ ho, by rw [hc, beq_iff_eq.mp hq], by rw [hd]⟩
          · cases e
        · cases e
      · cases e
    · cases e
  · cases e
mutual
theorem litOk_rel {K : Frag} {h₀ : Heap} (X : K.In h₀) {R : List Addr} {ρ : Nat → Addr} {n : Nat} {h : Heap} (hb : ∀ b o, h₀.get? b = some o → h.get? b = some o) (hρ : ∀ i, i < n → h₀.get? (ρ i) = none) (hR : ∀ a, a ∈ R → h₀.get? a = none) :
    ∀ (v : V) {cv : Value}, litOk K v cv = true → VRel R ρ n h v cv
  | .tup vs, cv, e => by
    unfold litOk at e
    split at e
    · rename_i cvs hc
      obtain ⟨a, o, k, rfl, ho, h1, h2⟩ := tupIn_some X hc
      exact .tup (hb _ _ ho) h1 h2 ⟨(fun i hi z => by have := hρ i hi; rw [z, ho] at this; cases this), (fun z => by have := hR _ z; rw [ho] at this; cases this)⟩ (litsOk_rel X hb hρ hR vs e)
    · cases e
  | .none, cv, e => flatOk_rel (by simpa [litOk] using e)
  | .bool _, cv, e => flatOk_rel (by simpa [litOk] using e)
  | .int _, cv, e => flatOk_rel (by simpa [litOk] using e)
  | .str _, cv, e => flatOk_rel (by simpa [litOk] using e)
  | .ref _, cv, e => flatOk_rel (by simpa [litOk] using e)
  | .glb _, cv, e => flatOk_rel (by simpa [litOk] using e)
  | .typ _, cv, e => flatOk_rel (by simpa [litOk] using e)
  | .bi _, cv, e => flatOk_rel (by simpa [litOk] using e)
  | .rng _ _, cv, e => flatOk_rel (by simpa [litOk] using e)
  | .rol _, cv, e => flatOk_rel (by simpa [litOk] using e)
  | .rin _ _, cv, e => flatOk_rel (by simpa [litOk] using e)
  | .edc, cv, e => flatOk_rel (by simpa [litOk] using e)
  | .row _, cv, e => flatOk_rel (by simpa [litOk] using e)
theorem litsOk_rel {K : Frag} {h₀ : Heap} (X : K.In h₀) {R : List Addr} {ρ : Nat → Addr} {n : Nat} {h : Heap} (hb : ∀ b o, h₀.get? b = some o → h.get? b = some o) (hρ : ∀ i, i < n → h₀.get? (ρ i) = none) (hR : ∀ a, a ∈ R → h₀.get? a = none) :
    ∀ (vs : List V) {cvs : List Value}, litsOk K vs cvs = true → VRels R ρ n h vs cvs
  | [], cvs, e => by
    have : cvs = [] := by simpa [litsOk] using e
    rw [this]; exact .nil
  | v :: r, [], e => by simp [litsOk] at e
  | v :: r, c :: t, e => by
    have e : litOk K v c = true ∧ litsOk K r t = true := by simpa [litsOk] using e
    exact .cons (litOk_rel X hb hρ hR v e.1) (litsOk_rel X hb hρ hR r e.2)
end
noncomputable def lookQ {α : Type} (n : List Nat) : List (Str × α) → Option α
  | [] => none
  | (m, v) :: r => match seqB n m.cps.toList with
    | true => some v
    | false => lookQ n r
theorem seqB_eq (n m : Str) : seqB n.cps.toList m.cps.toList = (n == m) := by
  cases q : n == m with
  | true => rw [beq_iff_eq.mp q]; exact seqB_iff.mpr rfl
  | false =>
    cases z : seqB n.cps.toList m.cps.toList with
    | true => rw [str_eq z, beq_self_eq_true] at q; exact q
    | false => rfl
theorem lookQ_eq {α : Type} (n : Str) : ∀ l : List (Str × α), lookQ n.cps.toList l = l.lookup n
  | [] => rfl
  | (m, v) :: r => by
    unfold lookQ
    rw [List.lookup_cons, seqB_eq, lookQ_eq n r]
    cases n == m <;> rfl
noncomputable def findQ (n : List Nat) : List DictEntry → Option DictEntry
  | [] => none
  | e :: r => match (match e.key with | .str s _ => seqB s.cps.toList n | _ => false) with
    | true => some e
    | false => findQ n r
theorem findQ_eq (n : Str) : ∀ l : List DictEntry, findQ n.cps.toList l = l.find? (·.key.isStr n)
  | [] => rfl
  | e :: r => by
    unfold findQ
    rw [List.find?_cons, findQ_eq n r, show (match e.key with | .str s _ => seqB s.cps.toList n.cps.toList | _ => false) = e.key.isStr n from by cases e.key <;> first | exact seqB_eq _ _ | rfl]
    cases e.key.isStr n <;> rfl
noncomputable def nsQ (K : Frag) (ns : Addr) (n : List Nat) : Option (Option Value) := match K.lookup ns with
  | some ⟨_, _, .dict es _, _⟩ => (match findQ n es.toList with
      | some e => some (some e.val)
      | none => match es.toList.any (·.refKey) with
        | true => none
        | false => some none)
  | _ => none
theorem nsQ_eq (K : Frag) (ns : Addr) (n : Str) : nsQ K ns n.cps.toList = nsIn K ns n := by
  unfold nsQ nsIn
  cases K.lookup ns with
  | none => rfl
  | some o =>
    obtain ⟨c, d, dt, sl⟩ := o
    cases dt <;> try rfl
    rename_i es k
    dsimp only
    rw [findQ_eq]
    cases es.toList.find? (·.key.isStr n) with
    | some e => rfl
    | none => cases es.toList.any (·.refKey) <;> rfl
noncomputable def lookK (l : List (Str × NameKind)) (x : Nat) (k : NameKind) : Bool := lookQ (nm x).cps.toList l == some k
noncomputable def dfltIn (K : Frag) (dV : Value) : Option (List Value) := match dV with
  | .none => some []
  | .ref a => match K.lookup a with
    | some o => match o.data with
      | .seq xs _ => some xs.toList
      | _ => none
    | none => none
  | _ => none
noncomputable def parsOk (p : Arguments) (ns : List Str) : Bool := match p with
  | ⟨[], as, none, [], [], none, _⟩ => as.map (·.arg) == ns
  | _ => false
noncomputable def scOk (sc : Scope) (fn : Fn) : Bool := sc.kind == .function && !sc.isCoroutine && !sc.isGenerator &&
  fn.ps.all (fun x => Nat.blt x nN && (memN fn.cells x || lookK sc.names x .local)) &&
  fn.cells.all (fun x => Nat.blt x nN && lookK sc.names x .cell) &&
  ((sc.names.filter fun x => x.2 == .cell).map (·.1) == fn.cells.map nm) &&
  decide fn.ps.Nodup && decide fn.cells.Nodup && sc.names.all (fun x => x.2 != .free)
noncomputable def fnCheck (K : Frag) (f : Nat) (fn : Fn) : Bool := match K.lookup f with
  | some o => match o.data with
    | .func fd => match fd.body with
      | .stmts body => Nat.beq fd.globals mainGlobals && fd.closure.isEmpty && Nat.beq fd.builtins builtinsNs && codeIn K fd.code fd.qualname && keepIn K (.ref f) && scOk fd.scope fn && parsOk fd.params (fn.ps.map nm) &&
          (match dfltIn K fd.defaults with
            | some cd => flatsOk fn.dflt cd && Nat.ble cd.length fn.ps.length
            | none => false) && isSs (fun n => lookQ n.cps.toList fd.scope.names) fn.body body
      | _ => false
    | _ => false
  | none => false
theorem cellsFrom_eq : ∀ (l : List (Str × NameKind)) (n : Nat) (acc : List (Str × Addr)), cellsFrom n l acc = (((l.filter fun x => x.2 == .cell).map (·.1)).zipIdx n).reverse ++ acc
  | [], _, _ => rfl
  | (x, k) :: l, n, acc => by
    unfold cellsFrom
    rw [List.filter_cons]
    cases q : (k == NameKind.cell) with
    | true =>
      simp only [if_true]
      rw [cellsFrom_eq l (n + 1)]
      simp [List.zipIdx_cons]
    | false =>
      simp only [Bool.false_eq_true, if_false]
      exact cellsFrom_eq l n acc
theorem zip_range {l : List Nat} {n : Nat} : ((l.zip (List.range l.length)).map fun p => (nm p.1, n + p.2)) = (l.map nm).zipIdx n := by
  apply List.ext_getElem?
  intro i
  simp only [List.getElem?_map, List.getElem?_zipIdx, List.zip_eq_zipWith, List.getElem?_zipWith, List.getElem?_range]
  by_cases q : i < l.length
  · simp [List.getElem?_eq_getElem q, List.getElem?_range, q]
  · rw [List.getElem?_eq_none (by lia)]
    simp
theorem nodup_nm : ∀ {l : List Nat}, (∀ x, x ∈ l → x < nN) → l.Nodup → (l.map nm).Nodup
  | [], _, _ => List.nodup_nil
  | x :: l, h, hn => by
    have hn' := List.nodup_cons.mp hn
    rw [List.map_cons]
    refine List.nodup_cons.mpr ⟨fun z => ?_, nodup_nm (fun y hy => h y (.tail _ hy)) hn'.2⟩
    obtain ⟨y, hy, e⟩ := List.mem_map.mp z
    have := nm_inj (h y (.tail _ hy)) (h x (.head _)) e
    subst this
    exact hn'.1 hy
theorem flatsOk_len : ∀ {vs : List V} {cvs : List Value}, flatsOk vs cvs = true → vs.length = cvs.length
  | [], [], _ => rfl
  | v :: r, c :: t, e => by
    simp only [flatsOk, Bool.and_eq_true] at e
    simp [flatsOk_len e.2]
  | [], _ :: _, e => by simp [flatsOk] at e
  | _ :: _, [], e => by simp [flatsOk] at e
theorem peek_load {K : Frag} {S : Setting} {a : Addr} {o : Obj} (h : K.lookup a = some o) : peek K S (load a) = some o := by
  unfold load peek
  rw [h]
  rfl
theorem dfltIn_peek {K : Frag} {dV : Value} {cd : List Value} (e : dfltIn K dV = some cd) (S : Setting) : ∃ it, peek K S (seqItems? dV) = some it ∧ (it.getD #[]).toList = cd := by
  unfold dfltIn at e
  split at e
  · cases e; exact ⟨none, rfl, rfl⟩
  · rename_i a
    split at e
    · rename_i o ho
      split at e
      · rename_i xs k hd
        cases e
        refine ⟨some xs, ?_, rfl⟩
        unfold seqItems?
        simp only
        rw [peek_bind, peek_load ho]
        simp only [Option.bind_some, hd]
        rfl
      · cases e
    · cases e
  · cases e
theorem fnCheck_ok {K : Frag} {f : Nat} {fn : Fn} (e : fnCheck K f fn = true) : FnOk K f fn := by
  unfold fnCheck at e
  split at e
  case h_2 => cases e
  rename_i o ho
  split at e
  case h_2 => cases e
  rename_i fd hd
  split at e
  case h_2 => cases e
  rename_i body hb
  simp only [Bool.and_eq_true] at e
  obtain ⟨⟨⟨⟨⟨⟨⟨⟨e1, e2⟩, e3⟩, e4⟩, e5⟩, e6⟩, e7⟩, e8⟩, e9⟩ := e
  split at e8
  case h_2 => cases e8
  rename_i cd hcd
  simp only [Bool.and_eq_true] at e8
  obtain ⟨oc, od, da, osl⟩ := o
  simp only at hd
  subst hd
  obtain ⟨name, qual, params, body', scope, glo, clo, dV, kV, doc, pm, an, cdv, ct, bl⟩ := fd
  simp only at hb hcd e1 e2 e3 e4 e6 e7 e9
  subst hb
  have e1 := Nat.eq_of_beq_eq_true e1
  have e3 := Nat.eq_of_beq_eq_true e3
  have e2 : clo = [] := by simpa using e2
  subst e1 e2 e3
  unfold scOk at e6
  simp only [Bool.and_eq_true, List.all_eq_true, decide_eq_true_eq, Bool.not_eq_true', beq_iff_eq] at e6
  obtain ⟨⟨⟨⟨⟨⟨⟨⟨s1, s2⟩, s3⟩, s4⟩, s5⟩, s6⟩, s7⟩, s8⟩, s9⟩ := e6
  have hlt : ∀ x, x ∈ fn.ps → x < nN := fun x hx => Nat.blt_eq.mp (s4 x hx).1
  refine ⟨⟨oc, od, osl, name, qual, params, body, scope, dV, kV, doc, pm, cdv, ct, an, cd⟩, ho, e4, e5, s1, s2, s3, ?_, fun x hx => ⟨Nat.blt_eq.mp (s5 x hx).1, ?_⟩, s8, ?_, ?_, fun R ρ n h => flatsOk_rel e8.1, (funext fun n => lookQ_eq n scope.names : (fun n : Str => lookQ n.cps.toList scope.names) = fun n => scope.names.lookup n) ▸ e9⟩
  · refine fun x hx => ⟨hlt x hx, ?_⟩
    have := (s4 x hx).2
    cases q : memN fn.cells x with
    | true => 
      have := (s5 x (memN_iff.mp q)).2
      simpa [lookK, lookQ_eq] using this
    | false =>
      rw [q, Bool.false_or] at this
      simpa [lookK, lookQ_eq] using this
  · have := (s5 x hx).2
    simpa [lookK, lookQ_eq] using this
  · intro x hx z
    have := s9 x hx
    rw [z] at this
    cases this
  · intro cs h1 h2 S
    obtain ⟨it, i1, i2⟩ := dfltIn_peek hcd S
    have hl := flatsOk_len e8.1
    unfold parsOk at e7
    split at e7
    case h_2 => cases e7
    rename_i as dfs
    have e7 : as.map (·.arg) = fn.ps.map nm := by simpa using e7
    have hlen : as.length = fn.ps.length := by have := congrArg List.length e7; simpa using this
    have := bind_peek (name := name) (qual := qual) (body := body) (scope := scope) (kV := kV) (doc := doc) (pm := pm) (an := an) (cdv := cdv) (ct := ct) (dfs := dfs) i1 (as := as) (by rw [e7]; exact nodup_nm hlt s7) cs (by rw [List.length_map]; lia) (by rw [List.length_map, i2]; lia) (by rw [List.length_map, hlen, i2]; exact Nat.le_of_ble_eq_true e8.2)
    rw [this, e7, hl, i2, List.length_map]
end
section
noncomputable def Tr.all {α : Type} (p : Nat → α → Bool) : Tr α → Bool
  | .lf => true
  | .nd k v l r => p k v && l.all p && r.all p
theorem Tr.all_get {α : Type} {p : Nat → α → Bool} : ∀ {t : Tr α} {x : Nat} {v : α}, t.all p = true → t.get x = some v → p x v = true
  | .lf, _, _, _, e => by simp [Tr.get] at e
  | .nd k u l r, x, v, h, e => by
    simp only [Tr.all, Bool.and_eq_true] at h
    unfold Tr.get at e
    split at e
    · rename_i q
      cases e
      rw [Nat.eq_of_beq_eq_true q]; exact h.1.1
    · split at e
      · exact Tr.all_get h.1.2 e
      · exact Tr.all_get h.2 e
noncomputable def ownQ (K : Frag) (n : Str) (c : Value) : Option (Option Value) := match c with
  | .type m => some (fastBuiltinOwn m n)
  | .ref a => match K.lookup a with
    | some ⟨_, _, .cls cd, _⟩ => nsQ K cd.ns n.cps.toList
    | _ => none
  | _ => some none
theorem ownQ_eq (K : Frag) (n : Str) (c : Value) : ownQ K n c = ownIn K n c := by
  unfold ownQ ownIn
  cases c with
  | ref a =>
    dsimp only
    cases K.lookup a with
    | none => rfl
    | some o =>
      obtain ⟨c, d, dt, sl⟩ := o
      cases dt <;> first | rfl | exact nsQ_eq ..
  | _ => rfl
noncomputable def alongQ (K : Frag) (n : Str) : List Value → Option (Option Value)
  | [] => some none
  | c :: r => match ownQ K n c with
    | some (some v) => some (some v)
    | some none => alongQ K n r
    | none => none
theorem alongQ_eq (K : Frag) (n : Str) : ∀ l, alongQ K n l = alongIn K n l
  | [] => rfl
  | c :: r => by
    unfold alongQ alongIn
    rw [alongQ_eq K n r, ownQ_eq]
    rfl
noncomputable def fnd (K : Frag) (c : Nat) (n : Str) : Option (Option Value) := match K.lookup c with
  | some ⟨_, _, .cls cd, _⟩ => alongQ K n cd.mro
  | _ => none
theorem fnd_eq (K : Frag) (c : Nat) (n : Str) : fnd K c n = findIn K (.ref c) n := by
  unfold fnd findIn
  dsimp only
  cases K.lookup c with
  | none => rfl
  | some o =>
    obtain ⟨c, d, dt, sl⟩ := o
    cases dt <;> first | rfl | exact alongQ_eq ..
noncomputable def clsCheck (K : Frag) (c : Nat) (ms : List (Nat × Nat)) : Bool :=
  makesIn K c && keepIn K (.ref c) && plainGet K c (nm 0) && hasDictIn K c && plainOver K c && (match findIn K (.ref c) "__setattr__" with
    | some (some (.builtin n)) => n == "object.__setattr__"
    | _ => false) && ms.all fun p => Nat.blt p.1 nN && isFn K (.ref p.2) && keepIn K (.ref p.2) && (match fnd K c (nm p.1) with
    | some (some (.ref b)) => Nat.beq b p.2
    | _ => false)
theorem getC_mem : ∀ {l : List (Nat × Nat)} {x v : Nat}, getC l x = some v → (x, v) ∈ l
  | [], _, _, e => by simp [getC] at e
  | (y, u) :: r, x, v, e => by
    unfold getC at e
    split at e
    · rename_i q
      cases e
      rw [Nat.eq_of_beq_eq_true q]; exact .head _
    · exact .tail _ (getC_mem e)
theorem clsCheck_ok {K : Frag} {c : Nat} {ms : List (Nat × Nat)} (e : clsCheck K c ms = true) : ClsOk K c ms := by
  unfold clsCheck at e
  simp only [Bool.and_eq_true, List.all_eq_true] at e
  obtain ⟨⟨⟨⟨⟨⟨e1, e0⟩, e2⟩, e3⟩, e4⟩, e5⟩, e6⟩ := e
  refine ⟨e1, e0, e2, e3, e4, ?_, fun m f hm => ?_⟩
  · split at e5
    · rename_i n q
      rw [q, beq_iff_eq.mp e5]
    · cases e5
  · obtain ⟨⟨⟨a, b⟩, c⟩, d⟩ := e6 _ (getC_mem hm)
    rw [fnd_eq] at d
    refine ⟨Nat.blt_eq.mp a, ?_, b, c⟩
    split at d
    · rename_i z q
      rw [q, Nat.eq_of_beq_eq_true d]
    · cases d
noncomputable def insN : Tr Nat → Nat → Nat → Tr Nat
  | .lf, k, v => .nd k v .lf .lf
  | .nd k' v' l r, k, v => match Nat.blt k k' with
    | true => .nd k' v' (insN l k v) r
    | false => .nd k' v' l (insN r k v)
noncomputable def nameT : Tr Nat := codesOf.zipIdx.foldl (fun t p => insN t p.1 p.2) .lf
theorem nameT_ok : ((List.range nN).all fun a => match nameT.get (codeS (nm a)) with | some b => Nat.beq a b | none => false) = true := by kernel_rfl
theorem nameT_get {a : Nat} (h : a < nN) : nameT.get (codeS (nm a)) = some a := by
  have := List.all_eq_true.mp nameT_ok a (List.mem_range.mpr h)
  split at this
  · rename_i b e
    rw [e, Nat.eq_of_beq_eq_true this]
  · cases this
theorem obj_none : ((List.range nN).all fun a => Nat.beq a 181 || (fastBuiltinOwn "object" (nm a)).isNone) = true := by kernel_rfl
noncomputable def keysOut (ms : List (Nat × Nat)) : List DictEntry → Bool
  | [] => true
  | e :: r => match e.key with
    | .str s _ => match (match nameT.get (codeS s) with | some a => (getM ms a).isSome | none => true) with
      | true => keysOut ms r
      | false => false
    | _ => false
theorem keysOut_ok {ms : List (Nat × Nat)} {a : Nat} (h : a < nN) (hn : getM ms a = none) : ∀ {es : List DictEntry}, keysOut ms es = true → es.find? (·.key.isStr (nm a)) = none ∧ es.any (·.refKey) = false
  | [], _ => ⟨rfl, rfl⟩
  | e :: r, q => by
    unfold keysOut at q
    split at q
    · rename_i s k hk
      split at q
      · rename_i g
        obtain ⟨i1, i2⟩ := keysOut_ok h hn q
        refine ⟨?_, by rw [List.any_cons, i2]; simp [DictEntry.refKey, hk]⟩
        rw [List.find?_cons, i1]
        cases z : e.key.isStr (nm a) with
        | false => rfl
        | true =>
          rw [hk] at z
          have z : s = nm a := beq_iff_eq.mp z
          rw [z, nameT_get h] at g
          dsimp only at g
          rw [hn] at g
          cases g
      · cases q
    · cases q
noncomputable def ownOut (K : Frag) (ms : List (Nat × Nat)) (v : Value) : Bool := match v with
  | .type m => m == "object"
  | .ref a => match K.lookup a with
    | some ⟨_, _, .cls cd, _⟩ => match K.lookup cd.ns with
      | some ⟨_, _, .dict es _, _⟩ => keysOut ms es.toList
      | _ => false
    | _ => false
  | _ => false
theorem ownOut_ok {K : Frag} {ms : List (Nat × Nat)} {a : Nat} (h : a < nN) (hn : getM ms a = none) (h181 : Nat.beq a 181 = false) {v : Value} (e : ownOut K ms v = true) : ownIn K (nm a) v = some none := by
  unfold ownOut at e
  unfold ownIn
  split at e
  · dsimp only
    rw [beq_iff_eq.mp e]
    have := List.all_eq_true.mp obj_none a (List.mem_range.mpr h)
    rw [h181, Bool.false_or] at this
    rw [Option.isNone_iff_eq_none.mp this]
  · split at e
    · rename_i c d cd sl ho
      split at e
      · rename_i c' d' es n sl' hd
        obtain ⟨i1, i2⟩ := keysOut_ok h hn e
        dsimp only
        rw [ho]
        dsimp only
        unfold nsIn
        rw [hd]
        dsimp only
        rw [i1]
        dsimp only
        rw [i2]
        rfl
      · cases e
    · cases e
  · cases e
theorem alongOut_ok {K : Frag} {ms : List (Nat × Nat)} {a : Nat} (h : a < nN) (hn : getM ms a = none) (h181 : Nat.beq a 181 = false) : ∀ {l : List Value}, l.all (ownOut K ms) = true → alongIn K (nm a) l = some none
  | [], _ => rfl
  | v :: r, e => by
    obtain ⟨e1, e2⟩ := Bool.and_eq_true_iff.mp e
    unfold alongIn
    rw [ownOut_ok h hn h181 e1]
    exact alongOut_ok h hn h181 e2
noncomputable def fldCheck (K : Frag) (c : Nat) (ms : List (Nat × Nat)) : Bool := (getM ms 181).isSome && match K.lookup c with
  | some ⟨_, _, .cls cd, _⟩ => cd.mro.all (ownOut K ms)
  | _ => false
theorem fldCheck_ok {K : Frag} {c : Nat} {ms : List (Nat × Nat)} (e : fldCheck K c ms = true) {a : Nat} (h : a < nN) (hn : getM ms a = none) : FldOk K c a := by
  obtain ⟨e1, e2⟩ := Bool.and_eq_true_iff.mp e
  have h181 : Nat.beq a 181 = false := by
    cases q : Nat.beq a 181 with
    | false => rfl
    | true => rw [← Nat.eq_of_beq_eq_true q, hn] at e1; cases e1
  refine ⟨h, ?_⟩
  unfold findIn
  split at e2
  · rename_i c' d cd sl ho
    dsimp only
    rw [ho]
    exact alongOut_ok h hn h181 e2
  · cases e2
noncomputable def biV (x : Nat) : Option Value := match x with
  | 8 => some (.builtin "len")
  | 19 => some (.builtin "min")
  | 31 => some (.builtin "chr")
  | 40 => some (.builtin "ord")
  | 130 => some (.builtin "isinstance")
  | 74 => some (.type "range")
  | 29 => some (.type "int")
  | 86 => some (.type "list")
  | 89 => some (.type "tuple")
  | _ => none
theorem biV_boot : ∀ {x : Nat} {v : Value}, biV x = some v → bootBuiltins (nm x) = some v ∧ nm x ≠ "__name__" := by
  have k8 : bootBuiltins (nm 8) = some (.builtin "len") ∧ nm 8 ≠ "__name__" := by decide +kernel
  have k19 : bootBuiltins (nm 19) = some (.builtin "min") ∧ nm 19 ≠ "__name__" := by decide +kernel
  have k31 : bootBuiltins (nm 31) = some (.builtin "chr") ∧ nm 31 ≠ "__name__" := by decide +kernel
  have k40 : bootBuiltins (nm 40) = some (.builtin "ord") ∧ nm 40 ≠ "__name__" := by decide +kernel
  have k130 : bootBuiltins (nm 130) = some (.builtin "isinstance") ∧ nm 130 ≠ "__name__" := by decide +kernel
  have k74 : bootBuiltins (nm 74) = some (.type "range") ∧ nm 74 ≠ "__name__" := by decide +kernel
  have k29 : bootBuiltins (nm 29) = some (.type "int") ∧ nm 29 ≠ "__name__" := by decide +kernel
  have k86 : bootBuiltins (nm 86) = some (.type "list") ∧ nm 86 ≠ "__name__" := by decide +kernel
  have k89 : bootBuiltins (nm 89) = some (.type "tuple") ∧ nm 89 ≠ "__name__" := by decide +kernel
  intro x v e
  unfold biV at e
  split at e
  · cases e; exact k8
  · cases e; exact k19
  · cases e; exact k31
  · cases e; exact k40
  · cases e; exact k130
  · cases e; exact k74
  · cases e; exact k29
  · cases e; exact k86
  · cases e; exact k89
  · cases e
noncomputable def globCheck (K : Frag) (x : Nat) (v : V) : Bool := Nat.blt x nN && match nsQ K mainGlobals (nm x).cps.toList with
  | some (some cv) => litOk K v cv
  | some none => match biV x with
    | some cv => flatOk v cv
    | none => false
  | none => false
theorem globCheck_ok {K : Frag} {h₀ : Heap} {mb : Str → Option Value} (X : K.In h₀) (hmb : ∀ x : Str, x ≠ "__name__" → mb x = bootBuiltins x) {x : Nat} {v : V} (e : globCheck K x v = true) : GlobOk K mb h₀ x v := by
  unfold globCheck at e
  simp only [Bool.and_eq_true] at e
  refine ⟨Nat.blt_eq.mp e.1, ?_⟩
  have e := e.2
  rw [nsQ_eq] at e
  split at e
  · rename_i cv q
    exact .inl ⟨cv, q, fun R ρ n h hb hρ hR => litOk_rel X hb hρ hR v e⟩
  · rename_i q
    split at e
    · rename_i cv q2
      have := biV_boot q2
      exact .inr ⟨cv, q, by rw [hmb _ this.2, this.1], fun R ρ n h => flatOk_rel e⟩
    · cases e
  · cases e
noncomputable def dictOk : List (S × V) → List DictEntry → Bool
  | [], [] => true
  | (s, v) :: r, e :: t => (match e.key with
    | .str x _ => seqB x.cps.toList s
    | _ => false) && flatOk v e.val && dictOk r t
  | _, _ => false
theorem dictOk_ns : ∀ {kvs : List (S × V)} {es : List DictEntry}, dictOk kvs es = true → es.any (·.refKey) = false ∧ ∀ x : S, (es.find? (·.key.isStr (toStr x))).isSome = (getD kvs x).isSome ∧
    ∀ v, getD kvs x = some v → ∃ e, es.find? (·.key.isStr (toStr x)) = some e ∧ ∀ (R : List Addr) (ρ : Nat → Addr) (n : Nat) (h : Heap), VRel R ρ n h v e.val
  | [], [], _ => ⟨rfl, fun x => ⟨rfl, fun v e => by simp [getD] at e⟩⟩
  | (s, v) :: r, e :: t, h => by
    simp only [dictOk, Bool.and_eq_true] at h
    obtain ⟨⟨h1, h2⟩, h3⟩ := h
    obtain ⟨i1, i2⟩ := dictOk_ns h3
    split at h1
    case h_2 => cases h1
    rename_i x tk hk
    have hx : x = toStr s := by
      have := seqB_iff.mp h1
      unfold toStr
      rw [← this]
    refine ⟨by rw [List.any_cons, i1]; simp [DictEntry.refKey, hk], fun y => ?_⟩
    have hq : e.key.isStr (toStr y) = seqB s y := by
      rw [hk, hx]
      show (toStr s == toStr y) = _
      cases q : seqB s y with
      | true => rw [seqB_iff.mp q]; simp
      | false =>
        refine beq_eq_false_iff_ne.mpr fun z => ?_
        have : s = y := by
          have := congrArg (fun w : Str => w.cps.toList) z
          simpa [toStr] using this
        rw [this, seqB_iff.mpr rfl] at q
        cases q
    rw [List.find?_cons, hq]
    unfold getD
    cases q : seqB s y with
    | true => exact ⟨rfl, fun u hu => by cases hu; exact ⟨e, rfl, fun R ρ n h => flatOk_rel h2⟩⟩
    | false => exact i2 y
  | [], _ :: _, h => by simp [dictOk] at h
  | _ :: _, [], h => by simp [dictOk] at h
noncomputable def sdCheck (K : Frag) (a : Nat) (kvs : List (S × V)) : Bool := match K.lookup a with
  | some ⟨.type c, none, .dict es _, sl⟩ => c == "dict" && sl.isEmpty && dictOk kvs es.toList && !(a == sysModules)
  | _ => false
theorem sdCheck_ok {K : Frag} {P : Params} {a : Nat} {kvs : List (S × V)} (e : sdCheck K a kvs = true) (hk : ∀ oc od es n sl, K.lookup a = some ⟨oc, od, .dict es n, sl⟩ → KeysLit P es.toList) :
    ∃ es n, K.lookup a = some ⟨.type "dict", none, .dict es n, #[]⟩ ∧ KeysLit P es.toList ∧ (a == sysModules) = false ∧
    ∀ x : S, ∃ r, nsIn K a (toStr x) = some r ∧ r.isSome = (getD kvs x).isSome ∧ ∀ v, getD kvs x = some v → ∃ cv, r = some cv ∧ ∀ (R : List Addr) (ρ : Nat → Addr) (n : Nat) (h : Heap), VRel R ρ n h v cv := by
  unfold sdCheck at e
  split at e
  case h_2 => cases e
  rename_i c es n sl ho
  simp only [Bool.and_eq_true, Bool.not_eq_true'] at e
  obtain ⟨⟨⟨e1, e2⟩, e3⟩, e4⟩ := e
  have e2 : sl = #[] := by simpa using e2
  rw [beq_iff_eq.mp e1, e2] at ho
  refine ⟨es, n, ho, hk _ _ _ _ _ ho, e4, fun x => ?_⟩
  obtain ⟨d1, d2⟩ := dictOk_ns e3
  obtain ⟨d2, d3⟩ := d2 x
  unfold nsIn
  rw [ho]
  simp only
  cases q : es.toList.find? (·.key.isStr (toStr x)) with
  | some e =>
    refine ⟨some e.val, rfl, by rw [← d2, q]; rfl, fun v hv => ?_⟩
    obtain ⟨e', h1, h2⟩ := d3 v hv
    rw [q] at h1
    cases h1
    exact ⟨_, rfl, h2⟩
  | none =>
    simp only [d1]
    refine ⟨none, rfl, by rw [← d2, q]; rfl, fun v hv => ?_⟩
    obtain ⟨e', h1, h2⟩ := d3 v hv
    rw [q] at h1
    cases h1
end
section
noncomputable abbrev pr : Program := PySem.Challenge.pw_nn0411_01
noncomputable abbrev pB : List Stmt := behindTheImports pr
noncomputable def envT : Env := { scope := pr.main.scope, locals := mainNs, globals := mainNs, cells := [], code := .ref 13, frame := some 14 }
noncomputable abbrev cE : Code := .body pB envT
noncomputable abbrev p0 : Pos := ⟨0, 0, 0, 0⟩
noncomputable abbrev ann6 : Option Value := some (.ref 6)
noncomputable def objs15 (P : Params) : List Obj := [boot_o_0 P, boot_o_1 P, boot_o_2 P, boot_o_3 P, boot_o_4 P, boot_o_5 P, boot_o_6 P, boot_o_7 P, boot_o_8 P, boot_o_9 P, boot_o_10 P,
  { cls := .type "tuple", data := .seq #[] }, { cls := .none, data := .fields #[] },
  { cls := .type "code", data := .fields #[.str "<module>" 182, .str "<module>" 183, .str "/claim/cut.py" 184, .int 1 0, .int 0 0, .int 0 0, .int 0 0, .int 0 0, .ref 11, .bool false, .int 181 0, .ref 12, .none, .none, .none, .none, .int 185 0, .int 1 0, .str "/claim/cut.py" 186] },
  { cls := .type "frame", slots := #[some (.ref 13), some (.ref 3), some (.ref 3), none, some (.str "__main__" 164), none, some (.ref 0)] }]
noncomputable def heap15 (P : Params) : Heap := ⟨⟨objs15 P⟩, {}⟩
noncomputable def insAll (t : PySem.W.BT) (n : Nat) : List Obj → PySem.W.BT
  | [] => t
  | o :: r => insAll (t.ins n o) (n + 1) r
noncomputable def S15 (P : Params) (os : OsState) : SharedT := ⟨insAll .nil 0 (objs15 P), 15, {}, #[], {}, 187, os⟩
theorem h_pre (w : World) (os : OsState) : topGo treeTable pr w 11 ann6 12 ⟨boot_heap w.params, #[], boot_drawn, boot_toks, os⟩ (topStub pr) = some (⟨heap15 w.params, #[], {}, 187, os⟩, ⟨denote treeTable cE, cE, p0, [topFrame p0]⟩) := by kernel_rfl
theorem h_block (w : World) (os : OsState) : segRun treeTable pr w 11 ann6 1 1 ⟨heap15 w.params, #[], {}, 187, os⟩ (blockOf pB envT cE p0 [topFrame p0]) = some (.next, (S15 w.params os).abs, cE, p0) := by kernel_rfl
theorem h_fin (w : World) (s : Shared) (p : Pos) : topRun treeTable pr w 11 ann6 2 s ⟨doneF .next, cE, p, [topFrame p0]⟩ = some s := by kernel_rfl
theorem h_open (w : World) : (fencedOpening treeTable pr w 12000).map (fun s => (s.heap, s.gens, s.drawn, s.toks)) = some (boot_heap w.params, Array.mk [], boot_drawn, boot_toks) := boot_open (by kernel_rfl) (by decide) (fun s => by kernel_rfl) w
theorem h_size (w : World) : (boot_heap w.params).isNs mainGlobals = true ∧ (boot_heap w.params).objs.size = 11 ∧ (boot_heap w.params).nsMap mainGlobals "__annotations__" = ann6 := ⟨by kernel_rfl, by kernel_rfl, by kernel_rfl⟩
end
section
noncomputable def qv : Program := view pr [63]
noncomputable def lo : List Str := pr.boundNames.filter fun n => !(n == ("law" : Str))
noncomputable def mods : List Str := importedModules pr.main.body
end
section
noncomputable def kAddrs : List Nat := [3, 22, 35, 36, 42, 43, 45, 46, 65, 71, 72, 78, 79, 81, 82, 94, 95, 105, 111, 112, 119, 126, 128, 129, 141, 147, 148, 154, 155, 156, 162, 163, 169, 170, 176, 177, 183, 184, 190, 191, 197, 198, 206, 212, 213, 220, 227, 234, 240, 241, 247, 248, 254, 255, 257, 258, 275, 276, 280, 281, 282, 290, 296, 297, 299, 300, 315, 316, 323, 330, 337, 344, 351, 358, 365, 372, 379, 381, 382, 392, 393, 400, 401, 407, 408, 421, 422, 424, 425, 442, 443, 449, 450, 457, 464, 471, 477, 478, 484, 485, 492, 493, 499, 500, 506, 507, 513, 514, 520, 521, 525, 526, 528, 529, 534, 535, 536, 549, 550, 556, 557, 563, 564, 570, 571, 577, 578, 584, 585, 591, 592, 598, 599, 605, 606, 612, 613, 615, 616, 626, 627, 640, 641, 645, 646, 648, 649, 657, 658, 671, 672, 678, 679, 685, 686, 692, 693, 699, 700, 706, 707, 713, 714, 720, 721, 727, 728, 730, 731, 741, 742, 746, 747, 753, 754, 760, 761, 767, 768, 769, 773, 774, 780, 781, 787, 788, 789, 790, 791, 792, 793, 794, 795, 796, 797, 798, 799, 800, 801, 802, 803, 804, 805, 806, 807, 808, 809, 810, 811, 812, 813, 814, 815, 816, 817, 818, 824, 825, 829, 830, 834, 835, 841, 842, 846, 847]
noncomputable def atT (s : SharedT) (a : Addr) : Option Obj := match Nat.blt a s.n with
  | true => match s.tree.get a with
    | some o => alive o
    | none => none
  | false => none
theorem alive_eq {o o' : Obj} (e : alive o = some o') : o' = o := by
  obtain ⟨c, d, dt, sl⟩ := o
  cases dt <;> cases e <;> rfl
theorem atT_get {s : SharedT} {a : Addr} {o : Obj} (e : atT s a = some o) : s.abs.heap.get? a = some o := by
  unfold atT at e
  cases q : Nat.blt a s.n with
  | false => rw [q] at e; cases e
  | true =>
    rw [q] at e
    cases g : s.tree.get a with
    | none => rw [g] at e; cases e
    | some x => rw [g] at e; exact (abs_get (Nat.le_of_ble_eq_true q) g).trans e
noncomputable def fragT (s : SharedT) : Frag := kAddrs.filterMap fun a => (atT s a).map (a, ·)
theorem frag_in (s : SharedT) : (fragT s).In s.abs.heap := fun a o e => by
  unfold fragT at e
  generalize kAddrs = l at e
  induction l with
  | nil => cases e
  | cons b l ih =>
    rw [List.filterMap_cons] at e
    cases q : atT s b with
    | none => rw [q] at e; exact ih e
    | some x =>
      rw [q] at e
      have e : List.lookup a ((b, x) :: _) = some o := e
      rw [List.lookup_cons] at e
      cases z : a == b with
      | true => rw [z] at e; rw [beq_iff_eq.mp z, ← e]; exact atT_get q
      | false => rw [z] at e; exact ih e
noncomputable def allR (K : Frag) : Bool := clsT.all (clsCheck K) && (globT.all (fun x v => Nat.beq x 152 || globCheck K x v) && (sdT.all (sdCheck K) && (clsT.all (fldCheck K) && (fnCheck K 72 ⟨[0, 206, 6], [], [.none], b72⟩ && (fnCheck K 79 ⟨[0], [], [], b79⟩ && (keepIn K (.ref 79) && keepIn K (.ref 95)))))))
noncomputable def allC (K : Frag) : Bool := fnT.all (fnCheck K) && allR K
noncomputable def hashesIn (K : Frag) (a : Addr) : List Int := match K.lookup a with
  | some ⟨_, _, .dict es _, _⟩ => es.toList.map (·.hash)
  | _ => []
noncomputable abbrev ObsR : Type := ((List Int × List Int) × (List (Option (Option Value)) × (List (Option Value) × (Option CFound × Option Obj))))
noncomputable abbrev ObsT : Type := Bool × ObsR
noncomputable def obsR (K : Frag) : ObsR := ((hashesIn K 22, hashesIn K 536), ([findIn K (.ref 95) "__init__", findIn K (.ref 95) "__setattr__", findIn K (.ref 95) (nm 206), findIn K (.ref 95) (nm 6), findIn K (.ref 95) (nm 147), findIn K (.ref 95) "__getattribute__", findIn K (.ref 95) "__getattr__",
  nsIn K mainGlobals (nm 203), nsIn K mainGlobals (nm 208), nsIn K mainGlobals "law", nsIn K mainGlobals "SELF_TEXT"], ([typeIn K (.ref 72), typeIn K (.ref 79)], (findCls K (.type "Exception") (.type "type") (nm 181), K.lookup 95))))
noncomputable def obsK (K : Frag) : ObsT := (allC K, obsR K)
noncomputable def keysH (P : Params) (a : Nat) : List Int := ((sdT.get a).getD []).map fun p => PyData.keyHash P (toStr p.1)
noncomputable def selfLit : String := "%token KIND NAME HEAD LITERAL NUMBER MARK BAR SEMI ACTION PREC EMPTY\n%%\nfile:decls MARK rules{$$=[$1,$3]}|decls MARK rules MARK{$$=[$1,$3]}\ndecls:%empty{$$=[]}|decls KIND syms{$$=push($1,[$2,$3])}\nsyms:sym{$$=[$1]}|syms sym{$$=push($1,$2)}\nsym:name|NUMBER\nname:NAME|LITERAL\nrules:rule{$$=[$1]}|rules rule{$$=push($1,$2)}\nrule:alts|alts SEMI\nalts:HEAD alt{$$=[$1,[$2]]}|alts BAR alt{$$=[head($1),push(last($1),$3)]}\nalt:parts{$$=[$1,\"\"]}|parts PREC name{$$=[$1,$3]}|parts PREC name ACTION{$$=[push($1,[\"act\",$4]),$3]}\nparts:%empty{$$=[]}|parts NAME{$$=push($1,[\"sym\",$2])}|parts LITERAL{$$=push($1,[\"sym\",$2])}\n|parts ACTION{$$=push($1,[\"act\",$2])}|parts EMPTY{$$=push($1,[\"empty\",\"\"])}\n"
noncomputable def valR (P : Params) : ObsR := ((keysH P 22, keysH P 536), ([some (some (.ref 72)), some (some (.builtin "object.__setattr__")), some none, some none, some (some (.ref 79)), some (some (.builtin "BaseException.__getattribute__")), some none,
  some (some (.ref 95)), some none, some (some (.ref 847)), some (some (.str (Str.ofString selfLit) 1304))], ([some (.type "function"), some (.type "function")], (some (CFound.val (.builtin "Exception.__init__")),
  some (excClassObj "GrammarError" "GrammarError" 95 94 [.ref 82] [.ref 82, .type "Exception", .type "BaseException", .type "object"] true [] [] false none none (some (.ref 86)) none (some (.str "GrammarError" 326)) (some (.str "GrammarError" 334)) (some (.bool true)) "Exception.__new__")))))
noncomputable def valK (P : Params) : ObsT := (true, valR P)
end
section
noncomputable def selfS : S := match globT.get 152 with
  | some (.str s) => s
  | _ => []
theorem self_lit : selfLit = String.ofList (selfS.map Char.ofNat) := by kernel_rfl
theorem self_bytes : selfLit.toByteArray.data.toList = (selfS.map Char.ofNat).flatMap String.utf8EncodeChar := by
  rw [self_lit, String.toByteArray_ofList]
  unfold List.utf8Encode
  rw [List.data_toByteArray]
theorem self_str : Str.ofString selfLit = toStr selfS := by
  unfold Str.ofString
  rw [self_bytes]
  kernel_rfl
end
section
namespace Hd
noncomputable def sT (i : Nat) : Stmt := match pB.drop i with | s :: _ => s | [] => .Pass p0
noncomputable def mT (i j : Nat) : Stmt := match sT i with
  | .ClassDef _ _ _ b _ _ _ _ _ _ _ => (match b.drop j with | s :: _ => s | [] => .Pass p0)
  | _ => .Pass p0
noncomputable def v (s : String) (t : Nat) : Value := .str (Str.ofString s) t
noncomputable def ss : Nat → List String → List Value
  | _, [] => []
  | t, s :: r => v s t :: ss (t + 1) r
noncomputable def tn : Obj := { cls := .type "tuple", data := .seq #[] }
noncomputable def fz : Obj := { cls := .none, data := .fields #[] }
noncomputable def tp (l : List Value) : Obj := { cls := .type "tuple", data := .seq ⟨l⟩ }
noncomputable def ltv : List (Nat × Nat × Nat) → List Value
  | [] => []
  | (a, b, c) :: r => .int (Int.ofNat a) 0 :: .int (Int.ofNat b) 0 :: .ref c :: ltv r
noncomputable def lt (l : List (Nat × Nat × Nat)) : Obj := { cls := .none, data := .fields ⟨ltv l⟩ }
noncomputable def bf (b : String) (x : Value) : Obj := { cls := .type "builtin_function_or_method", data := .fields #[.builtin b, x] }
noncomputable def su (x : Nat) : Obj := { cls := .type "super", data := .fields #[.ref x, .ref x, .ref x] }
noncomputable def gs (s : String) (t c : Nat) (g : String) (h : Value) : Obj := { cls := .type "getset_descriptor", data := .fields #[v s t, .ref c, .builtin g, h] }
noncomputable def en (P : Params) : List (String × Nat × Value) → List DictEntry
  | [] => []
  | (s, t, x) :: r => ⟨PyData.keyHash P (Str.ofString s), v s t, x⟩ :: en P r
noncomputable def dc (P : Params) (l : List (String × Nat × Value)) (e : Nat) : Obj := { cls := .type "dict", data := .dict ⟨en P l⟩ e }
noncomputable def fr (c g n : Nat) (m : Value) (b : Nat) : Obj := { cls := .type "frame", slots := #[some (.ref c), some (.ref g), some (.ref n), none, some m, none, some (.ref b)] }
noncomputable def coS (n q : Str) (t l ac fl r1 : Nat) (b : Bool) (r2 : Nat) (xs : List Value) (t2 : Nat) : Obj :=
  { cls := .type "code", data := .fields ⟨.str n t :: .str q (t + 1) :: v "/claim/cut.py" (t + 2) :: .int (Int.ofNat l) 0 :: .int (Int.ofNat ac) 0 :: .int 0 0 :: .int 0 0 :: .int (Int.ofNat fl) 0 :: .ref r1 :: .bool b :: .int 181 0 :: .ref r2 :: (xs ++ [.int (Int.ofNat t2) 0, .int (Int.ofNat l) 0, v "/claim/cut.py" (t2 + 1)])⟩ }
noncomputable def co (n q : String) (t l ac fl r1 : Nat) (b : Bool) (r2 : Nat) (xs : List Value) (t2 : Nat) : Obj := coS (Str.ofString n) (Str.ofString q) t l ac fl r1 b r2 xs t2
noncomputable def cl (n q : String) (bs mro : List Value) (ns : Nat) (sub : List Value) (so : List (Option Value)) : Obj :=
  { cls := .type "type", data := .cls { name := Str.ofString n, bases := bs, mro := mro, ns := ns, qualname := Str.ofString q, subclasses := sub }, slots := ⟨so⟩ }
noncomputable def ro (n q : Str) (ps : Arguments) (b : List Stmt) (sc : Scope) : Obj := { cls := .none, data := .func { name := n, qualname := q, params := ps, body := .stmts b, scope := sc, globals := 0, closure := [], defaults := .none, kwdefaults := .none } }
noncomputable def fo (n q : Str) (ps : Arguments) (b : List Stmt) (sc : Scope) (df m : Value) (c : Nat) : Obj := { cls := .type "function", data := .func { name := n, qualname := q, params := ps, body := .stmts b, scope := sc, globals := 3, closure := [], defaults := df, kwdefaults := .none, pyModule := m, code := .ref c } }
noncomputable def fB (d : Stmt) (a t l ac : Nat) (q : String) (vs : List String) (df m : Value) : List Obj := match d with
  | .FunctionDef n ps b _ _ _ sc _ _ _ => [tn, fz, tp (ss (t + 3) vs), tn, ro n (Str.ofString q) ps b sc, coS n (Str.ofString q) t l ac 3 a true (a + 1) [.none, .ref (a + 2), .ref (a + 3), .ref (a + 4)] (t + 3 + vs.length), fo n (Str.ofString q) ps b sc df m (a + 5)]
  | _ => []
noncomputable def gB (d : Stmt) (a t l ac : Nat) (q : String) (df m : Value) : List Obj := match d with
  | .FunctionDef n ps b _ _ _ sc _ _ _ => [tn, fz, ro n (Str.ofString q) ps b sc, coS n (Str.ofString q) t l ac 3 a true (a + 1) [.none, .none, .none, .ref (a + 2)] (t + 3), fo n (Str.ofString q) ps b sc df m (a + 3)]
  | _ => []
noncomputable def m1 : Value := v "grammarmill.source" 194
noncomputable def m2 : Value := v "grammarmill.grammar" 576
noncomputable def m3 : Value := v "grammarmill.grammaker" 747
noncomputable def m4 : Value := v "grammarmill.gramread" 954
noncomputable def m5 : Value := v "law_nn0411_01" 1337
noncomputable def bp : Obj := bf "type.__prepare__" (.type "type")
noncomputable def n4 : List Value := [.none, .none, .none, .none]
noncomputable def ce (c s t : Nat) : List Obj := [gs "__dict__" s c "function.__dict__" (.builtin "function.__dict__#set"), gs "__weakref__" t c "ExceptionGroup.__weakref__" .none, su c, bf "object.__init_subclass__" (.ref c)]
noncomputable abbrev En : Type := String × Nat × Value
noncomputable def eM (t : Nat) (m : Value) : En := ("__module__", t, m)
noncomputable def eQ (t : Nat) (s : String) : En := ("__qualname__", t, v s (t - 1))
noncomputable def eL (t l : Nat) : En := ("__firstlineno__", t, .int (Int.ofNat l) (t - 1))
noncomputable def eS (t a : Nat) : En := ("__static_attributes__", t, .ref a)
noncomputable def eI (t a : Nat) : En := ("__init__", t, .ref a)
noncomputable def eD (t a : Nat) : En := ("__dict__", t, .ref a)
noncomputable def eW (t a : Nat) : En := ("__weakref__", t, .ref a)
noncomputable def eO (t : Nat) : En := ("__doc__", t, .none)
noncomputable def oN : Option Value := some (.builtin "object.__new__")
noncomputable def eN : Option Value := some (.builtin "Exception.__new__")
noncomputable def oT : Option Value := some (.bool true)
noncomputable def sg0 (P : Params) : List Obj := fB (sT 0) 15 187 1 1 "_wall" ["k"] .none (v "__main__" 164)
noncomputable def sg1 (P : Params) : List Obj := [dc P [("n", 214, .int 10 215), ("t", 216, .int 9 217), ("r", 218, .int 13 219), ("f", 220, .int 12 221), ("v", 222, .int 11 223), ("a", 224, .int 7 225), ("b", 226, .int 8 227)] 7]
noncomputable def sg2 (P : Params) : List Obj := [tn, bp, dc P [eM 243 m1, eQ 245 "Position", eL 247 13, eI 257 36, ("told", 264, .ref 43), eS 268 44] 6, tn, lt [(15, 4, 35), (20, 4, 42)], co "Position" "Position" 238 13 0 0 26 false 27 n4 241, fr 28 3 25 m1 0] ++ (fB (mT 10 0) 30 248 15 4 "Position.__init__" ["self", "offset", "line", "column"] .none m1 ++ (fB (mT 10 1) 37 258 20 1 "Position.told" ["self"] .none m1 ++ ([tp (ss 265 ["column", "line", "offset"]), dc P [eM 243 m1, eL 247 13, eI 257 36, ("told", 264, .ref 43), eS 268 44, eD 270 47, eW 272 48, eO 273] 4, cl "Position" "Position" [.type "object"] [.ref 46, .type "object"] 45 [] [none, none, some (v "Position" 236), some (v "Position" 244), oN, oT]] ++ ce 46 269 271 ++ (fB (sT 11) 51 276 22 2 "position_of" ["text", "offset", "at", "line", "begun", "here"] .none m1 ++ ([tp [.type "Exception"], bp, dc P [eM 295 m1, eQ 297 "ToolError", eL 299 31, eI 308 72, ("told", 315, .ref 79), eS 318 80] 6, tn, lt [(33, 4, 71), (38, 4, 78)], co "ToolError" "ToolError" 290 31 0 0 61 false 62 n4 293, fr 63 3 60 m1 0, tp [.none]] ++ (fB (mT 12 0) 66 300 33 3 "ToolError.__init__" ["self", "what", "at"] (.ref 65) m1 ++ (fB (mT 12 1) 73 309 38 1 "ToolError.told" ["self"] .none m1 ++ ([tp (ss 316 ["at", "what"]), dc P [eM 295 m1, eL 299 31, eI 308 72, ("told", 315, .ref 79), eS 318 80, eW 320 83, eO 321] 3, cl "ToolError" "ToolError" [.type "Exception"] [.ref 82, .type "Exception", .type "BaseException", .type "object"] 81 [.ref 95] [some (.ref 58), none, some (v "ToolError" 288), some (v "ToolError" 296), eN, oT], gs "__weakref__" 319 82 "ExceptionGroup.__weakref__" .none, su 82, bf "object.__init_subclass__" (.ref 82), tp [.ref 82], bp, dc P [eM 333 m1, eQ 335 "GrammarError", eL 337 42, eS 338 93] 4, tn, fz, co "GrammarError" "GrammarError" 328 42 0 0 89 false 90 n4 331, fr 91 3 88 m1 0, tn, dc P [eM 333 m1, eL 337 42, eS 338 93, eO 339] 2, cl "GrammarError" "GrammarError" [.ref 82] [.ref 95, .ref 82, .type "Exception", .type "BaseException", .type "object"] 94 [] [some (.ref 86), none, some (v "GrammarError" 326), some (v "GrammarError" 334), eN, oT], su 95, bf "object.__init_subclass__" (.ref 95), tn, bp, dc P [eM 349 m1, eQ 351 "Token", eL 353 44, eI 364 112, ("told", 371, .ref 119), ("is_end", 378, .ref 126), eS 383 127] 7, tn, lt [(46, 4, 111), (52, 4, 118), (55, 4, 125)], co "Token" "Token" 344 44 0 0 101 false 102 n4 347, fr 103 3 100 m1 0, tp [.none]] ++ (fB (mT 14 0) 106 354 46 5 "Token.__init__" ["self", "kind", "text", "at", "worth"] (.ref 105) m1 ++ (fB (mT 14 1) 113 365 52 1 "Token.told" ["self"] .none m1 ++ (fB (mT 14 2) 120 372 55 1 "Token.is_end" ["self"] .none m1 ++ ([tp (ss 379 ["at", "kind", "text", "worth"]), dc P [eM 349 m1, eL 353 44, eI 364 112, ("told", 371, .ref 119), ("is_end", 378, .ref 126), eS 383 127, eD 385 130, eW 387 131, eO 388] 4, cl "Token" "Token" [.type "object"] [.ref 129, .type "object"] 128 [] [none, none, some (v "Token" 342), some (v "Token" 350), oN, oT]] ++ ce 129 384 386))))))))))))
noncomputable def sg3 (P : Params) : List Obj := [tn, bp, dc P [eM 398 m1, eQ 400 "Cursor", eL 402 57, eI 412 148, ("is_done", 419, .ref 155), ("peek", 429, .ref 163), ("starts", 437, .ref 170), ("take", 445, .ref 177), ("skip", 453, .ref 184), ("take_while", 462, .ref 191), ("take_line", 471, .ref 198), ("skip_blanks", 480, .ref 206), ("name", 488, .ref 213), ("number", 497, .ref 220), ("position", 504, .ref 227), ("position_at", 512, .ref 234), ("coded", 524, .ref 241), ("escape", 532, .ref 248), ("quoted", 542, .ref 255), eS 545 256] 20, tn, lt [(59, 4, 147), (63, 4, 154), (66, 4, 162), (72, 4, 169), (75, 4, 176), (82, 4, 183), (88, 4, 190), (94, 4, 197), (102, 4, 205), (105, 4, 212), (111, 4, 219), (119, 4, 226), (122, 4, 233), (125, 4, 240), (133, 4, 247), (147, 4, 254)], co "Cursor" "Cursor" 393 57 0 0 137 false 138 n4 396, fr 139 3 136 m1 0, tp [.int 0 403]] ++ (fB (mT 15 0) 142 404 59 3 "Cursor.__init__" ["self", "text", "at"] (.ref 141) m1 ++ (fB (mT 15 1) 149 413 63 1 "Cursor.is_done" ["self"] .none m1 ++ ([tp [.int 0 420]] ++ (fB (mT 15 2) 157 421 66 2 "Cursor.peek" ["self", "ahead", "at"] (.ref 156) m1 ++ (fB (mT 15 3) 164 430 72 2 "Cursor.starts" ["self", "word"] .none m1 ++ (fB (mT 15 4) 171 438 75 1 "Cursor.take" ["self", "sign"] .none m1 ++ (fB (mT 15 5) 178 446 82 2 "Cursor.skip" ["self", "word"] .none m1 ++ (fB (mT 15 6) 185 454 88 2 "Cursor.take_while" ["self", "signs", "begun"] .none m1 ++ (fB (mT 15 7) 192 463 94 1 "Cursor.take_line" ["self", "end", "row"] .none m1 ++ ([tp [v " \t" 472]] ++ (fB (mT 15 8) 200 473 102 2 "Cursor.skip_blanks" ["self", "signs"] (.ref 199) m1 ++ (fB (mT 15 9) 207 481 105 1 "Cursor.name" ["self", "here"] .none m1 ++ (fB (mT 15 10) 214 489 111 1 "Cursor.number" ["self", "begun", "figures"] .none m1 ++ (fB (mT 15 11) 221 498 119 1 "Cursor.position" ["self"] .none m1 ++ (fB (mT 15 12) 228 505 122 2 "Cursor.position_at" ["self", "offset"] .none m1 ++ (fB (mT 15 13) 235 513 125 4 "Cursor.coded" ["self", "signs", "most", "base", "code", "taken"] .none m1 ++ (fB (mT 15 14) 242 525 133 1 "Cursor.escape" ["self", "sign"] .none m1 ++ (fB (mT 15 15) 249 533 147 2 "Cursor.quoted" ["self", "end", "signs", "sign"] .none m1 ++ ([tp (ss 543 ["at", "text"]), dc P [eM 398 m1, eL 402 57, eI 412 148, ("is_done", 419, .ref 155), ("peek", 429, .ref 163), ("starts", 437, .ref 170), ("take", 445, .ref 177), ("skip", 453, .ref 184), ("take_while", 462, .ref 191), ("take_line", 471, .ref 198), ("skip_blanks", 480, .ref 206), ("name", 488, .ref 213), ("number", 497, .ref 220), ("position", 504, .ref 227), ("position_at", 512, .ref 234), ("coded", 524, .ref 241), ("escape", 532, .ref 248), ("quoted", 542, .ref 255), eS 545 256, eD 547 259, eW 549 260, eO 550] 4, cl "Cursor" "Cursor" [.type "object"] [.ref 258, .type "object"] 257 [] [none, none, some (v "Cursor" 391), some (v "Cursor" 399), oN, oT]] ++ ce 258 546 548 ++ (fB (sT 16) 263 553 159 1 "hex_escape" ["code", "figures"] .none m1 ++ (fB (sT 17) 270 561 162 2 "escaped_sign" ["sign", "marks", "code"] .none m1 ++ (gB (sT 18) 277 570 173 2 "escaped" .none m1 ++ ([tp (ss 580 ["$end", "error", "$undefined"]), tn, bp, dc P [eM 591 m2, eQ 593 "Rule", eL 595 178, eI 613 297, eS 621 298] 5, tn, lt [(180, 4, 296)], co "Rule" "Rule" 586 178 0 0 286 false 287 n4 589, fr 288 3 285 m2 0, tp [.int (-1) 597, .none, .int 0 598, .int 0 599]] ++ (fB (mT 22 0) 291 600 180 8 "Rule.__init__" ["self", "number", "left", "right", "level_of", "action", "line", "before"] (.ref 290) m2 ++ ([tp (ss 614 ["action", "before", "left", "level_of", "line", "number", "right"]), dc P [eM 591 m2, eL 595 178, eI 613 297, eS 621 298, eD 623 301, eW 625 302, eO 626] 4, cl "Rule" "Rule" [.type "object"] [.ref 300, .type "object"] 299 [] [none, none, some (v "Rule" 584), some (v "Rule" 592), oN, oT]] ++ ce 300 622 624)))))))))))))))))))))))))
noncomputable def sg4 (P : Params) : List Obj := [tn, bp, dc P [eM 636 m2, eQ 638 "Grammar", eL 640 188, eI 646 316, ("symbol_count", 653, .ref 323), ("is_terminal", 661, .ref 330), ("is_middle", 669, .ref 337), ("number", 677, .ref 344), ("rules_of", 685, .ref 351), ("item", 694, .ref 358), ("rule_of", 702, .ref 365), ("dot_of", 710, .ref 372), ("after", 718, .ref 379), eS 729 380] 14, tn, lt [(190, 4, 315), (206, 4, 322), (209, 4, 329), (212, 4, 336), (215, 4, 343), (218, 4, 350), (221, 4, 357), (224, 4, 364), (227, 4, 371), (230, 4, 378)], co "Grammar" "Grammar" 631 188 0 0 308 false 309 n4 634, fr 310 3 307 m2 0] ++ (gB (mT 23 0) 312 641 190 7 "Grammar.__init__" .none m2 ++ (fB (mT 23 1) 317 647 206 1 "Grammar.symbol_count" ["self"] .none m2 ++ (fB (mT 23 2) 324 654 209 2 "Grammar.is_terminal" ["self", "symbol"] .none m2 ++ (fB (mT 23 3) 331 662 212 2 "Grammar.is_middle" ["self", "symbol"] .none m2 ++ (fB (mT 23 4) 338 670 215 2 "Grammar.number" ["self", "name"] .none m2 ++ (fB (mT 23 5) 345 678 218 2 "Grammar.rules_of" ["self", "symbol"] .none m2 ++ (fB (mT 23 6) 352 686 221 3 "Grammar.item" ["self", "rule", "dot"] .none m2 ++ (fB (mT 23 7) 359 695 224 2 "Grammar.rule_of" ["self", "item"] .none m2 ++ (fB (mT 23 8) 366 703 227 2 "Grammar.dot_of" ["self", "item"] .none m2 ++ (fB (mT 23 9) 373 711 230 2 "Grammar.after" ["self", "item"] .none m2 ++ ([tp (ss 719 ["by_left", "expect", "item_count", "levels", "names", "offsets", "owners", "rules", "start", "terminal_count"]), dc P [eM 636 m2, eL 640 188, eI 646 316, ("symbol_count", 653, .ref 323), ("is_terminal", 661, .ref 330), ("is_middle", 669, .ref 337), ("number", 677, .ref 344), ("rules_of", 685, .ref 351), ("item", 694, .ref 358), ("rule_of", 702, .ref 365), ("dot_of", 710, .ref 372), ("after", 718, .ref 379), eS 729 380, eD 731 383, eW 733 384, eO 734] 4, cl "Grammar" "Grammar" [.type "object"] [.ref 382, .type "object"] 381 [] [none, none, some (v "Grammar" 629), some (v "Grammar" 637), oN, oT]] ++ ce 382 730 732 ++ (fB (sT 24) 387 737 232 2 "last_terminal" ["right", "terminal_count", "found", "symbol"] .none m2 ++ ([tp (ss 749 ["left", "right", "nonassoc", "precedence"])] ++ (fB (sT 27) 395 754 240 1 "is_literal" ["name"] .none m3 ++ (fB (sT 28) 402 761 242 1 "is_kept" ["name"] .none m3 ++ ([tn, bp, dc P [eM 775 m3, eQ 777 "Draft", eL 779 244, eI 792 422, eS 799 423] 5, tn, lt [(246, 4, 421)], co "Draft" "Draft" 770 244 0 0 412 false 413 n4 773, fr 414 3 411 m3 0] ++ (fB (mT 29 0) 416 780 246 7 "Draft.__init__" ["self", "left", "right", "prec", "action", "line", "before"] .none m3 ++ ([tp (ss 793 ["action", "before", "left", "line", "prec", "right"]), dc P [eM 775 m3, eL 779 244, eI 792 422, eS 799 423, eD 801 426, eW 803 427, eO 804] 4, cl "Draft" "Draft" [.type "object"] [.ref 425, .type "object"] 424 [] [none, none, some (v "Draft" 768), some (v "Draft" 776), oN, oT]] ++ ce 425 800 802))))))))))))))))))
noncomputable def sg5 (P : Params) : List Obj := [tn, bp, dc P [eM 814 m3, eQ 816 "GrammarMaker", eL 818 253, eI 825 443, ("token", 833, .ref 450), ("level", 843, .ref 457), ("set_start", 851, .ref 464), ("set_expect", 859, .ref 471), ("add_left", 867, .ref 478), ("use", 875, .ref 485), ("middle", 886, .ref 492), ("rule", 903, .ref 500), ("is_token", 911, .ref 507), ("start_name", 919, .ref 514), ("level_of", 931, .ref 521), ("made", 937, .ref 526), eS 946 527] 17, tn, lt [(255, 4, 442), (265, 4, 449), (271, 4, 456), (283, 4, 463), (290, 4, 470), (295, 4, 477), (299, 4, 484), (305, 4, 491), (312, 4, 499), (333, 4, 506), (336, 4, 513), (348, 4, 520), (356, 4, 525)], co "GrammarMaker" "GrammarMaker" 809 253 0 0 433 false 434 n4 812, fr 435 3 432 m3 0] ++ (fB (mT 30 0) 437 819 255 1 "GrammarMaker.__init__" ["self"] .none m3 ++ (fB (mT 30 1) 444 826 265 2 "GrammarMaker.token" ["self", "name"] .none m3 ++ (fB (mT 30 2) 451 834 271 3 "GrammarMaker.level" ["self", "side", "names", "name"] .none m3 ++ (fB (mT 30 3) 458 844 283 2 "GrammarMaker.set_start" ["self", "name"] .none m3 ++ (fB (mT 30 4) 465 852 290 2 "GrammarMaker.set_expect" ["self", "number"] .none m3 ++ (fB (mT 30 5) 472 860 295 2 "GrammarMaker.add_left" ["self", "name"] .none m3 ++ (fB (mT 30 6) 479 868 299 2 "GrammarMaker.use" ["self", "name"] .none m3 ++ (fB (mT 30 7) 486 876 305 4 "GrammarMaker.middle" ["self", "action", "line", "before", "name"] .none m3 ++ ([tp [.none, .int 0 887]] ++ (fB (mT 30 8) 494 888 312 5 "GrammarMaker.rule" ["self", "left", "parts", "prec", "line", "right", "action", "at", "kind", "text"] (.ref 493) m3 ++ (fB (mT 30 9) 501 904 333 2 "GrammarMaker.is_token" ["self", "name"] .none m3 ++ (fB (mT 30 10) 508 912 336 1 "GrammarMaker.start_name" ["self", "name"] .none m3 ++ (fB (mT 30 11) 515 920 348 5 "GrammarMaker.level_of" ["self", "draft", "right", "numbers", "terminal_count", "found"] .none m3 ++ (gB (mT 30 12) 522 932 356 1 "GrammarMaker.made" .none m3 ++ ([tp (ss 938 ["drafts", "expect", "lefts", "level_count", "levels", "middle_count", "start", "terminals"]), dc P [eM 814 m3, eL 818 253, eI 825 443, ("token", 833, .ref 450), ("level", 843, .ref 457), ("set_start", 851, .ref 464), ("set_expect", 859, .ref 471), ("add_left", 867, .ref 478), ("use", 875, .ref 485), ("middle", 886, .ref 492), ("rule", 903, .ref 500), ("is_token", 911, .ref 507), ("start_name", 919, .ref 514), ("level_of", 931, .ref 521), ("made", 937, .ref 526), eS 946 527, eD 948 530, eW 950 531, eO 951] 4, cl "GrammarMaker" "GrammarMaker" [.type "object"] [.ref 529, .type "object"] 528 [] [none, none, some (v "GrammarMaker" 807), some (v "GrammarMaker" 815), oN, oT], gs "__dict__" 947 529 "function.__dict__" (.builtin "function.__dict__#set"), gs "__weakref__" 949 529 "ExceptionGroup.__weakref__" .none, su 529, bf "object.__init_subclass__" (.ref 529), tp (ss 956 ["token", "left", "right", "nonassoc", "precedence", "start", "expect"]), tp (ss 966 ["NAME", "LITERAL", "NUMBER"])])))))))))))))))
noncomputable def sg6 (P : Params) : List Obj := [dc P [("NAME", 970, v "sym" 971), ("LITERAL", 972, v "sym" 973), ("ACTION", 974, v "act" 975), ("EMPTY", 976, v "empty" 977)] 4]
noncomputable def sg7 (P : Params) : List Obj := [tn, bp, dc P [eM 990 m4, eQ 992 "GrammarScanner", eL 994 380, eI 1002 550, ("place", 1011, .ref 557), ("skip_space", 1020, .ref 564), ("token", 1031, .ref 571), ("named", 1041, .ref 578), ("figures", 1050, .ref 585), ("literal", 1060, .ref 592), ("action", 1072, .ref 599), ("skip_text", 1081, .ref 606), ("word", 1091, .ref 613), eS 1096 614] 14, tn, lt [(382, 4, 549), (388, 4, 556), (397, 4, 563), (411, 4, 570), (435, 4, 577), (443, 4, 584), (449, 4, 591), (461, 4, 598), (478, 4, 605), (488, 4, 612)], co "GrammarScanner" "GrammarScanner" 985 380 0 0 540 false 541 n4 988, fr 542 3 539 m4 0] ++ (fB (mT 36 0) 544 995 382 2 "GrammarScanner.__init__" ["self", "text"] .none m4 ++ (fB (mT 36 1) 551 1003 388 2 "GrammarScanner.place" ["self", "offset", "text"] .none m4 ++ (fB (mT 36 2) 558 1012 397 1 "GrammarScanner.skip_space" ["self", "cursor", "end"] .none m4 ++ (fB (mT 36 3) 565 1021 411 1 "GrammarScanner.token" ["self", "cursor", "at", "sign", "name"] .none m4 ++ (fB (mT 36 4) 572 1032 435 3 "GrammarScanner.named" ["self", "name", "at", "behind"] .none m4 ++ (fB (mT 36 5) 579 1042 443 2 "GrammarScanner.figures" ["self", "at", "text"] .none m4 ++ (fB (mT 36 6) 586 1051 449 2 "GrammarScanner.literal" ["self", "at", "cursor", "sign"] .none m4 ++ (fB (mT 36 7) 593 1061 461 2 "GrammarScanner.action" ["self", "at", "cursor", "depth", "sign", "whole"] .none m4 ++ (fB (mT 36 8) 600 1073 478 2 "GrammarScanner.skip_text" ["self", "at", "sign"] .none m4 ++ (fB (mT 36 9) 607 1082 488 2 "GrammarScanner.word" ["self", "at", "cursor", "name"] .none m4 ++ ([tp (ss 1092 ["begun", "cursor", "line", "seen"]), dc P [eM 990 m4, eL 994 380, eI 1002 550, ("place", 1011, .ref 557), ("skip_space", 1020, .ref 564), ("token", 1031, .ref 571), ("named", 1041, .ref 578), ("figures", 1050, .ref 585), ("literal", 1060, .ref 592), ("action", 1072, .ref 599), ("skip_text", 1081, .ref 606), ("word", 1091, .ref 613), eS 1096 614, eD 1098 617, eW 1100 618, eO 1101] 4, cl "GrammarScanner" "GrammarScanner" [.type "object"] [.ref 616, .type "object"] 615 [] [none, none, some (v "GrammarScanner" 983), some (v "GrammarScanner" 991), oN, oT]] ++ ce 616 1097 1099 ++ (fB (sT 37) 621 1104 501 1 "scan_grammar" ["text", "scanner", "found", "marks", "token"] .none m4 ++ ([tn, bp, dc P [eM 1122 m4, eQ 1124 "GrammarTree", eL 1126 515, eI 1135 641, ("told", 1141, .ref 646), eS 1144 647] 6, tn, lt [(517, 4, 640), (521, 4, 645)], co "GrammarTree" "GrammarTree" 1117 515 0 0 631 false 632 n4 1120, fr 633 3 630 m4 0] ++ (fB (mT 38 0) 635 1127 517 3 "GrammarTree.__init__" ["self", "decls", "rules"] .none m4 ++ (gB (mT 38 1) 642 1136 521 1 "GrammarTree.told" .none m4 ++ ([tp (ss 1142 ["decls", "rules"]), dc P [eM 1122 m4, eL 1126 515, eI 1135 641, ("told", 1141, .ref 646), eS 1144 647, eD 1146 650, eW 1148 651, eO 1149] 4, cl "GrammarTree" "GrammarTree" [.type "object"] [.ref 649, .type "object"] 648 [] [none, none, some (v "GrammarTree" 1115), some (v "GrammarTree" 1123), oN, oT]] ++ ce 649 1145 1147 ++ (gB (sT 39) 654 1152 525 1 "told_alt" .none m4)))))))))))))))))
noncomputable def sg8 (P : Params) : List Obj := [tn, bp, dc P [eM 1165 m4, eQ 1167 "TreeReader", eL 1169 528, eI 1177 672, ("kind", 1184, .ref 679), ("take", 1192, .ref 686), ("refuse", 1200, .ref 693), ("file", 1209, .ref 700), ("decl", 1218, .ref 707), ("rule", 1227, .ref 714), ("alt", 1236, .ref 721), ("part", 1245, .ref 728), eS 1248 729] 13, tn, lt [(530, 4, 671), (534, 4, 678), (537, 4, 685), (542, 4, 692), (546, 4, 699), (564, 4, 706), (573, 4, 713), (583, 4, 720), (597, 4, 727)], co "TreeReader" "TreeReader" 1160 528 0 0 662 false 663 n4 1163, fr 664 3 661 m4 0] ++ (fB (mT 40 0) 666 1170 530 2 "TreeReader.__init__" ["self", "tokens"] .none m4 ++ (fB (mT 40 1) 673 1178 534 1 "TreeReader.kind" ["self"] .none m4 ++ (fB (mT 40 2) 680 1185 537 1 "TreeReader.take" ["self", "worth"] .none m4 ++ (fB (mT 40 3) 687 1193 542 1 "TreeReader.refuse" ["self", "token"] .none m4 ++ (fB (mT 40 4) 694 1201 546 1 "TreeReader.file" ["self", "decls", "rules"] .none m4 ++ (fB (mT 40 5) 701 1210 564 1 "TreeReader.decl" ["self", "word", "items"] .none m4 ++ (fB (mT 40 6) 708 1219 573 1 "TreeReader.rule" ["self", "head", "alts"] .none m4 ++ (fB (mT 40 7) 715 1228 583 1 "TreeReader.alt" ["self", "parts", "prec"] .none m4 ++ (fB (mT 40 8) 722 1237 597 1 "TreeReader.part" ["self", "word", "worth"] .none m4 ++ ([tp (ss 1246 ["at", "tokens"]), dc P [eM 1165 m4, eL 1169 528, eI 1177 672, ("kind", 1184, .ref 679), ("take", 1192, .ref 686), ("refuse", 1200, .ref 693), ("file", 1209, .ref 700), ("decl", 1218, .ref 707), ("rule", 1227, .ref 714), ("alt", 1236, .ref 721), ("part", 1245, .ref 728), eS 1248 729, eD 1250 732, eW 1252 733, eO 1253] 4, cl "TreeReader" "TreeReader" [.type "object"] [.ref 731, .type "object"] 730 [] [none, none, some (v "TreeReader" 1158), some (v "TreeReader" 1166), oN, oT]] ++ ce 731 1249 1251 ++ (fB (sT 41) 736 1256 603 1 "read_tree" ["text"] .none m4 ++ (gB (sT 42) 743 1263 605 3 "declare" .none m4 ++ (fB (sT 43) 748 1269 622 1 "plain_parts" ["parts", "symbols", "empties", "found", "kind", "text"] .none m4 ++ (fB (sT 44) 755 1281 636 1 "grammar_of" ["tree", "maker", "word", "items", "head", "alts", "parts", "prec"] .none m4 ++ (fB (sT 45) 762 1295 644 1 "read_grammar" ["text"] .none m4 ++ ([tp (ss 1306 ["token", "left", "right", "nonassoc", "precedence", "start", "expect"])] ++ (gB (sT 49) 770 1314 649 1 "tree_of" .none (v "grammarmill.selfgram" 1302) ++ (fB (sT 50) 775 1320 656 1 "head_name" ["text"] .none (v "grammarmill.selfgram" 1302) ++ (fB (sT 51) 782 1327 658 1 "told_token" ["token", "word", "name", "sign"] .none (v "grammarmill.selfgram" 1302) ++ ([tp (ss 1339 ["KIND", "NAME", "HEAD", "LITERAL", "NUMBER", "MARK", "BAR", "SEMI", "ACTION", "PREC", "EMPTY"]), tp (ss 1351 ["file", "decls", "syms", "sym", "name", "rules", "rule", "alts", "alt", "parts"]), tp (ss 1362 ["file", "decls MARK rules", "$$=[$1,$3]"]), tp (ss 1365 ["file", "decls MARK rules MARK", "$$=[$1,$3]"]), tp (ss 1368 ["decls", "", "$$=[]"]), tp (ss 1371 ["decls", "decls KIND syms", "$$=push($1,[$2,$3])"]), tp (ss 1374 ["syms", "sym", "$$=[$1]"]), tp (ss 1377 ["syms", "syms sym", "$$=push($1,$2)"]), tp [v "sym" 1380, v "name" 1381, .none], tp [v "sym" 1382, v "NUMBER" 1383, .none], tp [v "name" 1384, v "NAME" 1385, .none], tp [v "name" 1386, v "LITERAL" 1387, .none], tp (ss 1388 ["rules", "rule", "$$=[$1]"]), tp (ss 1391 ["rules", "rules rule", "$$=push($1,$2)"]), tp [v "rule" 1394, v "alts" 1395, .none], tp [v "rule" 1396, v "alts SEMI" 1397, .none], tp (ss 1398 ["alts", "HEAD alt", "$$=[$1,[$2]]"]), tp (ss 1401 ["alts", "alts BAR alt", "$$=[head($1),push(last($1),$3)]"]), tp (ss 1404 ["alt", "parts", "$$=[$1,\"\"]"]), tp (ss 1407 ["alt", "parts PREC name", "$$=[$1,$3]"]), tp (ss 1410 ["alt", "parts PREC name ACTION", "$$=[push($1,[\"act\",$4]),$3]"]), tp (ss 1413 ["parts", "", "$$=[]"]), tp (ss 1416 ["parts", "parts NAME", "$$=push($1,[\"sym\",$2])"]), tp (ss 1419 ["parts", "parts LITERAL", "$$=push($1,[\"sym\",$2])"]), tp (ss 1422 ["parts", "parts ACTION", "$$=push($1,[\"act\",$2])"]), tp (ss 1425 ["parts", "parts EMPTY", "$$=push($1,[\"empty\",\"\"])"]), tp [.ref 791, .ref 792, .ref 793, .ref 794, .ref 795, .ref 796, .ref 797, .ref 798, .ref 799, .ref 800, .ref 801, .ref 802, .ref 803, .ref 804, .ref 805, .ref 806, .ref 807, .ref 808, .ref 809, .ref 810, .ref 811, .ref 812, .ref 813, .ref 814], tp (ss 1429 [" ", "\n", " // a : b", " /* c | */", "\t"]), tp (ss 1435 ["token", "left", "right", "nonassoc", "precedence", "start", "expect"]), tp (ss 1443 ["a", "'+'", "tok_1", "s"])] ++ (fB (sT 59) 819 1448 688 3 "_law_pick" ["row", "at", "most", "turn"] .none m5 ++ (gB (sT 60) 826 1458 691 1 "_law_is_read" .none m5 ++ (gB (sT 61) 831 1464 701 1 "_law_is_tree" .none m5 ++ (fB (sT 62) 836 1470 723 1 "_law_is_token" ["row", "sort", "at", "word", "name", "cases", "bad", "error", "kind", "text", "due_kind", "due_text", "due_worth", "token"] .none m5 ++ (gB (sT 63) 843 1490 739 1 "law" .none m5)))))))))))))))))))))))))
noncomputable def gE : List (String × Nat × Value) := [("__doc__", 166, .none), ("__package__", 167, .none), ("__loader__", 168, .builtin "__main__.__loader__#opaque"), ("__spec__", 169, .none), ("__annotations__", 170, .ref 6), ("__builtins__", 171, .ref 4), ("__file__", 173, v "/claim/cut.py" 172), ("__cached__", 174, .none), ("_wall", 193, .ref 21), ("SMALL", 197, v "abcdefghijklmnopqrstuvwxyz" 196), ("LETTERS", 200, v "abcdefghijklmnopqrstuvwxyzABCDEFGHIJKLMNOPQRSTUVWXYZ" 199), ("FIGURES", 202, v "0123456789" 201), ("NAME_SIGNS", 206, v "abcdefghijklmnopqrstuvwxyzABCDEFGHIJKLMNOPQRSTUVWXYZ_0123456789" 205), ("HEX_SIGNS", 209, v "0123456789abcdefABCDEF" 208), ("OCTAL_SIGNS", 211, v "01234567" 210), ("MOST_FIGURES", 213, .int 4000 212), ("PLAIN_ESCAPES", 235, .ref 22), ("Position", 275, .ref 46), ("position_of", 287, .ref 57), ("ToolError", 325, .ref 82), ("GrammarError", 341, .ref 95), ("Token", 390, .ref 129), ("Cursor", 552, .ref 258), ("hex_escape", 560, .ref 269), ("escaped_sign", 569, .ref 276), ("escaped", 575, .ref 281), ("END", 579, .int 0 578), ("OWN_TERMINALS", 583, .ref 282), ("Rule", 628, .ref 300), ("Grammar", 736, .ref 382), ("last_terminal", 746, .ref 393), ("SIDES", 753, .ref 394), ("is_literal", 760, .ref 401), ("is_kept", 767, .ref 408), ("Draft", 806, .ref 425), ("GrammarMaker", 953, .ref 529), ("KINDS", 963, .ref 534), ("SPACE", 965, v " \t\x0d\n\x0c\x0b" 964), ("SYM_KINDS", 969, .ref 535), ("PART_WORDS", 982, .ref 536), ("GrammarScanner", 1103, .ref 616), ("scan_grammar", 1114, .ref 627), ("GrammarTree", 1151, .ref 649), ("told_alt", 1157, .ref 658), ("TreeReader", 1255, .ref 731), ("read_tree", 1262, .ref 742), ("declare", 1268, .ref 747), ("plain_parts", 1280, .ref 754), ("grammar_of", 1294, .ref 761), ("read_grammar", 1301, .ref 768), ("SELF_TEXT", 1305, .str (Str.ofString selfLit) 1304), ("KIND_WORDS", 1313, .ref 769), ("tree_of", 1319, .ref 774), ("head_name", 1326, .ref 781), ("told_token", 1336, .ref 788), ("_law_tokens", 1350, .ref 789), ("_law_lefts", 1361, .ref 790), ("_law_rules", 1428, .ref 815), ("_law_gaps", 1434, .ref 816), ("_law_words", 1442, .ref 817), ("_law_names", 1447, .ref 818), ("_law_pick", 1457, .ref 825), ("_law_is_read", 1463, .ref 830), ("_law_is_tree", 1469, .ref 835), ("_law_is_token", 1489, .ref 842), ("law", 1495, .ref 847)]
noncomputable def lE : List (Nat × Nat × Nat) := [(1, 0, 20), (13, 0, 28), (22, 0, 56), (31, 0, 63), (42, 0, 91), (44, 0, 103), (57, 0, 139), (159, 0, 268), (162, 0, 275), (173, 0, 280), (178, 0, 288), (188, 0, 310), (232, 0, 392), (240, 0, 400), (242, 0, 407), (244, 0, 414), (253, 0, 435), (380, 0, 542), (501, 0, 626), (515, 0, 633), (525, 0, 657), (528, 0, 664), (603, 0, 741), (605, 0, 746), (622, 0, 753), (636, 0, 760), (644, 0, 767), (649, 0, 773), (656, 0, 780), (658, 0, 787), (688, 0, 824), (691, 0, 829), (701, 0, 834), (723, 0, 841), (739, 0, 846)]
noncomputable def hd (P : Params) (two : List (String × Nat × Value)) (e : Nat) (m : Value) (k q : Nat) : List Obj := [boot_o_0 P, boot_o_1 P, { cls := .none, data := .dict ⟨en P two⟩ e }, dc P (("__name__", 165, m) :: gE.take (k - 1)) k, boot_o_4 P, boot_o_5 P, boot_o_6 P, boot_o_7 P, boot_o_8 P, boot_o_9 P, boot_o_10 P, tn, lt (lE.take q),
  co "<module>" "<module>" 182 1 0 0 11 false 12 [.none, .none, .none, .none] 185, fr 13 3 3 (v "__main__" 164) 0]
noncomputable def tw : List (String × Nat × Value) := [("type.__subclasses__.Exception.0", 322, .int 82 0), ("type.__subclasses__.Exception.n", 323, .int 1 0)]
noncomputable def oz1 (P : Params) : List Obj := hd P [] 0 m1 17 1 ++ sg0 P
noncomputable def oz2 (P : Params) : List Obj := hd P [] 0 m1 18 1 ++ (sg0 P ++ sg1 P)
noncomputable def oz3 (P : Params) : List Obj := hd P tw 2 m1 23 6 ++ (sg0 P ++ (sg1 P ++ sg2 P))
noncomputable def oz4 (P : Params) : List Obj := hd P tw 2 m2 30 11 ++ (sg0 P ++ (sg1 P ++ (sg2 P ++ sg3 P)))
noncomputable def oz5 (P : Params) : List Obj := hd P tw 2 m3 36 16 ++ (sg0 P ++ (sg1 P ++ (sg2 P ++ (sg3 P ++ sg4 P))))
noncomputable def oz6 (P : Params) : List Obj := hd P tw 2 m4 40 17 ++ (sg0 P ++ (sg1 P ++ (sg2 P ++ (sg3 P ++ (sg4 P ++ sg5 P)))))
noncomputable def oz7 (P : Params) : List Obj := hd P tw 2 m4 41 17 ++ (sg0 P ++ (sg1 P ++ (sg2 P ++ (sg3 P ++ (sg4 P ++ (sg5 P ++ sg6 P))))))
noncomputable def oz8 (P : Params) : List Obj := hd P tw 2 m4 45 21 ++ (sg0 P ++ (sg1 P ++ (sg2 P ++ (sg3 P ++ (sg4 P ++ (sg5 P ++ (sg6 P ++ sg7 P)))))))
noncomputable def oz9 (P : Params) : List Obj := hd P tw 2 m5 67 35 ++ (sg0 P ++ (sg1 P ++ (sg2 P ++ (sg3 P ++ (sg4 P ++ (sg5 P ++ (sg6 P ++ (sg7 P ++ sg8 P))))))))
noncomputable def stO (l : List Obj) (n t : Nat) (os : OsState) : SharedT := ⟨insAll .nil 0 l, n, {}, #[], {}, t, os⟩
end Hd
end
section
namespace Hd
noncomputable def ls (a n : Nat) : List Stmt := (pB.drop a).take n
theorem hop {w : World} {f : Nat} {s s' : SharedT} {l : List Stmt} {p p' : Pos} {ob : List Obj} (hl : s'.tree.list s'.n = ob)
    (h : (segRunT treeTable pr w 11 ann6 1 f s (piecesOf l envT cE p [topFrame p0])).map (fun r => (r.1, (r.2.2, (r.2.1.n, (r.2.1.toks, (r.2.1.life, (r.2.1.gens, (r.2.1.drawn, (r.2.1.os, r.2.1.tree.list r.2.1.n))))))))) = some (.next, ((cE, p'), (s'.n, (s'.toks, (s'.life, (s'.gens, (s'.drawn, (s'.os, ob)))))))) ) :
    segRun treeTable pr w 11 ann6 1 f s.abs (piecesOf l envT cE p [topFrame p0]) = some (.next, s'.abs, cE, p') := by
  obtain ⟨⟨fl, ⟨t, n, li, g, d, k, o⟩, c, q⟩, h1, h2⟩ := Option.map_eq_some_iff.mp h
  obtain ⟨t', n', li', g', d', k', o'⟩ := s'
  injection h2 with a h2
  injection h2 with b h2
  injection b with b1 b2
  injection h2 with c1 h2
  injection h2 with c2 h2
  injection h2 with c3 h2
  injection h2 with c4 h2
  injection h2 with c5 h2
  injection h2 with c6 c7
  dsimp only at a b1 b2 c1 c2 c3 c4 c5 c6 c7 hl
  subst a b1 b2 c1 c2 c3 c4 c5 c6
  rw [segRun_of h1]
  unfold SharedT.abs absHeap
  dsimp only
  rw [c7, hl]
end Hd
end
section
namespace Hd
theorem nr_cons (lk : Look) (s : Stmt) (r : List Stmt) : noRoadLSs lk (s :: r) = (noRoadLS lk s && noRoadLSs lk r) := by kernel_rfl
theorem nr_nil (lk : Look) : noRoadLSs lk [] = true := by kernel_rfl
theorem nr_app (lk : Look) : ∀ a b : List Stmt, noRoadLSs lk (a ++ b) = (noRoadLSs lk a && noRoadLSs lk b)
  | [], b => by rw [nr_nil]; rfl
  | s :: a, b => by
    rw [List.cons_append, nr_cons, nr_cons, nr_app lk a b, Bool.and_assoc]
noncomputable def lk0 : Look := { strict := false, foot := none }
noncomputable def lm (a n : Nat) : List Stmt := (pr.main.body.drop a).take n
theorem nr_lm {a n : Nat} (x : noRoadLSs lk0 (lm a n) = true) (y : noRoadLSs lk0 (pr.main.body.drop (a + n)) = true) : noRoadLSs lk0 (pr.main.body.drop a) = true := by
  rw [← List.take_append_drop n (pr.main.body.drop a), nr_app, List.drop_drop, y, show (pr.main.body.drop a).take n = lm a n from rfl, x]
  rfl
end Hd
end
section
namespace Hd
theorem e47 : lm 47 1 = [.Assign [.Name "SELF_TEXT" ⟨647, 0, 647, 9⟩] (.Constant (.str (Str.ofString selfLit)) 0 ⟨647, 12, 647, 713⟩) ⟨647, 0, 647, 713⟩] := by kernel_rfl
theorem nr0 : noRoadLSs lk0 (lm 0 30) = true := by
  rw [PySem.W.Fast.te8326940854005059898]
  kernel_rfl
theorem nr30 : noRoadLSs lk0 (lm 30 7) = true := by
  rw [PySem.W.Fast.te8326940854005059898]
  kernel_rfl
theorem nr37 : noRoadLSs lk0 (lm 37 10) = true := by
  rw [PySem.W.Fast.te8326940854005059898]
  kernel_rfl
theorem nr47 : noRoadLSs lk0 (lm 47 1) = true := by
  rw [e47, self_str, PySem.W.Fast.te8326940854005059898]
  kernel_rfl
theorem nr48 : noRoadLSs lk0 (pr.main.body.drop 48) = true := by
  rw [PySem.W.Fast.te8326940854005059898]
  kernel_rfl
theorem wb1 : readsOut pr pr.main.body "vars" = false := by
  rw [PySem.W.Fast.te13343964577679436407]
  kernel_rfl
theorem wb2 : readsOut pr pr.main.body "dir" = false := by
  rw [PySem.W.Fast.te13343964577679436407]
  kernel_rfl
theorem wb3 : readsOut pr pr.main.body "locals" = false := by
  rw [PySem.W.Fast.te13343964577679436407]
  kernel_rfl
theorem wba : (["vars", "dir", "locals"] : List Str).filter (readsOut pr pr.main.body) = [] := by simp only [List.filter_cons, wb1, wb2, wb3, List.filter_nil, Bool.false_eq_true, if_false]
theorem wst : (!(importedModules pr.main.body).all cThrough.contains) = false := by kernel_rfl
theorem w_road : noRoadLSs { strict := !(importedModules pr.main.body).all cThrough.contains, foot := none, bare := (["vars", "dir", "locals"] : List Str).filter (readsOut pr pr.main.body) } pr.main.body = true := by
  rw [wst, wba]
  exact nr_lm nr0 (nr_lm nr30 (nr_lm nr37 (nr_lm nr47 nr48)))
end Hd
end
section
namespace Hd
noncomputable abbrev rsp : String := "special-get-raises"
theorem both {Q : World → Prop} (w : World) (h0 : Q (w.withFollow rsp false)) (h1 : Q (w.withFollow rsp true)) : Q w := by
  have h : ∀ b, Q (w.withFollow rsp b) := fun b => match b with
    | false => h0
    | true => h1
  have h := h (w.params.followText rsp)
  rw [World.withFollow_self] at h
  exact h
theorem pc0 (w : World) (os : OsState) : (segRunT treeTable pr w 11 ann6 1 1150 (S15 w.params os) (piecesOf (ls 0 9) envT cE ⟨0, 0, 0, 0⟩ [topFrame p0])).map (fun r => (r.1, (r.2.2, (r.2.1.n, (r.2.1.toks, (r.2.1.life, (r.2.1.gens, (r.2.1.drawn, (r.2.1.os, r.2.1.tree.list r.2.1.n))))))))) = some (.next, ((cE, ⟨11, 0, 11, 12⟩), (22, (214, ({}, (#[], ({}, (os, oz1 w.params)))))))) := by
  rw [PySem.W.Fast.te10110043849684766642, PySem.W.Fast.te14364793385576792824]
  kernel_rfl
theorem pc1f (w : World) (os : OsState) : (segRunT treeTable pr (w.withFollow rsp false) 11 ann6 1 1150 (stO (oz1 (w.withFollow rsp false).params) 22 214 os) (piecesOf (ls 9 1) envT cE ⟨11, 0, 11, 12⟩ [topFrame p0])).map (fun r => (r.1, (r.2.2, (r.2.1.n, (r.2.1.toks, (r.2.1.life, (r.2.1.gens, (r.2.1.drawn, (r.2.1.os, r.2.1.tree.list r.2.1.n))))))))) = some (.next, ((cE, ⟨12, 0, 12, 13⟩), (23, (236, ({}, (#[], ({}, (os, oz2 (w.withFollow rsp false).params)))))))) := by
  rw [PySem.W.Fast.te10110043849684766642, PySem.W.Fast.te14364793385576792824]
  kernel_rfl
theorem pc1t (w : World) (os : OsState) : (segRunT treeTable pr (w.withFollow rsp true) 11 ann6 1 1150 (stO (oz1 (w.withFollow rsp true).params) 22 214 os) (piecesOf (ls 9 1) envT cE ⟨11, 0, 11, 12⟩ [topFrame p0])).map (fun r => (r.1, (r.2.2, (r.2.1.n, (r.2.1.toks, (r.2.1.life, (r.2.1.gens, (r.2.1.drawn, (r.2.1.os, r.2.1.tree.list r.2.1.n))))))))) = some (.next, ((cE, ⟨12, 0, 12, 13⟩), (23, (236, ({}, (#[], ({}, (os, oz2 (w.withFollow rsp true).params)))))))) := by
  rw [PySem.W.Fast.te10110043849684766642, PySem.W.Fast.te14364793385576792824]
  kernel_rfl
theorem pc1 (w : World) (os : OsState) : (segRunT treeTable pr w 11 ann6 1 1150 (stO (oz1 w.params) 22 214 os) (piecesOf (ls 9 1) envT cE ⟨11, 0, 11, 12⟩ [topFrame p0])).map (fun r => (r.1, (r.2.2, (r.2.1.n, (r.2.1.toks, (r.2.1.life, (r.2.1.gens, (r.2.1.drawn, (r.2.1.os, r.2.1.tree.list r.2.1.n))))))))) = some (.next, ((cE, ⟨12, 0, 12, 13⟩), (23, (236, ({}, (#[], ({}, (os, oz2 w.params)))))))) := both (Q := fun w => (segRunT treeTable pr w 11 ann6 1 1150 (stO (oz1 w.params) 22 214 os) (piecesOf (ls 9 1) envT cE ⟨11, 0, 11, 12⟩ [topFrame p0])).map (fun r => (r.1, (r.2.2, (r.2.1.n, (r.2.1.toks, (r.2.1.life, (r.2.1.gens, (r.2.1.drawn, (r.2.1.os, r.2.1.tree.list r.2.1.n))))))))) = some (.next, ((cE, ⟨12, 0, 12, 13⟩), (23, (236, ({}, (#[], ({}, (os, oz2 w.params))))))))) w (pc1f w os) (pc1t w os)
theorem pc2 (w : World) (os : OsState) : (segRunT treeTable pr w 11 ann6 1 1150 (stO (oz2 w.params) 23 236 os) (piecesOf (ls 10 5) envT cE ⟨12, 0, 12, 13⟩ [topFrame p0])).map (fun r => (r.1, (r.2.2, (r.2.1.n, (r.2.1.toks, (r.2.1.life, (r.2.1.gens, (r.2.1.drawn, (r.2.1.os, r.2.1.tree.list r.2.1.n))))))))) = some (.next, ((cE, ⟨44, 0, 56, 16⟩), (134, (391, ({}, (#[], ({}, (os, oz3 w.params)))))))) := by
  rw [PySem.W.Fast.te10110043849684766642, PySem.W.Fast.te14364793385576792824]
  kernel_rfl
theorem pc3 (w : World) (os : OsState) : (segRunT treeTable pr w 11 ann6 1 1150 (stO (oz3 w.params) 134 391 os) (piecesOf (ls 15 8) envT cE ⟨44, 0, 56, 16⟩ [topFrame p0])).map (fun r => (r.1, (r.2.2, (r.2.1.n, (r.2.1.toks, (r.2.1.life, (r.2.1.gens, (r.2.1.drawn, (r.2.1.os, r.2.1.tree.list r.2.1.n))))))))) = some (.next, ((cE, ⟨178, 0, 187, 28⟩), (305, (629, ({}, (#[], ({}, (os, oz4 w.params)))))))) := by
  rw [PySem.W.Fast.te10110043849684766642, PySem.W.Fast.te14364793385576792824]
  kernel_rfl
theorem pc4 (w : World) (os : OsState) : (segRunT treeTable pr w 11 ann6 1 1150 (stO (oz4 w.params) 305 629 os) (piecesOf (ls 23 7) envT cE ⟨178, 0, 187, 28⟩ [topFrame p0])).map (fun r => (r.1, (r.2.2, (r.2.1.n, (r.2.1.toks, (r.2.1.life, (r.2.1.gens, (r.2.1.drawn, (r.2.1.os, r.2.1.tree.list r.2.1.n))))))))) = some (.next, ((cE, ⟨244, 0, 252, 28⟩), (430, (807, ({}, (#[], ({}, (os, oz5 w.params)))))))) := by
  rw [PySem.W.Fast.te10110043849684766642, PySem.W.Fast.te14364793385576792824]
  kernel_rfl
theorem pc5 (w : World) (os : OsState) : (segRunT treeTable pr w 11 ann6 1 1150 (stO (oz5 w.params) 430 807 os) (piecesOf (ls 30 5) envT cE ⟨244, 0, 252, 28⟩ [topFrame p0])).map (fun r => (r.1, (r.2.2, (r.2.1.n, (r.2.1.toks, (r.2.1.life, (r.2.1.gens, (r.2.1.drawn, (r.2.1.os, r.2.1.tree.list r.2.1.n))))))))) = some (.next, ((cE, ⟨378, 0, 378, 9⟩), (536, (970, ({}, (#[], ({}, (os, oz6 w.params)))))))) := by
  rw [PySem.W.Fast.te10110043849684766642, PySem.W.Fast.te14364793385576792824]
  kernel_rfl
theorem pc6f (w : World) (os : OsState) : (segRunT treeTable pr (w.withFollow rsp false) 11 ann6 1 1150 (stO (oz6 (w.withFollow rsp false).params) 536 970 os) (piecesOf (ls 35 1) envT cE ⟨378, 0, 378, 9⟩ [topFrame p0])).map (fun r => (r.1, (r.2.2, (r.2.1.n, (r.2.1.toks, (r.2.1.life, (r.2.1.gens, (r.2.1.drawn, (r.2.1.os, r.2.1.tree.list r.2.1.n))))))))) = some (.next, ((cE, ⟨379, 0, 379, 10⟩), (537, (983, ({}, (#[], ({}, (os, oz7 (w.withFollow rsp false).params)))))))) := by
  rw [PySem.W.Fast.te10110043849684766642, PySem.W.Fast.te14364793385576792824]
  kernel_rfl
theorem pc6t (w : World) (os : OsState) : (segRunT treeTable pr (w.withFollow rsp true) 11 ann6 1 1150 (stO (oz6 (w.withFollow rsp true).params) 536 970 os) (piecesOf (ls 35 1) envT cE ⟨378, 0, 378, 9⟩ [topFrame p0])).map (fun r => (r.1, (r.2.2, (r.2.1.n, (r.2.1.toks, (r.2.1.life, (r.2.1.gens, (r.2.1.drawn, (r.2.1.os, r.2.1.tree.list r.2.1.n))))))))) = some (.next, ((cE, ⟨379, 0, 379, 10⟩), (537, (983, ({}, (#[], ({}, (os, oz7 (w.withFollow rsp true).params)))))))) := by
  rw [PySem.W.Fast.te10110043849684766642, PySem.W.Fast.te14364793385576792824]
  kernel_rfl
theorem pc6 (w : World) (os : OsState) : (segRunT treeTable pr w 11 ann6 1 1150 (stO (oz6 w.params) 536 970 os) (piecesOf (ls 35 1) envT cE ⟨378, 0, 378, 9⟩ [topFrame p0])).map (fun r => (r.1, (r.2.2, (r.2.1.n, (r.2.1.toks, (r.2.1.life, (r.2.1.gens, (r.2.1.drawn, (r.2.1.os, r.2.1.tree.list r.2.1.n))))))))) = some (.next, ((cE, ⟨379, 0, 379, 10⟩), (537, (983, ({}, (#[], ({}, (os, oz7 w.params)))))))) := both (Q := fun w => (segRunT treeTable pr w 11 ann6 1 1150 (stO (oz6 w.params) 536 970 os) (piecesOf (ls 35 1) envT cE ⟨378, 0, 378, 9⟩ [topFrame p0])).map (fun r => (r.1, (r.2.2, (r.2.1.n, (r.2.1.toks, (r.2.1.life, (r.2.1.gens, (r.2.1.drawn, (r.2.1.os, r.2.1.tree.list r.2.1.n))))))))) = some (.next, ((cE, ⟨379, 0, 379, 10⟩), (537, (983, ({}, (#[], ({}, (os, oz7 w.params))))))))) w (pc6f w os) (pc6t w os)
theorem pc7 (w : World) (os : OsState) : (segRunT treeTable pr w 11 ann6 1 1150 (stO (oz7 w.params) 537 983 os) (piecesOf (ls 36 4) envT cE ⟨379, 0, 379, 10⟩ [topFrame p0])).map (fun r => (r.1, (r.2.2, (r.2.1.n, (r.2.1.toks, (r.2.1.life, (r.2.1.gens, (r.2.1.drawn, (r.2.1.os, r.2.1.tree.list r.2.1.n))))))))) = some (.next, ((cE, ⟨525, 0, 527, 64⟩), (659, (1158, ({}, (#[], ({}, (os, oz8 w.params)))))))) := by
  rw [PySem.W.Fast.te10110043849684766642, PySem.W.Fast.te14364793385576792824]
  kernel_rfl
theorem pc8 (w : World) (os : OsState) : (segRunT treeTable pr w 11 ann6 1 1150 (stO (oz8 w.params) 659 1158 os) (piecesOf (ls 40 24) envT cE ⟨525, 0, 527, 64⟩ [topFrame p0])).map (fun r => (r.1, (r.2.2, (r.2.1.n, (r.2.1.toks, (r.2.1.life, (r.2.1.gens, (r.2.1.drawn, (r.2.1.os, r.2.1.tree.list r.2.1.n))))))))) = some (.next, ((cE, ⟨739, 0, 743, 73⟩), (848, (1496, ({}, (#[], ({}, (os, oz9 w.params)))))))) := by
  rw [PySem.W.Fast.te10110043849684766642, PySem.W.Fast.te14364793385576792824]
  kernel_rfl
end Hd
end
section
namespace Hd
theorem l1 (P : Params) (os : OsState) : (stO (oz1 P) 22 214 os).tree.list 22 = oz1 P := by kernel_rfl
theorem l2 (P : Params) (os : OsState) : (stO (oz2 P) 23 236 os).tree.list 23 = oz2 P := by kernel_rfl
theorem l3 (P : Params) (os : OsState) : (stO (oz3 P) 134 391 os).tree.list 134 = oz3 P := by kernel_rfl
theorem l4 (P : Params) (os : OsState) : (stO (oz4 P) 305 629 os).tree.list 305 = oz4 P := by kernel_rfl
theorem l5 (P : Params) (os : OsState) : (stO (oz5 P) 430 807 os).tree.list 430 = oz5 P := by kernel_rfl
theorem l6 (P : Params) (os : OsState) : (stO (oz6 P) 536 970 os).tree.list 536 = oz6 P := by kernel_rfl
theorem l7 (P : Params) (os : OsState) : (stO (oz7 P) 537 983 os).tree.list 537 = oz7 P := by kernel_rfl
theorem l8 (P : Params) (os : OsState) : (stO (oz8 P) 659 1158 os).tree.list 659 = oz8 P := by kernel_rfl
theorem l9 (P : Params) (os : OsState) : (stO (oz9 P) 848 1496 os).tree.list 848 = oz9 P := by kernel_rfl
theorem q0 (w : World) (os : OsState) : segRun treeTable pr w 11 ann6 1 1150 (S15 w.params os).abs (piecesOf (ls 0 9) envT cE ⟨0, 0, 0, 0⟩ [topFrame p0]) = some (.next, (stO (oz1 w.params) 22 214 os).abs, cE, ⟨11, 0, 11, 12⟩) := hop (s' := stO (oz1 w.params) 22 214 os) (l1 _ _) (pc0 w os)
theorem q1 (w : World) (os : OsState) : segRun treeTable pr w 11 ann6 1 1150 (stO (oz1 w.params) 22 214 os).abs (piecesOf (ls 9 1) envT cE ⟨11, 0, 11, 12⟩ [topFrame p0]) = some (.next, (stO (oz2 w.params) 23 236 os).abs, cE, ⟨12, 0, 12, 13⟩) := hop (s' := stO (oz2 w.params) 23 236 os) (l2 _ _) (pc1 w os)
theorem q2 (w : World) (os : OsState) : segRun treeTable pr w 11 ann6 1 1150 (stO (oz2 w.params) 23 236 os).abs (piecesOf (ls 10 5) envT cE ⟨12, 0, 12, 13⟩ [topFrame p0]) = some (.next, (stO (oz3 w.params) 134 391 os).abs, cE, ⟨44, 0, 56, 16⟩) := hop (s' := stO (oz3 w.params) 134 391 os) (l3 _ _) (pc2 w os)
theorem q3 (w : World) (os : OsState) : segRun treeTable pr w 11 ann6 1 1150 (stO (oz3 w.params) 134 391 os).abs (piecesOf (ls 15 8) envT cE ⟨44, 0, 56, 16⟩ [topFrame p0]) = some (.next, (stO (oz4 w.params) 305 629 os).abs, cE, ⟨178, 0, 187, 28⟩) := hop (s' := stO (oz4 w.params) 305 629 os) (l4 _ _) (pc3 w os)
theorem q4 (w : World) (os : OsState) : segRun treeTable pr w 11 ann6 1 1150 (stO (oz4 w.params) 305 629 os).abs (piecesOf (ls 23 7) envT cE ⟨178, 0, 187, 28⟩ [topFrame p0]) = some (.next, (stO (oz5 w.params) 430 807 os).abs, cE, ⟨244, 0, 252, 28⟩) := hop (s' := stO (oz5 w.params) 430 807 os) (l5 _ _) (pc4 w os)
theorem q5 (w : World) (os : OsState) : segRun treeTable pr w 11 ann6 1 1150 (stO (oz5 w.params) 430 807 os).abs (piecesOf (ls 30 5) envT cE ⟨244, 0, 252, 28⟩ [topFrame p0]) = some (.next, (stO (oz6 w.params) 536 970 os).abs, cE, ⟨378, 0, 378, 9⟩) := hop (s' := stO (oz6 w.params) 536 970 os) (l6 _ _) (pc5 w os)
theorem q6 (w : World) (os : OsState) : segRun treeTable pr w 11 ann6 1 1150 (stO (oz6 w.params) 536 970 os).abs (piecesOf (ls 35 1) envT cE ⟨378, 0, 378, 9⟩ [topFrame p0]) = some (.next, (stO (oz7 w.params) 537 983 os).abs, cE, ⟨379, 0, 379, 10⟩) := hop (s' := stO (oz7 w.params) 537 983 os) (l7 _ _) (pc6 w os)
theorem q7 (w : World) (os : OsState) : segRun treeTable pr w 11 ann6 1 1150 (stO (oz7 w.params) 537 983 os).abs (piecesOf (ls 36 4) envT cE ⟨379, 0, 379, 10⟩ [topFrame p0]) = some (.next, (stO (oz8 w.params) 659 1158 os).abs, cE, ⟨525, 0, 527, 64⟩) := hop (s' := stO (oz8 w.params) 659 1158 os) (l8 _ _) (pc7 w os)
theorem q8 (w : World) (os : OsState) : segRun treeTable pr w 11 ann6 1 1150 (stO (oz8 w.params) 659 1158 os).abs (piecesOf (ls 40 24) envT cE ⟨525, 0, 527, 64⟩ [topFrame p0]) = some (.next, (stO (oz9 w.params) 848 1496 os).abs, cE, ⟨739, 0, 743, 73⟩) := hop (s' := stO (oz9 w.params) 848 1496 os) (l9 _ _) (pc8 w os)
theorem pB_cut : ls 0 9 ++ (ls 9 1 ++ (ls 10 5 ++ (ls 15 8 ++ (ls 23 7 ++ (ls 30 5 ++ (ls 35 1 ++ (ls 36 4 ++ (ls 40 24 ++ [])))))))) = pB := by kernel_rfl
noncomputable abbrev S9 (P : Params) (os : OsState) : SharedT := stO (oz9 P) 848 1496 os
theorem go9 (w : World) (os : OsState) : topRun treeTable pr w 11 ann6 10352 (S15 w.params os).abs (restOf pB envT cE p0 [topFrame p0]) = some (S9 w.params os).abs := by
  have r := piece_app (q := p0) (rest := []) (q8 w os) (piece_nil (h_fin w (S9 w.params os).abs ⟨739, 0, 743, 73⟩))
  have r := piece_app (q := p0) (q7 w os) r
  have r := piece_app (q := p0) (q6 w os) r
  have r := piece_app (q := p0) (q5 w os) r
  have r := piece_app (q := p0) (q4 w os) r
  have r := piece_app (q := p0) (q3 w os) r
  have r := piece_app (q := p0) (q2 w os) r
  have r := piece_app (q := p0) (q1 w os) r
  have r := piece_app (q := p0) (q0 w os) r
  rw [pB_cut] at r
  exact r
end Hd
end
section
namespace Hd
theorem c_stat (P : Params) (os : OsState) : (staticsOk mods (boot_heap P) (S9 P os).abs.heap && namesBound pr (S9 P os).abs.heap && gensDone (S9 P os).abs && laidKept (boot_heap P) (S9 P os).abs.heap) = true := by kernel_rfl
theorem c_seen (P : Params) (os : OsState) : openSeen qv lo mods (fun _ => true) true (S9 P os).abs = openGood qv lo := by kernel_rfl
theorem c_fn (P : Params) (os : OsState) : fnT.all (fnCheck (fragT (S9 P os))) = true := by kernel_rfl
theorem c_rest (P : Params) (os : OsState) : allR (fragT (S9 P os)) = true := by kernel_rfl
theorem c_obs (P : Params) (os : OsState) : obsR (fragT (S9 P os)) = valR P := by kernel_rfl
end Hd
end
section
theorem ends (w : World) : ∃ s : SharedT, openEnds treeTable pr w 12000 = some s.abs ∧ openSeen qv lo mods (fun _ => true) true s.abs = openGood qv lo ∧ obsK (fragT s) = valK w.params := by
  obtain ⟨⟨h, gs, d, k, os⟩, e, e'⟩ := Option.map_eq_some_iff.mp (h_open w)
  cases e'
  obtain ⟨z1, z2, z3⟩ := h_size w
  have r2 := topRun_mono 1635 _ _ _ _ (go_top (h_pre w os) (piece_block (h_block w os) (Hd.go9 w os)))
  refine ⟨Hd.S9 w.params os, ?_, Hd.c_seen _ _, ?_⟩
  · unfold openEnds
    rw [e]
    show topFrom treeTable pr w 12000 ⟨boot_heap w.params, #[], boot_drawn, boot_toks, os⟩ = _
    unfold topFrom
    dsimp only
    rw [z1, z2, z3]
    show ((topRun treeTable pr w 11 ann6 12000 ⟨boot_heap w.params, #[], boot_drawn, boot_toks, os⟩ (topStub pr)).bind _) = _
    rw [show topRun treeTable pr w 11 ann6 12000 ⟨boot_heap w.params, #[], boot_drawn, boot_toks, os⟩ (topStub pr) = some (Hd.S9 w.params os).abs from r2]
    show (match staticsOk (importedModules pr.main.body) (boot_heap w.params) (Hd.S9 w.params os).abs.heap && namesBound pr (Hd.S9 w.params os).abs.heap && gensDone (Hd.S9 w.params os).abs && laidKept (boot_heap w.params) (Hd.S9 w.params os).abs.heap with | true => some (Hd.S9 w.params os).abs | false => none) = _
    rw [show (staticsOk (importedModules pr.main.body) (boot_heap w.params) (Hd.S9 w.params os).abs.heap && namesBound pr (Hd.S9 w.params os).abs.heap && gensDone (Hd.S9 w.params os).abs && laidKept (boot_heap w.params) (Hd.S9 w.params os).abs.heap) = true from Hd.c_stat w.params os]
  · unfold obsK valK allC
    rw [Hd.c_fn, Hd.c_rest, Hd.c_obs]
    rfl
noncomputable def endS (w : World) : Shared := (openEnds treeTable pr w 12000).getD ⟨{}, #[], {}, 0, default⟩
theorem left : LeftO pr qv lo (fun _ => true) (fun s => s) endS 12000 := fun w => by
  obtain ⟨s, h1, h2, -⟩ := ends w
  unfold endS
  rw [h1]
  exact congrArg (fun z => some (z, s.abs)) h2
theorem end_frag (w : World) : ∃ K : Frag, K.In (endS w).heap ∧ obsK K = valK w.params := by
  obtain ⟨s, h1, -, h3⟩ := ends w
  unfold endS
  rw [h1]
  exact ⟨_, frag_in s, h3⟩
end
section
noncomputable abbrev rw0 := PySem.Challenge.rw_nn0411_01
noncomputable abbrev YP (w : World) (h : Heap) : Prop := ∃ K : Frag, K.In h ∧ obsK K = valK w.params
theorem top {d : DefRec} {kwd : List (Str × Expr)} (hok : rw0.wellSaid = true) (hdef : defOf qv rw0.row.name = some (d, kwd)) (hp : rw0.row.prog.theDef rw0.row.name = some (d.params, d.body, d.scope)) (hk : kwWritten? d.params.kwonlyargs d.params.kw_defaults = some kwd)
    (walk : WalkO qv lo (fun _ _ => True) YP rw0.row.toRowW d kwd fun f vs => PySem.call f vs) : rw0.Holds :=
  holds_law hok fun said => holds_open (q := qv) (loose := lo) (Xt := fun _ => true) (XP := fun _ _ => True) (Yf := fun s => s) (Ya := endS) (YP := YP) (N := 12000) left
    (fun w s e => by rw [e]; exact end_frag w) (fun w h h' ⟨K, x, y⟩ k => ⟨K, x.keeps k, y⟩) (fun _ _ => trivial) (fun _ _ _ x _ => x) hdef hp hk
    (fun s _ => recFacts_nil (by rfl)) (by rfl) said (by kernel_rfl) ⟨rfl, rfl, rfl, rfl, rfl, by decide +kernel⟩ ⟨[.list []], by decide +kernel, by decide +kernel⟩ walk
end
section
theorem an {a b : Bool} (x : a = true) (y : b = true) : (a && b) = true := by rw [x, y]; rfl
end
section
theorem w15 : namesResolve pr = true := by
  rw [PySem.W.Fast.te8377067652309620493]
  kernel_rfl
theorem w17 : (namesMeet pr pr.main.body fun _ n => attrL n) = true := by
  rw [PySem.W.Fast.te17119622794617984870]
  kernel_rfl
theorem w_look : looksOpen pr = true := an (an (an (an (by kernel_rfl) w15) (by kernel_rfl)) Hd.w_road) w17
end
section
theorem w_row : rw0.row.wellSaid = true := by
  refine an (an (an (an (an (an (an (an (an (an (an (an (an (an (an w_look ?_) ?_) ?_) ?_) ?_) ?_) ?_) ?_) ?_) ?_) ?_) ?_) ?_) ?_) ?_ <;> kernel_rfl
end
section
theorem w4 : noRoadLSs { strict := true, foot := some rw0.bound', writes := rw0.writes, may := rw0.may } rw0.footing = true := by kernel_rfl
theorem w7 : (rw0.bound'.all fun n => !builtinNamed n || rw0.about == [n] || !rw0.reads n) = true := by kernel_rfl
theorem w11 : namesMeet rw0.prog rw0.above (fun _ n => !rw0.own.contains n) = true := by kernel_rfl
theorem w_ok : rw0.wellSaid = true := by
  unfold OpenLaw.wellSaid
  refine an (an (an (an (an (an (an (an (an (an (an (an (an (an (an (an (an (an w_row ?_) ?_) ?_) ?_) ?_) w4) ?_) ?_) ?_) w7) ?_) ?_) ?_) ?_) ?_) ?_) w11) ?_ <;> kernel_rfl
end
section
noncomputable def Al (P : Nat → Prop) : Prop := ∃ n, ∀ m, n ≤ m → P m
theorem Al.of {P : Nat → Prop} (h : ∀ m, P m) : Al P := ⟨0, fun m _ => h m⟩
theorem Al.up {P Q : Nat → Prop} (x : Al P) (h : ∀ m, P m → Q (m + 1)) : Al Q := x.elim fun n x => ⟨n + 1, fun m hm => match m, hm with
  | m + 1, hm => h m (x m (Nat.le_of_succ_le_succ hm))
  | 0, hm => absurd hm (Nat.not_succ_le_zero n)⟩
theorem Al.and {P Q : Nat → Prop} (x : Al P) (y : Al Q) : Al fun m => P m ∧ Q m := x.elim fun a x => y.elim fun b y => ⟨a + b, fun m hm => ⟨x m (Nat.le_trans (Nat.le_add_right a b) hm), y m (Nat.le_trans (Nat.le_add_left b a) hm)⟩⟩
theorem Al.up2 {P P' Q : Nat → Prop} (x : Al P) (y : Al P') (h : ∀ m, P m → P' m → Q (m + 1)) : Al Q := (x.and y).up fun m z => h m z.1 z.2
theorem Al.up3 {P P' P'' Q : Nat → Prop} (x : Al P) (y : Al P') (z : Al P'') (h : ∀ m, P m → P' m → P'' m → Q (m + 1)) : Al Q := (x.and (y.and z)).up fun m u => h m u.1 u.2.1 u.2.2
inductive An where
  | a
  | v (v : V)
  | c (v : V) (h : Hp)
  | b (b : Bool)
  | m (f : Option Nat)
  | f (fl : Fl) (fm : Fm) (h : Hp)
  | s (fm : Fm) (h : Hp)
  | e (v : V) (h : Hp)
  | x (fl : Fl) (fm : Fm) (h : Hp)
  | l (v : V)
structure Qs where
  h : Hp
  A : List An
  C : Prop
noncomputable def bq {α β : Type} (o : Option (α × Qs)) (f : α → Qs → Option β) : Option β := match o with
  | some (a, q) => f a q
  | none => none
theorem bq_e {α β : Type} {o : Option (α × Qs)} {f : α → Qs → Option β} {r : β} {G : Prop} (h : bq o f = some r) (k : ∀ a q, o = some (a, q) → f a q = some r → G) : G := by
  induction o using Option.casesOn with
  | none => exact nos h
  | some p => exact k p.1 p.2 rfl h
noncomputable def bo {α β : Type} (o : Option α) (f : α → Option β) : Option β := match o with
  | some a => f a
  | none => none
theorem bo_e {α β : Type} {o : Option α} {f : α → Option β} {r : β} {G : Prop} (h : bo o f = some r) (k : ∀ a, o = some a → f a = some r → G) : G := by
  induction o using Option.casesOn with
  | none => exact nos h
  | some p => exact k p rfl h
noncomputable def anV : An → Option V
  | .v v => some v
  | _ => none
noncomputable def anC : An → Option (V × Hp)
  | .c v h => some (v, h)
  | _ => none
noncomputable def anB : An → Option Bool
  | .b b => some b
  | _ => none
noncomputable def anM : An → Option (Option Nat)
  | .m f => some f
  | _ => none
noncomputable def anS : An → Option (Fm × Hp)
  | .s fm h => some (fm, h)
  | _ => none
noncomputable def isA : An → Bool
  | .a => true
  | _ => false
theorem oc {α β : Type} {o : Option α} {r : β} {f : α → Option β} {n : Unit → Option β} {G : Prop} (h : o.casesOn (motive := fun _ => Option β) (n ()) f = some r) (k1 : ∀ a, f a = some r → G) (k0 : n () = some r → G) : G := by
  induction o using Option.casesOn with
  | none => exact k0 h
  | some a => exact k1 a h
noncomputable def ask {α : Type} (p : Option α) (pick : An → Option α) (q : Qs) : Option (α × Qs) := match q.A with
  | [] => none
  | x :: r => match isA x with
    | true => bo p fun y => some (y, ⟨q.h, r, q.C⟩)
    | false => bo (pick x) fun y => some (y, ⟨q.h, r, p = some y ∧ q.C⟩)
theorem some2 {α β : Type} {a a' : α} {b b' : β} {G : α → β → Prop} (h : some (a, b) = some (a', b')) (k : G a b) : G a' b' := by cases h; exact k
theorem ask_e {α : Type} {p : Option α} {pick : An → Option α} {q q' : Qs} {u : α} (h : ask p pick q = some (u, q')) (c : q'.C) : q.C ∧ p = some u ∧ q'.h = q.h := by
  obtain ⟨hp, A, C⟩ := q
  induction A using List.casesOn with
  | nil => exact nos h
  | cons x r =>
    set_option smartUnfolding false in refine obf (b := isA x) h (fun _ h => ?_) fun _ h => ?_
    · exact bo_e h fun y e h => some2 (G := fun u q' => q'.C → C ∧ p = some u ∧ q'.h = hp) h (fun c => ⟨c, e, rfl⟩) c
    · exact bo_e h fun y _ h => some2 (G := fun u q' => q'.C → C ∧ p = some u ∧ q'.h = hp) h (fun c => ⟨c.2, c.1, rfl⟩) c
noncomputable def askH (p : Option (V × Hp)) (q : Qs) : Option (V × Qs) := bq (ask p anC q) fun r q => some (r.1, ⟨r.2, q.A, q.C⟩)
theorem askH_e {p : Option (V × Hp)} {q q' : Qs} {u : V} (h : askH p q = some (u, q')) (c : q'.C) : q.C ∧ p = some (u, q'.h) := bq_e h fun _ _ h1 h => some2 (G := fun u q' => q'.C → q.C ∧ p = some (u, q'.h)) h (fun c => have z := ask_e h1 c; ⟨z.1, z.2.1⟩) c
noncomputable def askP (P : V → Hp → Prop) (q : Qs) : Option (V × Qs) := match q.A with
  | [] => none
  | x :: r => bo (anC x) fun y => some (y.1, ⟨y.2, r, P y.1 y.2 ∧ q.C⟩)
theorem askP_e {P : V → Hp → Prop} {q q' : Qs} {u : V} (h : askP P q = some (u, q')) (c : q'.C) : q.C ∧ P u q'.h := by
  obtain ⟨hp, A, C⟩ := q
  induction A using List.casesOn with
  | nil => exact nos h
  | cons x r => exact bo_e (o := (anC x)) h fun y _ h => some2 (G := fun u q' => q'.C → C ∧ P u q'.h) h And.symm c
noncomputable def anF : An → Option (Fl × Fm × Hp)
  | .f a b c => some (a, b, c)
  | _ => none
noncomputable def askF (P : Fl → Fm → Hp → Prop) (q : Qs) : Option (Fl × Fm × Qs) := match q.A with
  | [] => none
  | x :: r => bo (anF x) fun y => some (y.1, y.2.1, ⟨y.2.2, r, P y.1 y.2.1 y.2.2 ∧ q.C⟩)
theorem some3 {α β γ : Type} {a a' : α} {b b' : β} {c c' : γ} {G : α → β → γ → Prop} (h : some (a, b, c) = some (a', b', c')) (k : G a b c) : G a' b' c' := by cases h; exact k
theorem askF_e {P : Fl → Fm → Hp → Prop} {q q' : Qs} {fl : Fl} {fm : Fm} (h : askF P q = some (fl, fm, q')) (c : q'.C) : q.C ∧ P fl fm q'.h := by
  obtain ⟨hp, A, C⟩ := q
  induction A using List.casesOn with
  | nil => exact nos h
  | cons x r => exact bo_e (o := (anF x)) h fun y _ h => some3 (G := fun fl fm q' => q'.C → C ∧ P fl fm q'.h) h And.symm c
section
variable (B : Tb)
noncomputable abbrev REv (d : Nat) (fm : Fm) (h : Hp) (e : E) (v : V) (h' : Hp) : Prop := Al fun n => (run B n).ev d fm h e = some (v, h')
noncomputable abbrev RTs (d : Nat) (fm : Fm) (h : Hp) (e : E) (b : Bool) (h' : Hp) : Prop := Al fun n => (run B n).ts d fm h e = some (b, h')
noncomputable abbrev RCl (d f : Nat) (args : List V) (h : Hp) (v : V) (h' : Hp) : Prop := Al fun n => (run B n).cl d f args h = some (v, h')
noncomputable abbrev REx (d : Nat) (fm : Fm) (h : Hp) (l : List St) (fl : Fl) (fm' : Fm) (h' : Hp) : Prop := Al fun n => (run B n).ex d fm h l = some (fl, fm', h')
noncomputable abbrev RWh (d : Nat) (fm : Fm) (h : Hp) (c : E) (b : List St) (fl : Fl) (fm' : Fm) (h' : Hp) : Prop := Al fun n => (run B n).wh d fm h c b = some (fl, fm', h')
noncomputable abbrev RFo (d : Nat) (fm : Fm) (h : Hp) (t : Tgt) (it : V) (j : Nat) (b : List St) (fl : Fl) (fm' : Fm) (h' : Hp) : Prop := Al fun n => (run B n).fo d fm h t it j b = some (fl, fm', h')
noncomputable abbrev RCo (d : Nat) (fm : Fm) (h : Hp) (e : E) (t : Tgt) (it : V) (j : Nat) (c : Option E) (acc us : List V) (h' : Hp) : Prop := Al fun n => (run B n).co d fm h e t it j c acc = some (us, h')
structure PX where
  ev : Nat → Fm → Qs → E → Option (V × Qs)
  ts : Nat → Fm → Qs → E → Option (Bool × Qs)
  ex : Nat → Fm → Qs → List St → Option (Fl × Fm × Qs)
noncomputable def celOf (h : Hp) (i : Nat) : Option V := match h.get i with
  | some (.cell (some v)) => some v
  | _ => none
noncomputable def m0 (h : Hp) (u : V) (m : Nat) (args : List V) : Option (V × Hp) := match u with
  | .str s => strM h s m args
  | .ref i => match h.get i with
    | some (.list vs) => listM h i vs m args
    | _ => none
  | _ => none
noncomputable def slcV (h : Hp) (v : V) (l u : Option V) : Option (V × Hp) := match v with
  | .str s => match short s.length with
    | true => match bound s.length 0 l with
      | some a => match bound s.length s.length u with
        | some b => some (.str (cut s a b), h)
        | none => none
      | none => none
    | false => none
  | .rol vs => match short vs.length with
    | true => match bound vs.length 0 l with
      | some a => match bound vs.length vs.length u with
        | some b => newList h ((vs.drop a).take (b - a))
        | none => none
      | none => none
    | false => none
  | _ => none
noncomputable def ComR (d : Nat) (c : List (Nat × Nat)) (h : Hp) (elt : E) (t : Tgt) (v : V) (cd : Option E) (w : V) (h' : Hp) : Prop := canIter h v = true ∧ ∃ us h1, RCo B d ⟨[], c⟩ h elt t v 0 cd [] us h1 ∧ newList h1 us = some (w, h')
variable (P : PX)
noncomputable def evsX (d : Nat) (fm : Fm) : List E → Qs → Option (List V × Qs)
  | [], q => some ([], q)
  | e :: r, q => bq (P.ev d fm q e) fun v q => bq (evsX d fm r q) fun vs q => some (v :: vs, q)
noncomputable def allsX (d : Nat) (fm : Fm) (op : BoolOp) : List E → Qs → Option (Bool × Qs)
  | [], q => some (op == .And, q)
  | e :: r, q => bq (P.ts d fm q e) fun b q => match stops op b with
    | true => some (b, q)
    | false => allsX d fm op r q
noncomputable def optX (d : Nat) (fm : Fm) (q : Qs) : Option E → Option (Option V × Qs)
  | none => some (none, q)
  | some e => bq (P.ev d fm q e) fun v q => some (some v, q)
noncomputable def lenS (k : Nat) (args : List V) : Option S := match Nat.beq k 0 with
  | true => match a1 args with
    | some v => match v with
      | .str s => some s
      | _ => none
    | none => none
  | false => none
noncomputable def calX (d : Nat) (f : V) (args : List V) (q : Qs) : Option (V × Qs) := match f with
  | .glb a => match known B a with
    | true => askP (RCl B d a args q.h) q
    | false => none
  | .bi k => match lenS k args with
    | some s => some (.int s.length, ⟨q.h, q.A, s.length < 100000 ∧ q.C⟩)
    | none => askH (callB q.h k args) q
  | .typ k => askH (callT q.h k args) q
  | _ => none
noncomputable def hdL : List An → Option V
  | [] => none
  | x :: _ => match x with
    | .l v => some v
    | _ => none
noncomputable def evY (d : Nat) (fm : Fm) (q : Qs) (e : E) : Option (V × Qs) := match e with
  | .cn => some (.none, q)
  | .cb b => some (.bool b, q)
  | .ci i => some (.int i, q)
  | .cs s => some (.str s, q)
  | .neg i => some (.int (-i), q)
  | .loc x => match hdL q.A with
    | some v => some (v, ⟨q.h, q.A.tail, getL fm.L x = some v ∧ q.C⟩)
    | none => bo (getL fm.L x) fun v => some (v, q)
  | .cel x => bo (getC fm.C x) fun i => ask (celOf q.h i) anV q
  | .glob x => bo (B.glob x) fun v => some (v, q)
  | .attr o a => bq (P.ev d fm q o) fun v q => ask (attrOf B q.h v a) anV q
  | .mcall o m args => bq (P.ev d fm q o) fun v q => bq (ask (methOf B q.h v m) anM q) fun mt q => bq (evsX P d fm args q) fun vs q => match mt with
    | some f => askP (RCl B d f (v :: vs) q.h) q
    | none => askH (m0 q.h v m vs) q
  | .call x args => bo (B.glob x) fun f => bq (evsX P d fm args q) fun vs q => calX B d f vs q
  | .bin op l r => bq (P.ev d fm q l) fun a q => bq (P.ev d fm q r) fun b q => askH (binop q.h op a b) q
  | .cmp op l r => bq (P.ev d fm q l) fun a q => bq (P.ev d fm q r) fun b q => bq (ask (cmpV B.sd q.h op a b) anB q) fun c q => some (.bool c, q)
  | .ite c a b => bq (P.ts d fm q c) fun t q => match t with
    | true => P.ev d fm q a
    | false => P.ev d fm q b
  | .sub o i => bq (P.ev d fm q o) fun v q => bq (P.ev d fm q i) fun k q => ask (subOf B q.h v k) anV q
  | .slc o lo hi => bq (P.ev d fm q o) fun v q => bq (optX P d fm q lo) fun l q => bq (optX P d fm q hi) fun u q => askH (slcV q.h v l u) q
  | .lst es => bq (evsX P d fm es q) fun vs q => askH (newList q.h vs) q
  | .tpl es => bq (evsX P d fm es q) fun vs q => match short vs.length with
    | true => some (.tup vs, q)
    | false => none
  | .comp elt t it c => bq (P.ev d fm q it) fun v q => askP (ComR B d fm.C q.h elt t v c) q
  | e => askP (REv B d fm q.h e) q
noncomputable def hdE : List An → Option (V × Hp)
  | [] => none
  | x :: _ => match x with
    | .e v h => some (v, h)
    | _ => none
noncomputable def evX (d : Nat) (fm : Fm) (q : Qs) (e : E) : Option (V × Qs) := match hdE q.A with
  | some y => some (y.1, ⟨y.2, q.A.tail, REv B d fm q.h e y.1 y.2 ∧ q.C⟩)
  | none => evY B P d fm q e
noncomputable def tsX (d : Nat) (fm : Fm) (q : Qs) (e : E) : Option (Bool × Qs) := match e with
  | .not e => bq (P.ts d fm q e) fun b q => some (!b, q)
  | .bop op es => allsX P d fm op es q
  | .cmp op l r => bq (P.ev d fm q l) fun a q => bq (P.ev d fm q r) fun b q => ask (cmpV B.sd q.h op a b) anB q
  | .ite _ _ _ => none
  | e => bq (P.ev d fm q e) fun v q => match v with
    | .bool b => some (b, q)
    | _ => none
noncomputable def bs {β : Type} (o : Option ((Fm × Hp) × Qs)) (f : Fm → Qs → Option β) : Option β := bq o fun r q => f r.1 ⟨r.2, q.A, q.C⟩
noncomputable def celS (fm : Fm) (h : Hp) (i : Nat) (v : V) : Option (Fm × Hp) := match h.get i with
  | some o => match o with
    | .cell _ => some (fm, h.set i (.cell (some v)))
    | _ => none
  | none => none
noncomputable def asgX {β : Type} (d : Nat) (fm : Fm) (q : Qs) (t : Tgt) (v : V) (k : Fm → Qs → Option β) : Option β := match t with
  | .loc x => k ⟨setL fm.L x v, fm.C⟩ q
  | .cel x => bo (getC fm.C x) fun i => bs (ask (celS fm q.h i v) anS q) k
  | .attr o a => bq (P.ev d fm q o) fun u q => bs (ask (putA B fm q.h u a v) anS q) k
  | .sub o i => bq (P.ev d fm q o) fun u q => bq (P.ev d fm q i) fun z q => bs (ask (putS fm q.h u z v) anS q) k
  | .tup xs => match v with
    | .tup vs => match Nat.beq xs.length vs.length with
      | true => bo (tupL fm.L xs vs) fun L => k ⟨L, fm.C⟩ q
      | false => none
    | _ => none
noncomputable def bf (o : Option (Fl × Fm × Qs)) (f : Fm → Qs → Option (Fl × Fm × Qs)) : Option (Fl × Fm × Qs) := match o with
  | some (fl, fm, q) => match fl with
    | .next => f fm q
    | .ret v => some (.ret v, fm, q)
  | none => none
noncomputable def ForR (d : Nat) (fm : Fm) (h : Hp) (t : Tgt) (v : V) (b : List St) (fl : Fl) (fm' : Fm) (h' : Hp) : Prop := isED h v = false ∧ canIter h v = true ∧ RFo B d fm h t v 0 b fl fm' h'
noncomputable def exY (d : Nat) (fm : Fm) (q : Qs) (l : List St) : Option (Fl × Fm × Qs) := match l with
  | [] => some (.next, fm, q)
  | s :: r => match s with
    | .asg t e => bq (P.ev d fm q e) fun v q => asgX B P d fm q t v fun fm q => P.ex d fm q r
    | .expr e => bq (P.ev d fm q e) fun _ q => P.ex d fm q r
    | .ret e => bq (P.ev d fm q e) fun v q => some (.ret v, fm, q)
    | .retn => some (.ret .none, fm, q)
    | .ifs c a b => bq (P.ts d fm q c) fun t q => bf (P.ex d fm q (match t with | true => a | false => b)) fun fm q => P.ex d fm q r
    | .whl c b => bf (askF (RWh B d fm q.h c b) q) fun fm q => P.ex d fm q r
    | .fors t e b => bq (P.ev d fm q e) fun v q => bf (askF (ForR B d fm q.h t v b) q) fun fm q => P.ex d fm q r
    | .raw _ => none
noncomputable def hdX : List An → Option (Fl × Fm × Hp)
  | [] => none
  | x :: _ => match x with
    | .x fl fm h => some (fl, fm, h)
    | _ => none
noncomputable def exX (d : Nat) (fm : Fm) (q : Qs) (l : List St) : Option (Fl × Fm × Qs) := match hdX q.A with
  | some y => some (y.1, y.2.1, ⟨y.2.2, q.A.tail, REx B d fm q.h l y.1 y.2.1 y.2.2 ∧ q.C⟩)
  | none => exY B P d fm q l
noncomputable def px (n : Nat) : PX := @Nat.rec (fun _ => PX) ⟨fun _ _ _ _ => none, fun _ _ _ _ => none, fun _ _ _ _ => none⟩ (fun _ P => ⟨evX B P, tsX B P, exX B P⟩) n
end
end
section
section
variable (B : Tb) (n d : Nat) (fm : Fm) (h : Hp)
theorem x_cn : (run B (n + 1)).ev d fm h .cn = some (.none, h) := rfl
theorem x_cb (b : Bool) : (run B (n + 1)).ev d fm h (.cb b) = some (.bool b, h) := rfl
theorem x_ci (i : Int) : (run B (n + 1)).ev d fm h (.ci i) = some (.int i, h) := rfl
theorem x_cs (s : S) : (run B (n + 1)).ev d fm h (.cs s) = some (.str s, h) := rfl
theorem x_neg (i : Int) : (run B (n + 1)).ev d fm h (.neg i) = some (.int (-i), h) := rfl
theorem x_loc (x : Nat) : (run B (n + 1)).ev d fm h (.loc x) = match getL fm.L x with
    | some v => some (v, h)
    | none => none := rfl
theorem x_cel (x : Nat) : (run B (n + 1)).ev d fm h (.cel x) = match getC fm.C x with
    | some i => match h.get i with
      | some (.cell (some v)) => some (v, h)
      | _ => none
    | none => none := rfl
theorem x_glob (x : Nat) : (run B (n + 1)).ev d fm h (.glob x) = match B.glob x with
    | some v => some (v, h)
    | none => none := rfl
theorem x_attr (o : E) (a : Nat) : (run B (n + 1)).ev d fm h (.attr o a) = match (run B n).ev d fm h o with
    | some (v, h) => match attrOf B h v a with
      | some u => some (u, h)
      | none => none
    | none => none := rfl
theorem x_mcall (o : E) (m : Nat) (args : List E) : (run B (n + 1)).ev d fm h (.mcall o m args) = match (run B n).ev d fm h o with
    | some (v, h) => match methOf B h v m with
      | some mt => match evs (run B n) d fm args h with
        | some (vs, h) => runMt (run B n) d mt v m vs h
        | none => none
      | none => none
    | none => none := rfl
theorem x_call (x : Nat) (args : List E) : (run B (n + 1)).ev d fm h (.call x args) = match B.glob x with
    | some f => match evs (run B n) d fm args h with
      | some (vs, h) => callV B (run B n) d f vs h
      | none => none
    | none => none := rfl
theorem x_bin (op : Operator) (l r : E) : (run B (n + 1)).ev d fm h (.bin op l r) = match (run B n).ev d fm h l with
    | some (a, h) => match (run B n).ev d fm h r with
      | some (b, h) => binop h op a b
      | none => none
    | none => none := rfl
theorem x_cmp (op : CmpOp) (l r : E) : (run B (n + 1)).ev d fm h (.cmp op l r) = match (run B n).ev d fm h l with
    | some (a, h) => match (run B n).ev d fm h r with
      | some (b, h) => match cmpV B.sd h op a b with
        | some c => some (.bool c, h)
        | none => none
      | none => none
    | none => none := rfl
theorem x_ite (c a b : E) : (run B (n + 1)).ev d fm h (.ite c a b) = match (run B n).ts d fm h c with
    | some (true, h) => (run B n).ev d fm h a
    | some (false, h) => (run B n).ev d fm h b
    | none => none := rfl
theorem x_sub (o i : E) : (run B (n + 1)).ev d fm h (.sub o i) = match (run B n).ev d fm h o with
    | some (v, h) => match (run B n).ev d fm h i with
      | some (k, h) => match subOf B h v k with
        | some u => some (u, h)
        | none => none
      | none => none
    | none => none := rfl
theorem x_slc (o : E) (lo hi : Option E) : (run B (n + 1)).ev d fm h (.slc o lo hi) = match (run B n).ev d fm h o with
    | some (v, h) => match optE (run B n) d fm h lo with
      | some (l, h) => match optE (run B n) d fm h hi with
        | some (u, h) => slcV h v l u
        | none => none
      | none => none
    | none => none := rfl
theorem x_lst (es : List E) : (run B (n + 1)).ev d fm h (.lst es) = match evs (run B n) d fm es h with
    | some (vs, h) => newList h vs
    | none => none := rfl
theorem x_tpl (es : List E) : (run B (n + 1)).ev d fm h (.tpl es) = match evs (run B n) d fm es h with
    | some (vs, h) => match short vs.length with
      | true => some (.tup vs, h)
      | false => none
    | none => none := rfl
theorem evs_nil : evs (run B n) d fm [] h = some ([], h) := rfl
theorem evs_cons (e : E) (r : List E) : evs (run B n) d fm (e :: r) h = match (run B n).ev d fm h e with
    | some (v, h) => match evs (run B n) d fm r h with
      | some (vs, h) => some (v :: vs, h)
      | none => none
    | none => none := rfl
theorem optE_none : optE (run B n) d fm h none = some (none, h) := rfl
theorem optE_some (e : E) : optE (run B n) d fm h (some e) = match (run B n).ev d fm h e with
    | some (v, h) => some (some v, h)
    | none => none := rfl
theorem t_not (e : E) : (run B (n + 1)).ts d fm h (.not e) = match (run B n).ts d fm h e with
    | some (b, h) => some (!b, h)
    | none => none := rfl
theorem t_bop (op : BoolOp) (es : List E) : (run B (n + 1)).ts d fm h (.bop op es) = alls (run B n) d fm op es h := rfl
theorem t_cmp (op : CmpOp) (l r : E) : (run B (n + 1)).ts d fm h (.cmp op l r) = match (run B n).ev d fm h l with
    | some (a, h) => match (run B n).ev d fm h r with
      | some (b, h) => match cmpV B.sd h op a b with
        | some c => some (c, h)
        | none => none
      | none => none
    | none => none := rfl
theorem x_comp (elt : E) (t : Tgt) (it : E) (c : Option E) : (run B (n + 1)).ev d fm h (.comp elt t it c) = match (run B n).ev d fm h it with
    | some (v, h) => match canIter h v with
      | true => match (run B n).co d ⟨[], fm.C⟩ h elt t v 0 c [] with
        | some (vs, h) => newList h vs
        | none => none
      | false => none
    | none => none := rfl
theorem s_nil : (run B (n + 1)).ex d fm h [] = some (.next, fm, h) := rfl
theorem s_asg (t : Tgt) (e : E) (r : List St) : (run B (n + 1)).ex d fm h (.asg t e :: r) = match (run B n).ev d fm h e with
    | some (v, h) => match asg B (run B n) d fm h t v with
      | some (fm, h) => (run B n).ex d fm h r
      | none => none
    | none => none := rfl
theorem s_expr (e : E) (r : List St) : (run B (n + 1)).ex d fm h (.expr e :: r) = match (run B n).ev d fm h e with
    | some (_, h) => (run B n).ex d fm h r
    | none => none := rfl
theorem s_ret (e : E) (r : List St) : (run B (n + 1)).ex d fm h (.ret e :: r) = match (run B n).ev d fm h e with
    | some (v, h) => some (.ret v, fm, h)
    | none => none := rfl
theorem s_retn (r : List St) : (run B (n + 1)).ex d fm h (.retn :: r) = some (.ret .none, fm, h) := rfl
theorem s_ifs (c : E) (a b r : List St) : (run B (n + 1)).ex d fm h (.ifs c a b :: r) = match (run B n).ts d fm h c with
    | some (q, h) => match (run B n).ex d fm h (match q with | true => a | false => b) with
      | some (fl, fm, h) => match fl with
        | .next => (run B n).ex d fm h r
        | .ret v => some (.ret v, fm, h)
      | none => none
    | none => none := rfl
theorem s_whl (c : E) (b r : List St) : (run B (n + 1)).ex d fm h (.whl c b :: r) = match (run B n).wh d fm h c b with
    | some (fl, fm, h) => match fl with
      | .next => (run B n).ex d fm h r
      | .ret v => some (.ret v, fm, h)
    | none => none := rfl
theorem s_fors (t : Tgt) (e : E) (b r : List St) : (run B (n + 1)).ex d fm h (.fors t e b :: r) = match (run B n).ev d fm h e with
    | some (v, h) => match isED h v with
      | true => (run B n).ex d fm h r
      | false => match canIter h v with
        | true => match (run B n).fo d fm h t v 0 b with
          | some (fl, fm, h) => match fl with
            | .next => (run B n).ex d fm h r
            | .ret v => some (.ret v, fm, h)
          | none => none
        | false => none
    | none => none := rfl
end
theorem Al.all {P Q : Nat → Prop} (x : Al P) (h : ∀ m, P m → Q m) : Al Q := x.imp fun _ x m hm => h m (x m hm)
theorem Al.all2 {P P' Q : Nat → Prop} (x : Al P) (y : Al P') (h : ∀ m, P m → P' m → Q m) : Al Q := (x.and y).all fun m z => h m z.1 z.2
theorem s_asgl (B : Tb) (n d : Nat) (fm : Fm) (h : Hp) (t : Tgt) (e : E) (r : List St) : (run B (n + 1)).ex d fm h (.asg t e :: r) = match (run B n).ev d fm h e with
    | some (v, h) => match asg B (run B n) d fm h t v with
      | some (fm, h) => (run B n).ex d fm h r
      | none => none
    | none => none := rfl
structure POk (B : Tb) (P : PX) : Prop where
  ev : ∀ {d fm q e v q'}, P.ev d fm q e = some (v, q') → q'.C → q.C ∧ REv B d fm q.h e v q'.h
  ts : ∀ {d fm q e b q'}, P.ts d fm q e = some (b, q') → q'.C → q.C ∧ RTs B d fm q.h e b q'.h
  ex : ∀ {d fm q l fl fm' q'}, P.ex d fm q l = some (fl, fm', q') → q'.C → q.C ∧ REx B d fm q.h l fl fm' q'.h
noncomputable abbrev REs (B : Tb) (d : Nat) (fm : Fm) (h : Hp) (es : List E) (vs : List V) (h' : Hp) : Prop := Al fun n => evs (run B n) d fm es h = some (vs, h')
noncomputable abbrev RAl (B : Tb) (d : Nat) (fm : Fm) (h : Hp) (op : BoolOp) (es : List E) (b : Bool) (h' : Hp) : Prop := Al fun n => alls (run B n) d fm op es h = some (b, h')
noncomputable abbrev ROp (B : Tb) (d : Nat) (fm : Fm) (h : Hp) (e : Option E) (v : Option V) (h' : Hp) : Prop := Al fun n => optE (run B n) d fm h e = some (v, h')
theorem lenS_ok {k : Nat} {vs : List V} {s : S} {h : Hp} (e : lenS k vs = some s) (hl : s.length < 100000) : callB h k vs = some (.int s.length, h) := by
  set_option smartUnfolding false in refine obt (b := Nat.beq k 0) e fun hk e => ?_
  set_option smartUnfolding false in refine ob e fun v hv e => ?_
  induction v using V.casesOn with
  | str l =>
    cases e
    have := Nat.eq_of_beq_eq_true hk
    subst this
    show (match a1 vs with | some v => (match lenOf h v with | some n => (match short n with | true => some (V.int n, h) | false => none) | none => none) | none => none) = _
    rw [hv]
    show (match short s.length with | true => some (V.int s.length, h) | false => none) = _
    rw [show short s.length = true from Nat.blt_eq.mpr hl]
  | _ => exact nos e
section
variable {B : Tb} {P : PX} (O : POk B P) {d : Nat} {fm : Fm} {q' : Qs}
include O
theorem evs_ok : ∀ {es : List E} {q q' : Qs} {vs : List V}, evsX P d fm es q = some (vs, q') → q'.C → q.C ∧ REs B d fm q.h es vs q'.h
  | [], q, q', vs, h => some2 (G := fun vs q' => q'.C → q.C ∧ REs B d fm q.h [] vs q'.h) h fun c => ⟨c, .of fun _ => rfl⟩
  | e :: r, q, q', vs, h => bq_e h fun v q1 h1 h => bq_e h fun us q2 h2 h => some2 (G := fun vs q' => q'.C → q.C ∧ REs B d fm q.h (e :: r) vs q'.h) h fun c =>
    have z2 := evs_ok h2 c
    have z1 := O.ev h1 z2.1
    ⟨z1.1, z1.2.all2 z2.2 fun m x y => by rw [evs_cons, x]; dsimp only; rw [y]⟩
theorem alls_ok {op : BoolOp} : ∀ {es : List E} {q q' : Qs} {b : Bool}, allsX P d fm op es q = some (b, q') → q'.C → q.C ∧ RAl B d fm q.h op es b q'.h
  | [], q, q', b, h => some2 (G := fun b q' => q'.C → q.C ∧ RAl B d fm q.h op [] b q'.h) h fun c => ⟨c, .of fun _ => rfl⟩
  | e :: r, q, q', b, h => bq_e h fun v q1 h1 h c => by
    have eq : ∀ n, alls (run B n) d fm op (e :: r) q.h = match (run B n).ts d fm q.h e with
      | some (b, h) => match stops op b with
        | true => some (b, h)
        | false => alls (run B n) d fm op r h
      | none => none := fun _ => rfl
    cases hs : stops op v with
    | true =>
      rw [hs] at h
      refine some2 (G := fun b q' => q'.C → q.C ∧ RAl B d fm q.h op (e :: r) b q'.h) h (fun c => ?_) c
      have z1 := O.ts h1 c
      exact ⟨z1.1, z1.2.all fun m x => by rw [eq, x]; dsimp only; rw [hs]⟩
    | false =>
      rw [hs] at h
      have z2 := alls_ok h c
      have z1 := O.ts h1 z2.1
      exact ⟨z1.1, z1.2.all2 z2.2 fun m x y => by rw [eq, x]; dsimp only; rw [hs]; exact y⟩
theorem opt_ok {e : Option E} {q : Qs} {v : Option V} (h : optX P d fm q e = some (v, q')) (c : q'.C) : q.C ∧ ROp B d fm q.h e v q'.h := match e, h with
  | none, h => some2 (G := fun v q' => q'.C → q.C ∧ ROp B d fm q.h none v q'.h) h (fun c => ⟨c, .of fun _ => rfl⟩) c
  | some e, h => bq_e h fun u q1 h1 h => some2 (G := fun v q' => q'.C → q.C ∧ ROp B d fm q.h (some e) v q'.h) h (fun c =>
    have z1 := O.ev h1 c
    ⟨z1.1, z1.2.all fun m x => by rw [optE_some, x]⟩) c
omit O
theorem cal_ok {f v : V} {vs : List V} {q : Qs} (h : calX B d f vs q = some (v, q')) (c : q'.C) : q.C ∧ Al fun n => callV B (run B n) d f vs q.h = some (v, q'.h) := by
  induction f using V.casesOn with
  | glb a =>
    have eq : ∀ n, callV B (run B n) d (.glb a) vs q.h = match known B a with
      | true => (run B n).cl d a vs q.h
      | false => none := fun _ => rfl
    set_option smartUnfolding false in refine obt (b := known B a) h fun hk h => ?_
    have z := askP_e h c
    exact ⟨z.1, z.2.all fun m x => by rw [eq, hk]; exact x⟩
  | bi k =>
    set_option smartUnfolding false in refine obe (o := lenS k vs) h (fun s e h => ?_) fun _ h => (askH_e h c).imp_right fun z => .of fun _ => z
    refine some2 (G := fun v q' => q'.C → q.C ∧ Al fun n => callV B (run B n) d (.bi k) vs q.h = some (v, q'.h)) h (fun c => ?_) c
    exact ⟨c.2, .of fun _ => lenS_ok e c.1⟩
  | typ k => exact (askH_e h c).imp_right fun z => .of fun _ => z
  | _ => exact nos h
include O
theorem evY_ok {q : Qs} {e : E} {v : V} (h : evY B P d fm q e = some (v, q')) : q'.C → q.C ∧ REv B d fm q.h e v q'.h := by
  have K : ∀ {u : V} {e : E}, some (u, q) = some (v, q') → (∀ n, (run B (n + 1)).ev d fm q.h e = some (u, q.h)) → q'.C → q.C ∧ REv B d fm q.h e v q'.h := fun {u e} h k => some2 (G := fun v q' => q'.C → q.C ∧ REv B d fm q.h e v q'.h) h fun c => ⟨c, (Al.of fun _ => trivial).up fun m _ => k m⟩
  induction e using E.casesOn with
  | cn => exact K h fun _ => rfl
  | cb b => exact K h fun _ => rfl
  | ci i => exact K h fun _ => rfl
  | cs s => exact K h fun _ => rfl
  | neg i => exact K h fun _ => rfl
  | loc x =>
    set_option smartUnfolding false in refine oc (o := hdL q.A) (n := fun _ => bo (getL fm.L x) fun v => some (v, q)) h (fun v h => ?_) fun h => bo_e h fun u e h => K h fun n => by rw [x_loc, e]
    exact some2 (G := fun v q' => q'.C → q.C ∧ REv B d fm q.h (.loc x) v q'.h) h fun c => ⟨c.2, (Al.of fun _ => trivial).up fun n _ => by rw [x_loc, c.1]⟩
  | glob x => exact bo_e h fun u e h => K h fun n => by rw [x_glob, e]
  | cel x =>
    refine bo_e h fun i e h c => ?_
    have z := ask_e h c
    rw [z.2.2]
    refine ⟨z.1, (Al.of fun _ => trivial).up fun m _ => ?_⟩
    rw [x_cel, e]
    have z := z.2.1
    exact obC (G := (match q.h.get i with | some (.cell (some v)) => some (v, q.h) | _ => none) = some (v, q.h)) z fun a e h => by rw [e, ← Option.some.inj h]
  | attr o a =>
    refine bq_e h fun u q1 h1 h c => ?_
    have z := ask_e h c
    have z1 := O.ev h1 z.1
    rw [z.2.2]
    exact ⟨z1.1, z1.2.up fun m x => by rw [x_attr, x]; dsimp only; rw [z.2.1]⟩
  | mcall o m args =>
    refine bq_e h fun u q1 h1 h => bq_e h fun mt q2 h2 h => bq_e h fun vs q3 h3 h c => ?_
    have M : q3.C ∧ Al fun n => runMt (run B n) d mt u m vs q3.h = some (v, q'.h) := by
      induction mt using Option.casesOn with
      | some f => exact askP_e h c
      | none => exact (askH_e h c).imp_right fun z => .of fun _ => z
    have z3 := evs_ok O h3 M.1
    have z2 := ask_e h2 z3.1
    have z1 := O.ev h1 z2.1
    rw [z2.2.2] at z3
    exact ⟨z1.1, z1.2.up3 z3.2 M.2 fun n x y z => by rw [x_mcall, x]; dsimp only; rw [z2.2.1]; dsimp only; rw [y]; exact z⟩
  | call x args =>
    refine bo_e h fun f e h => bq_e h fun vs q1 h1 h c => ?_
    have z := cal_ok h c
    have z1 := evs_ok O h1 z.1
    exact ⟨z1.1, z1.2.up2 z.2 fun n x y => by rw [x_call, e]; dsimp only; rw [x]; exact y⟩
  | bin op l r =>
    refine bq_e h fun a q1 h1 h => bq_e h fun b q2 h2 h c => ?_
    have z := askH_e h c
    have z2 := O.ev h2 z.1
    have z1 := O.ev h1 z2.1
    exact ⟨z1.1, z1.2.up2 z2.2 fun n x y => by rw [x_bin, x]; dsimp only; rw [y]; exact z.2⟩
  | cmp op l r =>
    refine bq_e h fun a q1 h1 h => bq_e h fun b q2 h2 h => bq_e h fun t q3 h3 h => some2 (G := fun v q' => q'.C → q.C ∧ REv B d fm q.h (.cmp op l r) v q'.h) h fun c => ?_
    have z := ask_e h3 c
    have z2 := O.ev h2 z.1
    have z1 := O.ev h1 z2.1
    rw [z.2.2]
    exact ⟨z1.1, z1.2.up2 z2.2 fun n x y => by rw [x_cmp, x]; dsimp only; rw [y]; dsimp only; rw [z.2.1]⟩
  | ite a b e =>
    refine bq_e h fun t q1 h1 h c => ?_
    induction t using Bool.casesOn with
    | false =>
      have z2 := O.ev h c
      have z1 := O.ts h1 z2.1
      exact ⟨z1.1, z1.2.up2 z2.2 fun n x y => by rw [x_ite, x]; exact y⟩
    | true =>
      have z2 := O.ev h c
      have z1 := O.ts h1 z2.1
      exact ⟨z1.1, z1.2.up2 z2.2 fun n x y => by rw [x_ite, x]; exact y⟩
  | sub o i =>
    refine bq_e h fun a q1 h1 h => bq_e h fun b q2 h2 h c => ?_
    have z := ask_e h c
    have z2 := O.ev h2 z.1
    have z1 := O.ev h1 z2.1
    rw [z.2.2]
    exact ⟨z1.1, z1.2.up2 z2.2 fun n x y => by rw [x_sub, x]; dsimp only; rw [y]; dsimp only; rw [z.2.1]⟩
  | slc o lo hi =>
    refine bq_e h fun a q1 h1 h => bq_e h fun l q2 h2 h => bq_e h fun u q3 h3 h c => ?_
    have z := askH_e h c
    have z3 := opt_ok O h3 z.1
    have z2 := opt_ok O h2 z3.1
    have z1 := O.ev h1 z2.1
    exact ⟨z1.1, z1.2.up3 z2.2 z3.2 fun n x y w => by rw [x_slc, x]; dsimp only; rw [y]; dsimp only; rw [w]; exact z.2⟩
  | lst es =>
    refine bq_e h fun vs q1 h1 h c => ?_
    have z := askH_e h c
    have z1 := evs_ok O h1 z.1
    exact ⟨z1.1, z1.2.up fun n x => by rw [x_lst, x]; exact z.2⟩
  | tpl es =>
    refine bq_e h fun vs q1 h1 h => ?_
    set_option smartUnfolding false in refine obt (b := short vs.length) h fun hs h => ?_
    refine some2 (G := fun v q' => q'.C → q.C ∧ REv B d fm q.h (.tpl es) v q'.h) h fun c => ?_
    have z1 := evs_ok O h1 c
    exact ⟨z1.1, z1.2.up fun n x => by rw [x_tpl, x]; dsimp only; rw [hs]⟩
  | comp elt t it cd =>
    refine bq_e h fun u q1 h1 h c => ?_
    obtain ⟨z, zi, us, h2, zr, zn⟩ := askP_e h c
    have z1 := O.ev h1 z
    exact ⟨z1.1, z1.2.up2 zr fun n x y => by rw [x_comp, x]; dsimp only; rw [zi]; dsimp only; rw [y]; exact zn⟩
  | _ => exact askP_e h
theorem ev_ok {q : Qs} {e : E} {v : V} (h : evX B P d fm q e = some (v, q')) : q'.C → q.C ∧ REv B d fm q.h e v q'.h := by
  unfold evX at h
  cases g : hdE q.A with
  | none => rw [g] at h; exact evY_ok O h
  | some y => rw [g] at h; exact some2 (G := fun v q' => q'.C → q.C ∧ REv B d fm q.h e v q'.h) h And.symm
theorem tsX_any {q : Qs} {e : E} {b : Bool} (h : bq (P.ev d fm q e) (fun v q => match v with
    | .bool b => some (b, q)
    | _ => none) = some (b, q')) (ht : ∀ n, (run B (n + 1)).ts d fm q.h e = match (run B n).ev d fm q.h e with
    | some (v, h) => match v with
      | .bool b => some (b, h)
      | _ => none
    | none => none) (c : q'.C) : q.C ∧ RTs B d fm q.h e b q'.h := by
  refine bq_e h fun v q1 h1 h => ?_
  induction v using V.casesOn with
  | bool b =>
    refine some2 (G := fun b q' => q'.C → q.C ∧ RTs B d fm q.h e b q'.h) h (fun c => ?_) c
    have z1 := O.ev h1 c
    exact ⟨z1.1, z1.2.up fun n x => by rw [ht, x]⟩
  | _ => exact nos h
theorem ts_ok {q : Qs} {e : E} {b : Bool} (h : tsX B P d fm q e = some (b, q')) (c : q'.C) : q.C ∧ RTs B d fm q.h e b q'.h := by
  induction e using E.casesOn with
  | not e =>
    refine bq_e h fun t q1 h1 h => some2 (G := fun b q' => q'.C → q.C ∧ RTs B d fm q.h (.not e) b q'.h) h (fun c => ?_) c
    have z1 := O.ts h1 c
    exact ⟨z1.1, z1.2.up fun n x => by rw [t_not, x]⟩
  | bop op es => exact (alls_ok O h c).imp_right fun z => z.up fun n x => x
  | cmp op l r =>
    refine bq_e h fun a q1 h1 h => bq_e h fun b q2 h2 h => ?_
    have z := ask_e h c
    have z2 := O.ev h2 z.1
    have z1 := O.ev h1 z2.1
    rw [z.2.2]
    exact ⟨z1.1, z1.2.up2 z2.2 fun n x y => by rw [t_cmp, x]; dsimp only; rw [y]; dsimp only; rw [z.2.1]⟩
  | ite _ _ _ => exact nos h
  | _ => exact tsX_any O h (fun _ => rfl) c
end
end
section
section
variable {B : Tb} {P : PX} (O : POk B P) {d : Nat} {fm fm' : Fm} {q' : Qs}
include O
theorem asg_ok {β : Type} {q : Qs} {t : Tgt} {v : V} {k : Fm → Qs → Option β} {r : β} {G : Prop} (h : asgX B P d fm q t v k = some r) (g : ∀ fm1 q1, k fm1 q1 = some r → (q1.C → q.C ∧ Al fun n => asg B (run B n) d fm q.h t v = some (fm1, q1.h)) → G) : G := by
  induction t using Tgt.casesOn with
  | loc x => exact g _ _ h fun c => ⟨c, .of fun _ => rfl⟩
  | cel x =>
    refine bo_e h fun i e h => bq_e h fun p q1 h1 h => g _ _ h fun c => ?_
    have z := ask_e h1 c
    exact ⟨z.1, .of fun n => by
      show (match getC fm.C x with | some i => celS fm q.h i v | none => none) = _
      rw [e]
      exact z.2.1⟩
  | attr o a =>
    refine bq_e h fun u q1 h1 h => bq_e h fun p q2 h2 h => g _ _ h fun c => ?_
    have z := ask_e h2 c
    have z1 := O.ev h1 z.1
    exact ⟨z1.1, z1.2.all fun n x => by
      show (match (run B n).ev d fm q.h o with | some (u, h) => putA B fm h u a v | none => none) = _
      rw [x]
      exact z.2.1⟩
  | sub o i =>
    refine bq_e h fun u q1 h1 h => bq_e h fun w q2 h2 h => bq_e h fun p q3 h3 h => g _ _ h fun c => ?_
    have z := ask_e h3 c
    have z2 := O.ev h2 z.1
    have z1 := O.ev h1 z2.1
    exact ⟨z1.1, z1.2.all2 z2.2 fun n x y => by
      show (match (run B n).ev d fm q.h o with | some (u, h) => (match (run B n).ev d fm h i with | some (k, h) => putS fm h u k v | none => none) | none => none) = _
      rw [x]
      dsimp only
      rw [y]
      exact z.2.1⟩
  | tup xs =>
    induction v using V.casesOn with
    | tup vs =>
      set_option smartUnfolding false in refine obt (b := Nat.beq xs.length vs.length) h fun hl h => ?_
      refine bo_e h fun L e h => g _ _ h fun c => ⟨c, .of fun n => ?_⟩
      show (match Nat.beq xs.length vs.length with | true => (match tupL fm.L xs vs with | some L => some (Fm.mk L fm.C, q.h) | none => none) | false => none) = _
      rw [hl]
      dsimp only
      rw [e]
    | _ => exact nos h
omit O in
theorem bf_e {o : Option (Fl × Fm × Qs)} {f : Fm → Qs → Option (Fl × Fm × Qs)} {fl : Fl} {G : Prop} (h : bf o f = some (fl, fm', q')) (k : ∀ fm1 q1, o = some (.next, fm1, q1) → f fm1 q1 = some (fl, fm', q') → G) (kr : ∀ v, fl = .ret v → o = some (.ret v, fm', q') → G) : G := by
  induction o using Option.casesOn with
  | none => exact nos h
  | some p =>
    obtain ⟨fl1, p⟩ := p
    induction fl1 using Fl.casesOn with
    | next => exact k p.1 p.2 rfl h
    | ret v => exact kr v (Prod.mk.inj (Option.some.inj h)).1.symm (congrArg (fun z : Fm × Qs => some (Fl.ret v, z)) (Prod.mk.inj (Option.some.inj h)).2)
omit O in
theorem thn_ok {d : Nat} {fm1 : Fm} {h1 : Hp} {fl : Fl} {r : List St} {o : Nat → Option (Fl × Fm × Hp)} (x : Al fun n => o n = some (.next, fm1, h1)) (y : REx B d fm1 h1 r fl fm' q'.h) : Al fun n => thn (o n) (fun fm h => (run B n).ex d fm h r) = some (fl, fm', q'.h) := x.all2 y fun n x y => by rw [x]; exact y
omit O in
theorem thn_ret {d : Nat} {h : Hp} {v : V} {r : List St} {o : Nat → Option (Fl × Fm × Hp)} (x : Al fun n => o n = some (.ret v, fm', h)) : Al fun n => thn (o n) (fun fm h => (run B n).ex d fm h r) = some (.ret v, fm', h) := x.all fun n x => by rw [x]; rfl
theorem exY_ok {q : Qs} {l : List St} {fl : Fl} (h : exY B P d fm q l = some (fl, fm', q')) : q'.C → q.C ∧ REx B d fm q.h l fl fm' q'.h := by
  induction l using List.casesOn with
  | nil => exact some3 (G := fun fl fm' q' => q'.C → q.C ∧ REx B d fm q.h [] fl fm' q'.h) h fun c => ⟨c, (Al.of fun _ => trivial).up fun m _ => rfl⟩
  | cons s r =>
    induction s using St.casesOn with
    | asg t e =>
      refine bq_e h fun v q1 h1 h => asg_ok O h fun fm1 q2 h ha c => ?_
      have z := O.ex h c
      have z2 := ha z.1
      have z1 := O.ev h1 z2.1
      exact ⟨z1.1, z1.2.up3 z2.2 z.2 fun n x y w => by rw [s_asg, x]; dsimp only; rw [y]; exact w⟩
    | expr e =>
      refine bq_e h fun v q1 h1 h c => ?_
      have z := O.ex h c
      have z1 := O.ev h1 z.1
      exact ⟨z1.1, z1.2.up2 z.2 fun n x y => by rw [s_expr, x]; exact y⟩
    | ret e =>
      refine bq_e h fun v q1 h1 h => some3 (G := fun fl fm' q' => q'.C → q.C ∧ REx B d fm q.h (.ret e :: r) fl fm' q'.h) h fun c => ?_
      have z1 := O.ev h1 c
      exact ⟨z1.1, z1.2.up fun n x => by rw [s_ret, x]⟩
    | retn => exact some3 (G := fun fl fm' q' => q'.C → q.C ∧ REx B d fm q.h (.retn :: r) fl fm' q'.h) h fun c => ⟨c, (Al.of fun _ => trivial).up fun m _ => rfl⟩
    | ifs a b e =>
      refine bq_e h fun t q1 h1 h => bf_e h (fun fm1 q2 h2 h c => ?_) fun v e h2 c => ?_
      · have z := O.ex h c
        have z2 := O.ex h2 z.1
        have z1 := O.ts h1 z2.1
        exact ⟨z1.1, z1.2.up2 (thn_ok z2.2 z.2) fun n x y => by rw [s_ifs, x]; exact y⟩
      · have z2 := O.ex h2 c
        have z1 := O.ts h1 z2.1
        rw [e]
        exact ⟨z1.1, z1.2.up2 (thn_ret z2.2) fun n x y => by rw [s_ifs, x]; exact y⟩
    | whl a b =>
      refine bf_e h (fun fm1 q2 h2 h c => ?_) fun v e h2 c => ?_
      · have z := O.ex h c
        have z2 := askF_e h2 z.1
        exact ⟨z2.1, (thn_ok z2.2 z.2).up fun n y => y⟩
      · have z2 := askF_e h2 c
        rw [e]
        exact ⟨z2.1, (thn_ret z2.2).up fun n y => y⟩
    | fors t e b =>
      refine bq_e h fun v q1 h1 h => bf_e h (fun fm1 q2 h2 h c => ?_) fun v e h2 c => ?_
      · have z := O.ex h c
        have z2 := askF_e h2 z.1
        have z1 := O.ev h1 z2.1
        exact ⟨z1.1, z1.2.up2 (thn_ok z2.2.2.2 z.2) fun n x y => by rw [s_fors, x]; dsimp only; rw [z2.2.1, z2.2.2.1]; exact y⟩
      · have z2 := askF_e h2 c
        have z1 := O.ev h1 z2.1
        rw [e]
        exact ⟨z1.1, z1.2.up2 (thn_ret z2.2.2.2) fun n x y => by rw [s_fors, x]; dsimp only; rw [z2.2.1, z2.2.2.1]; exact y⟩
    | raw _ => exact nos h
theorem ex_ok {q : Qs} {l : List St} {fl : Fl} (h : exX B P d fm q l = some (fl, fm', q')) : q'.C → q.C ∧ REx B d fm q.h l fl fm' q'.h := by
  unfold exX at h
  cases g : hdX q.A with
  | none => rw [g] at h; exact exY_ok O h
  | some y => rw [g] at h; exact some3 (G := fun fl fm' q' => q'.C → q.C ∧ REx B d fm q.h l fl fm' q'.h) h And.symm
end
theorem px_ok (B : Tb) (n : Nat) : POk B (px B n) := by
  induction n with
  | zero => exact ⟨nos, nos, nos⟩
  | succ n ih => exact ⟨ev_ok ih, ts_ok ih, ex_ok ih⟩
section
variable {B : Tb} {k d : Nat} {fm fm' fm2 : Fm} {h h' h2 : Hp} {A : List An} {C : Prop}
noncomputable def clX (B : Tb) (k d : Nat) (fn : Fn) (args : List V) (q : Qs) : Option (V × Qs) := bo (fullArgs fn.ps fn.dflt args) fun vs => bo (bindC fn.ps vs fn.cells q.h) fun p => match (px B k).ex d ⟨bindL fn.cells fn.ps vs [], p.1⟩ ⟨p.2, q.A, q.C⟩ fn.body with
  | some (fl, _, q) => some (retV fl, q)
  | none => none
theorem cl_px {f : Nat} {fn : Fn} {args : List V} {v : V} (hf : B.fn f = some fn) (ho : B.orc (d + 1) f args h = none) (e : clX B k d fn args ⟨h, A, True⟩ = some (v, ⟨h', [], C⟩)) (c : C) : RCl B (d + 1) f args h v h' := by
  refine bo_e e fun vs e1 e => bo_e e fun p e2 e => ?_
  set_option smartUnfolding false in refine ob e fun r e3 e => ?_
  refine some2 (G := fun v q => q.C → RCl B (d + 1) f args h v q.h) e (fun c => ?_) c
  refine ((px_ok B k).ex e3 c).2.up fun n x => ?_
  show clStep B (run B n) (d + 1) f args h = _
  unfold clStep
  rw [ho, hf]
  show clFn (run B n) d fn args h = _
  unfold clFn
  rw [e1]
  dsimp only
  rw [e2]
  dsimp only
  rw [x]
theorem cls_px {f i : Nat} {ms : List (Nat × Nat)} {args : List V} (hn : h.n + 2 ≤ 1000000) (ho : B.orc (d + 1) f args h = none) (hf : B.fn f = none) (hc : B.cls f = some ms) (hi : getM ms 181 = some i) (r : RCl B d i (.ref (h.n + 1) :: args) ((⟨h.n + 1, (h.set h.n (.flds [])).t⟩ : Hp).set (h.n + 1) (.inst f h.n) |> fun z => ⟨h.n + 2, z.t⟩) .none h') : RCl B (d + 1) f args h (.ref (h.n + 1)) h' := by
  refine r.up fun n x => ?_
  show clStep B (run B n) (d + 1) f args h = _
  unfold clStep
  rw [ho, hf, hc]
  show clCls (run B n) d f ms args h = _
  unfold clCls
  rw [hi]
  dsimp only
  rw [show h.new (.flds []) = some (h.n, ⟨h.n + 1, (h.set h.n (.flds [])).t⟩) from by unfold Hp.new; rw [Nat.blt_eq.mpr (show h.n < 1000000 by lia)]; rfl]
  dsimp only
  rw [show (⟨h.n + 1, (h.set h.n (.flds [])).t⟩ : Hp).new (.inst f h.n) = some (h.n + 1, (⟨h.n + 1, (h.set h.n (.flds [])).t⟩ : Hp).set (h.n + 1) (.inst f h.n) |> fun z => ⟨h.n + 2, z.t⟩) from by unfold Hp.new; rw [show Nat.blt (h.n + 1) 1000000 = true from Nat.blt_eq.mpr (by lia)]; rfl]
  dsimp only
  rw [x]
theorem wh_stop {c : E} {b : List St} (e : (px B k).ts d fm ⟨h, A, True⟩ c = some (false, ⟨h', [], C⟩)) (hc : C) : RWh B d fm h c b .next fm h' := ((px_ok B k).ts e hc).2.up fun n x => by
  show whStep (run B n) d fm h c b = _
  unfold whStep
  rw [x]
noncomputable def whX (B : Tb) (k d : Nat) (fm : Fm) (q : Qs) (c : E) (b : List St) : Option (Fl × Fm × Qs) := bq ((px B k).ts d fm q c) fun t q => match t with
  | true => (px B k).ex d fm q b
  | false => none
theorem wh_body {c : E} {b : List St} {fl : Fl} (e : whX B k d fm ⟨h, A, True⟩ c b = some (fl, fm', ⟨h', [], C⟩)) (hc : C) : Al fun n => ∃ h1, (run B n).ts d fm h c = some (true, h1) ∧ (run B n).ex d fm h1 b = some (fl, fm', h') := bq_e e fun t q e1 e => by
  induction t using Bool.casesOn with
  | false => exact nos e
  | true =>
    have z := (px_ok B k).ex e hc
    exact ((px_ok B k).ts e1 z.1).2.all2 z.2 fun n x y => ⟨_, x, y⟩
theorem wh_go {c : E} {b : List St} {fl : Fl} (e : whX B k d fm ⟨h, A, True⟩ c b = some (.next, fm', ⟨h', [], C⟩)) (hc : C) (r : RWh B d fm' h' c b fl fm2 h2) : RWh B d fm h c b fl fm2 h2 := (wh_body e hc).up2 r fun n x y => x.elim fun h1 x => by
  show whStep (run B n) d fm h c b = _
  unfold whStep
  rw [x.1]
  dsimp only
  rw [x.2]
  exact y
theorem wh_ret {c : E} {b : List St} {v : V} (e : whX B k d fm ⟨h, A, True⟩ c b = some (.ret v, fm', ⟨h', [], C⟩)) (hc : C) : RWh B d fm h c b (.ret v) fm' h' := (wh_body e hc).up fun n x => x.elim fun h1 x => by
  show whStep (run B n) d fm h c b = _
  unfold whStep
  rw [x.1]
  dsimp only
  rw [x.2]
  rfl
end
end
section
noncomputable def orc0 : Nat → Nat → List V → Hp → Option (V × Hp) := fun _ _ _ _ => none
noncomputable def rawN : Nat → Nat → Fm → Hp → Option (Fl × Fm × Hp) := fun _ _ _ _ => none
noncomputable abbrev B0 : Tb := tb orc0 rawN
theorem short_of_lt {n : Nat} (h : n < 100000) : short n = true := Nat.blt_eq.mpr h
theorem put_comm (a b : O) : ∀ {p q : List Bool} {t : T}, p ≠ q → T.put a p (T.put b q t) = T.put b q (T.put a p t)
  | [], [], _, h => absurd rfl h
  | [], true :: _, _, _ => rfl
  | [], false :: _, _, _ => rfl
  | true :: _, [], _, _ => rfl
  | false :: _, [], _, _ => rfl
  | true :: _, false :: _, _, _ => rfl
  | false :: _, true :: _, _, _ => rfl
  | true :: p, true :: q, t, h => congrArg (fun z => T.node t.top z t.right) (put_comm a b fun e => h (congrArg _ e))
  | false :: p, false :: q, t, h => congrArg (fun z => T.node t.top t.left z) (put_comm a b fun e => h (congrArg _ e))
theorem put_put (a b : O) : ∀ (p : List Bool) (t : T), T.put a p (T.put b p t) = T.put a p t
  | [], _ => rfl
  | true :: p, t => congrArg (fun z => T.node t.top z t.right) (put_put a b p _)
  | false :: p, t => congrArg (fun z => T.node t.top t.left z) (put_put a b p _)
noncomputable def Hp.push (h : Hp) (o : O) : Hp := ⟨h.n + 1, h.t.put o (way 20 h.n)⟩
theorem set_comm {h : Hp} {i j : Nat} {a b : O} (hi : i < 1000000) (hj : j < 1000000) (n : i ≠ j) : (h.set j b).set i a = (h.set i a).set j b := congrArg (Hp.mk h.n) (put_comm a b (way_ne hi hj n))
theorem set_set (h : Hp) (i : Nat) (a b : O) : (h.set i b).set i a = h.set i a := congrArg (Hp.mk h.n) (put_put a b _ _)
theorem set_push {h : Hp} {i : Nat} {a b : O} (hi : i < h.n) (hn : h.n < 1000000) : (h.push b).set i a = (h.set i a).push b := congrArg (Hp.mk (h.n + 1)) (put_comm a b (way_ne (Nat.lt_trans hi hn) hn (Nat.ne_of_lt hi)))
theorem set_push2 {h h' : Hp} {i : Nat} {a b : O} (e : h' = h.push b) (hi : i < h.n) (hn : h.n < 1000000) : h'.set i a = (h.set i a).push b := e ▸ set_push hi hn
theorem push_set (h : Hp) (a b : O) : (h.push b).set h.n a = h.push a := congrArg (Hp.mk (h.n + 1)) (put_put a b _ _)
theorem get_push {h : Hp} (o : O) (hn : h.n < 1000000) : (h.push o).get h.n = some o := Hp.get_same (h := h) ..
theorem get_push_ne {h : Hp} {i : Nat} (o : O) (hn : h.n < 1000000) (hi : i < h.n) : (h.push o).get i = h.get i := Hp.get_ne (h := h) o hn (Nat.lt_trans hi hn) (Nat.ne_of_gt hi)
theorem new_push {h : Hp} (o : O) (hn : h.n < 1000000) : h.new o = some (h.n, h.push o) := by
  unfold Hp.new
  rw [Nat.blt_eq.mpr hn]
  rfl
structure SS where
  s : Nat
  l : Nat
  b : Nat
  R : Hp
noncomputable def sH (text : S) (p : Nat) (X : SS) : Hp :=
  (((X.R.set 0 (.flds [(91, .ref 3), (93, .int X.s), (2, .int X.l), (14, .int X.b)])).set 1 (.inst 616 0)).set 2 (.flds [(5, .str text), (6, .int p)])).set 3 (.inst 258 2)
theorem sH_push (text : S) (p : Nat) {X : SS} (h4 : 4 ≤ X.R.n) (hn : X.R.n < 1000000) (o : O) : (sH text p X).push o = sH text p ⟨X.s, X.l, X.b, X.R.push o⟩ := (set_push2 (h := Hp.set (Hp.set (Hp.set X.R 0 _) 1 _) 2 _) (set_push2 (h := Hp.set (Hp.set X.R 0 _) 1 _) (set_push2 (h := Hp.set X.R 0 _) (set_push2 (h := X.R) rfl (Nat.lt_of_lt_of_le (by decide) h4) hn) (show 1 < X.R.n from Nat.lt_of_lt_of_le (by decide) h4) hn) (show 2 < X.R.n from Nat.lt_of_lt_of_le (by decide) h4) hn) (show 3 < X.R.n from Nat.lt_of_lt_of_le (by decide) h4) hn).symm
theorem sH_get (text : S) (p : Nat) (X : SS) {i : Nat} (h4 : 4 ≤ i) (hn : i < 1000000) : (sH text p X).get i = X.R.get i := by
  unfold sH
  have k : ∀ (R : Hp) (j : Nat) (o : O), j < 4 → (R.set j o).get i = R.get i := fun R j o hj => Hp.get_ne o (Nat.lt_trans hj (by decide)) hn (Nat.ne_of_lt (Nat.lt_of_lt_of_le hj h4))
  rw [k _ 3 _ (by decide), k _ 2 _ (by decide), k _ 1 _ (by decide), k _ 0 _ (by decide)]
structure Sf (text : S) (p : Nat) (r : S) : Prop where
  lim : text.length < 99990
  le : p ≤ text.length
  eq : text.drop p = r
section
variable {text r : S} {p c : Nat}
theorem Sf.lt (x : Sf text p r) : text.length < 100000 := Nat.lt_trans x.lim (by decide)
theorem Sf.len (x : Sf text p r) : p + r.length = text.length := by rw [← x.eq, List.length_drop, Nat.add_sub_cancel' x.le]
theorem Sf.cons (x : Sf text p (c :: r)) : p < text.length := x.len ▸ Nat.lt_add_of_pos_right (Nat.succ_pos _)
theorem Sf.at (x : Sf text p (c :: r)) : text[p]? = some c := by
  have := congrArg (fun l : S => l[0]?) x.eq
  rwa [List.getElem?_drop] at this
theorem Sf.next (x : Sf text p (c :: r)) : Sf text (p + 1) r := ⟨x.lim, x.cons, by rw [← List.drop_drop, x.eq]; rfl⟩
theorem Sf.nil (x : Sf text p []) : p = text.length := x.len
theorem Sf.drop (x : Sf text p r) {k : Nat} (hk : k ≤ r.length) : Sf text (p + k) (r.drop k) := ⟨x.lim, x.len ▸ Nat.add_le_add_left hk p, by rw [← List.drop_drop, x.eq]⟩
end
section
variable (h : Hp)
noncomputable abbrev hN : Hp := ⟨0, .nil⟩
noncomputable abbrev sN : Nat → Option (List (S × V)) := sdT.get
theorem c_lt {p n : Nat} (h1 : p < n) : cmpV sN hN .Lt (.int p) (.int n) = some true := congrArg some (decide_eq_true (Int.ofNat_lt.mpr h1))
theorem c_nlt {p n : Nat} (h1 : ¬ p < n) : cmpV sN hN .Lt (.int p) (.int n) = some false := congrArg some (decide_eq_false fun z => h1 (Int.ofNat_lt.mp z))
theorem c_ge {p n : Nat} (h1 : n ≤ p) : cmpV sN hN .GtE (.int p) (.int n) = some true := congrArg some (decide_eq_true (Int.ofNat_le.mpr h1))
theorem c_nge {p n : Nat} (h1 : ¬ n ≤ p) : cmpV sN hN .GtE (.int p) (.int n) = some false := congrArg some (decide_eq_false fun z => h1 (Int.ofNat_le.mp z))
theorem c_in {sg : S} {c : Nat} {b : Bool} (h1 : hasC sg c = b) : cmpV sN hN .In (.str [c]) (.str sg) = some b := congrArg some h1
theorem c_nin {sg : S} {c : Nat} {b : Bool} (h1 : hasC sg c = b) : cmpV sN hN .NotIn (.str [c]) (.str sg) = some (!b) := congrArg (fun b => some (!b)) h1
theorem c_eq {a b : S} {t : Bool} (h1 : seqB a b = t) : cmpV sN hN .Eq (.str a) (.str b) = some t := congrArg some h1
theorem len_str {s : S} (hl : s.length < 100000) : callB h 0 [.str s] = some (.int s.length, h) := by
  show (match short s.length with | true => some (V.int s.length, h) | false => none) = _
  rw [short_of_lt hl]
theorem sub_str {s : S} {p c : Nat} (hl : s.length < 100000) (e : s[p]? = some c) : subOf B0 hN (.str s) (.int p) = some (.str [c]) := by
  obtain ⟨hp, _⟩ := List.getElem?_eq_some_iff.mp e
  show (match (match Nat.blt p s.length && short p with | true => some p | false => none) with | some j => (match s[j]? with | some c => some (V.str [c]) | none => none) | none => none) = _
  rw [Nat.blt_eq.mpr hp, short_of_lt (Nat.lt_trans hp hl)]
  show (match s[p]? with | some c => some (V.str [c]) | none => none) = _
  rw [e]
theorem int_min (a b : Nat) : min (a : Int) (b : Int) = ((min a b : Nat) : Int) := (Nat.le_total a b).elim (fun h => by rw [Int.min_eq_left (Int.ofNat_le.mpr h), Nat.min_eq_left h]) fun h => by rw [Int.min_eq_right (Int.ofNat_le.mpr h), Nat.min_eq_right h]
theorem bound_nat {n q : Nat} (d : Nat) : bound n d (some (.int q)) = some (min q n) := by
  show some (max 0 (min (if (q : Int) < 0 then (q : Int) + n else q) (n : Int))).toNat = _
  rw [if_neg (Int.not_lt.mpr (Int.natCast_nonneg q)), int_min, Int.max_eq_right (Int.natCast_nonneg _)]
  rfl
theorem slc_any {s : S} {p k : Nat} (hl : s.length < 100000) (hp : p ≤ s.length) : slcV h (.str s) (some (.int p)) (some (.int ((p : Int) + k))) = some (.str ((s.drop p).take k), h) := by
  show (match short s.length with | true => (match bound s.length 0 (some (.int p)) with | some a => (match bound s.length s.length (some (.int ((p + k : Nat) : Int))) with | some b => some (V.str (cut s a b), h) | none => none) | none => none) | false => none) = _
  rw [short_of_lt hl, bound_nat, bound_nat]
  show some (V.str ((s.drop (min p s.length)).take (min (p + k) s.length - min p s.length)), h) = _
  rw [Nat.min_eq_left hp, ← Nat.sub_min_sub_right, Nat.add_sub_cancel_left, ← List.length_drop, ← List.take_eq_take_min]
theorem slc_sf {text r : S} {p : Nat} (x : Sf text p r) (k : Nat) : slcV h (.str text) (some (.int p)) (some (.int ((p : Int) + k))) = some (.str (r.take k), h) := x.eq ▸ slc_any h x.lt x.le
end
end
section
section
variable {a b c d e f g h i j k l : Prop}
theorem U1 (xa : a) : a ∧ True := ⟨xa, trivial⟩
theorem U2 (xa : a) (xb : b) : a ∧ b ∧ True := ⟨xa, ⟨xb, trivial⟩⟩
theorem U3 (xa : a) (xb : b) (xc : c) : a ∧ b ∧ c ∧ True := ⟨xa, ⟨xb, ⟨xc, trivial⟩⟩⟩
theorem U4 (xa : a) (xb : b) (xc : c) (xd : d) : a ∧ b ∧ c ∧ d ∧ True := ⟨xa, ⟨xb, ⟨xc, ⟨xd, trivial⟩⟩⟩⟩
theorem U5 (xa : a) (xb : b) (xc : c) (xd : d) (xe : e) : a ∧ b ∧ c ∧ d ∧ e ∧ True := ⟨xa, ⟨xb, ⟨xc, ⟨xd, ⟨xe, trivial⟩⟩⟩⟩⟩
theorem U6 (xa : a) (xb : b) (xc : c) (xd : d) (xe : e) (xf : f) : a ∧ b ∧ c ∧ d ∧ e ∧ f ∧ True := ⟨xa, ⟨xb, ⟨xc, ⟨xd, ⟨xe, ⟨xf, trivial⟩⟩⟩⟩⟩⟩
theorem U7 (xa : a) (xb : b) (xc : c) (xd : d) (xe : e) (xf : f) (xg : g) : a ∧ b ∧ c ∧ d ∧ e ∧ f ∧ g ∧ True := ⟨xa, ⟨xb, ⟨xc, ⟨xd, ⟨xe, ⟨xf, ⟨xg, trivial⟩⟩⟩⟩⟩⟩⟩
theorem U8 (xa : a) (xb : b) (xc : c) (xd : d) (xe : e) (xf : f) (xg : g) (xh : h) : a ∧ b ∧ c ∧ d ∧ e ∧ f ∧ g ∧ h ∧ True := ⟨xa, ⟨xb, ⟨xc, ⟨xd, ⟨xe, ⟨xf, ⟨xg, ⟨xh, trivial⟩⟩⟩⟩⟩⟩⟩⟩
theorem U9 (xa : a) (xb : b) (xc : c) (xd : d) (xe : e) (xf : f) (xg : g) (xh : h) (xi : i) : a ∧ b ∧ c ∧ d ∧ e ∧ f ∧ g ∧ h ∧ i ∧ True := ⟨xa, ⟨xb, ⟨xc, ⟨xd, ⟨xe, ⟨xf, ⟨xg, ⟨xh, ⟨xi, trivial⟩⟩⟩⟩⟩⟩⟩⟩⟩
theorem U10 (xa : a) (xb : b) (xc : c) (xd : d) (xe : e) (xf : f) (xg : g) (xh : h) (xi : i) (xj : j) : a ∧ b ∧ c ∧ d ∧ e ∧ f ∧ g ∧ h ∧ i ∧ j ∧ True := ⟨xa, ⟨xb, ⟨xc, ⟨xd, ⟨xe, ⟨xf, ⟨xg, ⟨xh, ⟨xi, ⟨xj, trivial⟩⟩⟩⟩⟩⟩⟩⟩⟩⟩
theorem U11 (xa : a) (xb : b) (xc : c) (xd : d) (xe : e) (xf : f) (xg : g) (xh : h) (xi : i) (xj : j) (xk : k) : a ∧ b ∧ c ∧ d ∧ e ∧ f ∧ g ∧ h ∧ i ∧ j ∧ k ∧ True := ⟨xa, ⟨xb, ⟨xc, ⟨xd, ⟨xe, ⟨xf, ⟨xg, ⟨xh, ⟨xi, ⟨xj, ⟨xk, trivial⟩⟩⟩⟩⟩⟩⟩⟩⟩⟩⟩
theorem U12 (xa : a) (xb : b) (xc : c) (xd : d) (xe : e) (xf : f) (xg : g) (xh : h) (xi : i) (xj : j) (xk : k) (xl : l) : a ∧ b ∧ c ∧ d ∧ e ∧ f ∧ g ∧ h ∧ i ∧ j ∧ k ∧ l ∧ True := ⟨xa, ⟨xb, ⟨xc, ⟨xd, ⟨xe, ⟨xf, ⟨xg, ⟨xh, ⟨xi, ⟨xj, ⟨xk, ⟨xl, trivial⟩⟩⟩⟩⟩⟩⟩⟩⟩⟩⟩⟩
end
noncomputable def whL (i : Nat) (l : List St) : E × List St := match l with
  | [] => (.cn, [])
  | s :: r => match i with
    | 0 => match s with
      | .whl c b => (c, b)
      | _ => (.cn, [])
    | i + 1 => whL i r
noncomputable def twLen (sg : S) : S → Nat
  | [] => 0
  | c :: r => match hasC sg c with
    | true => twLen sg r + 1
    | false => 0
theorem twLen_f {sg r : S} {c : Nat} (h : hasC sg c = false) : twLen sg (c :: r) = 0 := by
  show (match hasC sg c with | true => twLen sg r + 1 | false => 0) = 0
  rw [h]
theorem twLen_t {sg r : S} {c : Nat} (h : hasC sg c = true) : twLen sg (c :: r) = twLen sg r + 1 := by
  show (match hasC sg c with | true => twLen sg r + 1 | false => 0) = _
  rw [h]
section
variable {text : S} (X : SS) (d : Nat) {r : S} {p : Nat}
theorem tw_loop (sg : S) (v : V) : ∀ {r : S} {p : Nat}, Sf text p r → RWh B0 d ⟨[(15, .str sg), (0, .ref 3), (14, v)], []⟩ (sH text p X) (whL 1 b191).1 (whL 1 b191).2 .next ⟨[(15, .str sg), (0, .ref 3), (14, v)], []⟩ (sH text (p + twLen sg r) X)
  | [], p, x => wh_stop (k := 20) (A := [.a, .a, .b false]) (by kernel_rfl) (U2 (c_nlt (Nat.not_lt.mpr (Nat.le_of_eq x.nil.symm))) x.lt)
  | c :: r, p, x => by
    have L := x.lt
    have T := c_lt x.cons
    have U := sub_str L x.at
    cases h : hasC sg c with
    | false =>
      rw [twLen_f h]
      exact wh_stop (k := 20) (A := [.a, .a, .b true, .a, .a, .v (.str [c]), .b false]) (by kernel_rfl) (U4 (c_in h) U T L)
    | true =>
      rw [twLen_t h, ← Nat.add_assoc, Nat.add_right_comm]
      exact wh_go (k := 20) (h' := sH text (p + 1) X) (A := [.a, .a, .b true, .a, .a, .v (.str [c]), .b true, .a, .a, .a]) (by kernel_rfl) (U4 (c_in h) U T L) (tw_loop sg v x.next)
theorem take_while_run (sg : S) (x : Sf text p r) : RCl B0 (d + 1) 191 [.ref 3, .str sg] (sH text p X) (.str (r.take (twLen sg r))) (sH text (p + twLen sg r) X) :=
  cl_px (fn := ⟨[0, 15], [], [], b191⟩) rfl rfl (k := 20) (A := [.a, .f .next ⟨[(15, .str sg), (0, .ref 3), (14, .int p)], []⟩ (sH text (p + twLen sg r) X), .a, .a, .c (.str (r.take (twLen sg r))) (sH text (p + twLen sg r) X)]) (by kernel_rfl)
    (U2 (slc_sf (sH text (p + twLen sg r) X) x (twLen sg r)) (tw_loop X d sg (.int p) x))
theorem peek_c {c : Nat} (x : Sf text p (c :: r)) : RCl B0 (d + 1) 163 [.ref 3] (sH text p X) (.str [c]) (sH text p X) :=
  cl_px (fn := ⟨[0, 9], [], [.int 0], b163⟩) rfl rfl (k := 20) (A := [.a, .a, .a, .b true, .a, .v (.str [c])]) (by kernel_rfl) (U3 (sub_str x.lt x.at) (c_lt x.cons) x.lt)
theorem peek_n (x : Sf text p []) : RCl B0 (d + 1) 163 [.ref 3] (sH text p X) (.str []) (sH text p X) :=
  cl_px (fn := ⟨[0, 9], [], [.int 0], b163⟩) rfl rfl (k := 20) (A := [.a, .a, .a, .b false]) (by kernel_rfl) (U2 (c_nlt (Nat.not_lt.mpr (Nat.le_of_eq x.nil.symm))) x.lt)
theorem done_c {c : Nat} (x : Sf text p (c :: r)) : RCl B0 (d + 1) 155 [.ref 3] (sH text p X) (.bool false) (sH text p X) :=
  cl_px (fn := ⟨[0], [], [], b155⟩) rfl rfl (k := 20) (A := [.a, .a, .b false]) (by kernel_rfl) (U2 (c_nge (Nat.not_le.mpr x.cons)) x.lt)
theorem take_c {c : Nat} (x : Sf text p (c :: r)) : RCl B0 (d + 2) 177 [.ref 3] (sH text p X) (.str [c]) (sH text (p + 1) X) :=
  cl_px (fn := ⟨[0], [], [], b177⟩) rfl rfl (k := 20) (A := [.a, .c (.bool false) (sH text p X), .a, .a, .v (.str [c]), .a, .a, .a]) (by kernel_rfl) (U2 (sub_str x.lt x.at) (done_c X d x))
theorem starts_run (y : S) {t : Bool} (hy : y.length < 100000) (x : Sf text p r) (e : preB y r = t) : RCl B0 (d + 1) 170 [.ref 3, .str y] (sH text p X) (.bool t) (sH text p X) :=
  cl_px (fn := ⟨[0, 10], [], [], b170⟩) rfl rfl (k := 20) (A := [.a, .a, .a, .a, .c (.str (r.take y.length)) (sH text p X), .b t]) (by kernel_rfl)
    (U3 (c_eq e) (slc_sf (sH text p X) x y.length) hy)
theorem skip_t (y : S) (hy : y.length < 100000) (x : Sf text p r) (e : preB y r = true) : RCl B0 (d + 2) 184 [.ref 3, .str y] (sH text p X) (.bool true) (sH text (p + y.length) X) :=
  cl_px (fn := ⟨[0, 10], [], [], b184⟩) rfl rfl (k := 20) (A := [.a, .c (.bool true) (sH text p X), .a, .a, .a]) (by kernel_rfl) (U2 hy (starts_run X d y hy x e))
theorem skip_f (y : S) (hy : y.length < 100000) (x : Sf text p r) (e : preB y r = false) : RCl B0 (d + 2) 184 [.ref 3, .str y] (sH text p X) (.bool false) (sH text p X) :=
  cl_px (fn := ⟨[0, 10], [], [], b184⟩) rfl rfl (k := 20) (A := [.a, .c (.bool false) (sH text p X)]) (by kernel_rfl) (U1 (starts_run X d y hy x e))
end
noncomputable def nameS : S := match globT.get 22 with
  | some (.str s) => s
  | _ => []
noncomputable def figS : S := [48, 49, 50, 51, 52, 53, 54, 55, 56, 57]
noncomputable def spaceS : S := [32, 9, 13, 10, 12, 11]
noncomputable def nmLen : S → Nat
  | [] => 0
  | c :: r => match hasC nameS c with
    | true => match hasC figS c with
      | true => 0
      | false => twLen nameS (c :: r)
    | false => 0
section
variable {text : S} (X : SS) (d : Nat) {r : S} {p : Nat}
theorem name_run (x : Sf text p r) : RCl B0 (d + 2) 213 [.ref 3] (sH text p X) (.str (r.take (nmLen r))) (sH text (p + nmLen r) X) := by
  cases r with
  | nil => exact cl_px (fn := ⟨[0], [], [], b213⟩) rfl rfl (k := 20) (A := [.a, .c (.str []) (sH text p X), .a]) (by kernel_rfl) (U1 (peek_n X d x))
  | cons c r =>
    have P := peek_c X d x
    cases h1 : hasC nameS c with
    | false =>
      rw [show nmLen (c :: r) = 0 by show (match hasC nameS c with | true => (match hasC figS c with | true => 0 | false => _) | false => 0) = 0; rw [h1]]
      exact cl_px (fn := ⟨[0], [], [], b213⟩) rfl rfl (k := 20) (A := [.a, .c (.str [c]) (sH text p X), .a, .b true]) (by kernel_rfl) (U2 (c_nin h1) P)
    | true =>
      cases h2 : hasC figS c with
      | true =>
        rw [show nmLen (c :: r) = 0 by show (match hasC nameS c with | true => (match hasC figS c with | true => 0 | false => _) | false => 0) = 0; rw [h1, h2]]
        exact cl_px (fn := ⟨[0], [], [], b213⟩) rfl rfl (k := 20) (A := [.a, .c (.str [c]) (sH text p X), .a, .b false, .b true]) (by kernel_rfl) (U3 (c_in h2) (c_nin h1) P)
      | false =>
        rw [show nmLen (c :: r) = twLen nameS (c :: r) by show (match hasC nameS c with | true => (match hasC figS c with | true => 0 | false => _) | false => 0) = _; rw [h1, h2]]
        exact cl_px (fn := ⟨[0], [], [], b213⟩) rfl rfl (k := 20) (A := [.a, .c (.str [c]) (sH text p X), .a, .b false, .b false, .a, .c (.str ((c :: r).take (twLen nameS (c :: r)))) (sH text (p + twLen nameS (c :: r)) X)]) (by kernel_rfl)
          (U4 (take_while_run X d nameS x) (c_in h2) (c_nin h1) P)
end
end
section
theorem fdLen_lt (y : S) : ∀ (r : S) {k : Nat}, fdLen y r = some k → k < r.length
  | c :: r, k, e => by
    change (match preB y (c :: r) with | true => some 0 | false => (match fdLen y r with | some k => some (k + 1) | none => none)) = some k at e
    cases h : preB y (c :: r) with
    | true => rw [h] at e; cases e; exact Nat.succ_pos _
    | false =>
      rw [h] at e
      cases q : fdLen y r with
      | none => rw [q] at e; cases e
      | some j => rw [q] at e; cases e; exact Nat.succ_lt_succ (fdLen_lt y r q)
theorem fdLen_pre (y : S) : ∀ (r : S) {k : Nat}, fdLen y r = some k → preB y (r.drop k) = true
  | c :: r, k, e => by
    change (match preB y (c :: r) with | true => some 0 | false => (match fdLen y r with | some k => some (k + 1) | none => none)) = some k at e
    cases h : preB y (c :: r) with
    | true => rw [h] at e; cases e; exact h
    | false =>
      rw [h] at e
      cases q : fdLen y r with
      | none => rw [q] at e; cases e
      | some j => rw [q] at e; cases e; exact fdLen_pre y r q
theorem preB_len {y r : S} (h : preB y r = true) : y.length ≤ r.length := by
  have := congrArg List.length (seqB_iff.mp h)
  rw [List.length_take] at this
  exact Nat.le_trans (Nat.le_of_eq this.symm) (Nat.min_le_right ..)
section
variable {text : S} (X : SS) (d : Nat) {r : S} {p : Nat}
theorem find_str (h : Hp) {c : Nat} {y : S} (x : Sf text p r) : m0 h (.str text) 17 [.str (c :: y), .int p] = some (.int (fdAt p (fdLen (c :: y) r)), h) := by
  show (match short text.length with | true => some (V.int (fdAt p (fdLen (c :: y) (text.drop p))), h) | false => none) = _
  rw [short_of_lt x.lt, x.eq]
theorem min_int (h : Hp) (a b : Nat) : callB h 1 [.int a, .int b] = some (.int (min a b : Nat), h) := by
  show some (V.int (if (b : Int) < a then (b : Int) else a), h) = _
  rw [← int_min, Int.min_def]
  split
  · rw [if_neg (Int.not_le.mpr ‹_›)]
  · rw [if_pos (Int.not_lt.mp ‹_›)]
theorem take_line_s {k : Nat} (x : Sf text p r) (e : fdLen [10] r = some k) : RCl B0 (d + 1) 198 [.ref 3] (sH text p X) (.str (r.take k)) (sH text (p + (k + 1)) X) :=
  have hk : p + (k + 1) ≤ text.length := x.len ▸ Nat.add_le_add_left (fdLen_lt _ _ e) p
  cl_px (fn := ⟨[0], [], [], b198⟩) rfl rfl (k := 20) (A := [.a, .a, .a, .c (.int (p + k : Nat)) (sH text p X), .a, .a, .a, .c (.str (r.take k)) (sH text p X), .a, .a, .c (.int (p + (k + 1) : Nat)) (sH text p X), .a]) (by kernel_rfl)
    (U4 ((min_int (sH text p X) (p + (k + 1)) text.length).trans (by rw [Nat.min_eq_left hk])) x.lt (slc_sf (sH text p X) x k) ((find_str (sH text p X) (c := 10) (y := []) x).trans (by rw [e])))
theorem take_line_n (x : Sf text p r) (e : fdLen [10] r = none) : RCl B0 (d + 1) 198 [.ref 3] (sH text p X) (.str r) (sH text text.length X) :=
  have h1 : slcV (sH text p X) (.str text) (some (.int p)) (some (.int text.length)) = some (.str r, sH text p X) := by
    have := slc_sf (sH text p X) x r.length
    rw [List.take_length] at this
    rw [← this, ← x.len]
    rfl
  cl_px (fn := ⟨[0], [], [], b198⟩) rfl rfl (k := 20) (A := [.a, .a, .a, .c (.int (-1)) (sH text p X), .a, .a, .a, .a, .c (.str r) (sH text p X), .a, .a, .c (.int text.length) (sH text p X), .a]) (by kernel_rfl)
    (U5 ((min_int (sH text p X) (text.length + 1) text.length).trans (by rw [Nat.min_eq_right (Nat.le_succ _)])) x.lt h1 x.lt ((find_str (sH text p X) (c := 10) (y := []) x).trans (by rw [e])))
end
noncomputable def skipS : Nat → S → Option S
  | 0, _ => none
  | f + 1, r => match preB [47, 47] (r.drop (twLen spaceS r)) with
    | true => match fdLen [10] (r.drop (twLen spaceS r)) with
      | some k => skipS f ((r.drop (twLen spaceS r)).drop (k + 1))
      | none => skipS f []
    | false => match preB [47, 42] (r.drop (twLen spaceS r)) with
      | true => match fdLen [42, 47] ((r.drop (twLen spaceS r)).drop 2) with
        | some k => skipS f ((r.drop (twLen spaceS r)).drop (k + 4))
        | none => none
      | false => some (r.drop (twLen spaceS r))
theorem twLen_le (sg : S) : ∀ r, twLen sg r ≤ r.length
  | [] => Nat.le_refl _
  | c :: r => by
    cases h : hasC sg c with
    | true => rw [twLen_t h]; exact Nat.succ_le_succ (twLen_le sg r)
    | false => rw [twLen_f h]; exact Nat.zero_le _
noncomputable def tl (x : Nat) : Option V → List (Nat × V)
  | none => []
  | some v => [(x, v)]
theorem drop_le (k : Nat) (r : S) : (r.drop k).length ≤ r.length := List.length_drop ▸ Nat.sub_le ..
section
variable {text : S} (X : SS) (d : Nat)
noncomputable abbrev skF (o : Option V) : Fm := ⟨(0, .ref 1) :: (91, .ref 3) :: tl 16 o, []⟩
theorem skip_loop (f : Nat) : ∀ {p : Nat} {r r' : S} (o : Option V), Sf text p r → skipS f r = some r' → ∃ q fm, Sf text q r' ∧ r'.length ≤ r.length ∧ RWh B0 (d + 1) (skF o) (sH text p X) (whL 1 b564).1 (whL 1 b564).2 (.ret .none) fm (sH text q X) := by
  induction f with
  | zero => exact fun o x e => nomatch e
  | succ f ih =>
    intro p r r' o x e
    have W := take_while_run X d spaceS x
    have y := x.drop (twLen_le spaceS r)
    have hy := drop_le (twLen spaceS r) r
    change (match preB [47, 47] (r.drop (twLen spaceS r)) with | true => _ | false => _) = some r' at e
    generalize twLen spaceS r = a at *
    generalize r.drop a = r1 at *
    generalize p + a = p1 at *
    generalize r.take a = u at W
    cases q1 : preB [47, 47] r1 with
    | true =>
      have S1 := starts_run X d [47, 47] (by decide) y q1
      rw [q1] at e
      change (match fdLen [10] r1 with | some k => _ | none => _) = some r' at e
      cases q2 : fdLen [10] r1 with
      | some j =>
        rw [q2] at e
        obtain ⟨q, fm, z, hz, L⟩ := ih o (y.drop (fdLen_lt _ _ q2)) e
        exact ⟨q, fm, z, Nat.le_trans hz (Nat.le_trans (drop_le ..) hy), wh_go (k := 20) (h' := sH text (p1 + (j + 1)) X) (A := [.a, .c (.str u) (sH text p1 X), .a, .c (.bool true) (sH text p1 X), .a, .c (.str (r1.take j)) (sH text (p1 + (j + 1)) X)]) (by kernel_rfl) (U3 (take_line_s X d y q2) S1 W) L⟩
      | none =>
        rw [q2] at e
        obtain ⟨q, fm, z, hz, L⟩ := ih o (p := text.length) (r := []) ⟨x.lim, Nat.le_refl _, List.drop_length⟩ e
        exact ⟨q, fm, z, Nat.le_trans hz (Nat.zero_le _), wh_go (k := 20) (h' := sH text text.length X) (A := [.a, .c (.str u) (sH text p1 X), .a, .c (.bool true) (sH text p1 X), .a, .c (.str r1) (sH text text.length X)]) (by kernel_rfl) (U3 (take_line_n X d y q2) S1 W) L⟩
    | false =>
      have S1 := starts_run X d [47, 47] (by decide) y q1
      rw [q1] at e
      change (match preB [47, 42] r1 with | true => _ | false => some r1) = some r' at e
      cases q2 : preB [47, 42] r1 with
      | false =>
        have S2 := starts_run X d [47, 42] (by decide) y q2
        rw [q2] at e
        cases e
        exact ⟨p1, skF o, y, hy, wh_ret (k := 20) (A := [.a, .c (.str u) (sH text p1 X), .a, .c (.bool false) (sH text p1 X), .a, .c (.bool false) (sH text p1 X)]) (by kernel_rfl) (U3 S2 S1 W)⟩
      | true =>
        have S2 := starts_run X d [47, 42] (by decide) y q2
        rw [q2] at e
        change (match fdLen [42, 47] (r1.drop 2) with | some k => _ | none => none) = some r' at e
        cases q3 : fdLen [42, 47] (r1.drop 2) with
        | none => rw [q3] at e; cases e
        | some j =>
          rw [q3] at e
          have F := (find_str (sH text p1 X) (c := 42) (y := [47]) (p := p1 + 2) (r := r1.drop 2) (y.drop (preB_len q2))).trans (show _ = some (V.int (p1 + j + 2 : Nat), sH text p1 X) by rw [q3, Nat.add_right_comm p1 j 2]; rfl)
          have hj : j + 4 ≤ r1.length := by
            have h := preB_len (fdLen_pre _ _ q3)
            rw [List.drop_drop, List.length_drop] at h
            have := Nat.add_le_of_le_sub' (Nat.le_of_lt (Nat.lt_of_sub_pos (Nat.lt_of_lt_of_le (by decide) h))) h
            rwa [Nat.add_comm 2 j] at this
          obtain ⟨q, fm, z, hz, L⟩ := ih (some (.int (p1 + j + 2 : Nat))) (y.drop (k := j + 4) hj) e
          refine ⟨q, fm, z, Nat.le_trans hz (Nat.le_trans (drop_le ..) hy), ?_⟩
          cases o <;> exact wh_go (k := 20) (h' := sH text (p1 + (j + 4)) X) (A := [.a, .c (.str u) (sH text p1 X), .a, .c (.bool false) (sH text p1 X), .a, .c (.bool true) (sH text p1 X), .a, .a, .a, .a, .c (.int (p1 + j + 2 : Nat)) (sH text p1 X), .a, .a, .a]) (by kernel_rfl) (U4 F S2 S1 W) L
end
end
section
section
variable {text : S} (X : SS) (d : Nat)
theorem skip_space_run {f p : Nat} {r r' : S} (x : Sf text p r) (e : skipS f r = some r') : ∃ q, Sf text q r' ∧ r'.length ≤ r.length ∧ RCl B0 (d + 2) 564 [.ref 1] (sH text p X) .none (sH text q X) :=
  (skip_loop X d f none x e).imp fun q h => h.elim fun fm h => ⟨h.1, h.2.1, cl_px (fn := ⟨[0], [], [], b564⟩) rfl rfl (k := 20) (A := [.a, .f (.ret .none) fm (sH text q X)]) (by kernel_rfl) (U1 h.2.2)⟩
end
noncomputable def newH (h : Hp) (c : Nat) (fs : List (Nat × V)) : Hp := (h.push (.flds fs)).push (.inst c h.n)
theorem putA_new {h : Hp} {c a : Nat} {fs : List (Nat × V)} (fm : Fm) (v : V) (hn : h.n + 2 ≤ 1000000) (hf : isFld B0 c a = true) (hl : Nat.blt fs.length 100 = true) : putA B0 fm (newH h c fs) (.ref (h.n + 1)) a v = some (fm, newH h c (setL fs a v)) := by
  have h1 : h.n < 1000000 := by lia
  have h2 : h.n + 1 < 1000000 := hn
  unfold putA
  dsimp only
  rw [show (newH h c fs).get (h.n + 1) = some (.inst c h.n) from get_push (h := h.push (.flds fs)) _ h2]
  show putF B0 fm (newH h c fs) c h.n a v = _
  unfold putF
  rw [hf, show (newH h c fs).get h.n = some (.flds fs) from (get_push_ne (h := h.push (.flds fs)) _ h2 (Nat.lt_succ_self _)).trans (get_push _ h1)]
  dsimp only
  rw [hl]
  exact congrArg (fun z => some (fm, z)) ((set_push (h := h.push (.flds fs)) (Nat.lt_succ_self _) h2).trans (congrArg (fun z => Hp.push z (.inst c h.n)) (push_set h _ _)))
theorem cls_new {d f i : Nat} {ms : List (Nat × Nat)} {args : List V} {h h' : Hp} (hn : h.n + 2 ≤ 1000000) (hf : B0.fn f = none) (hc : B0.cls f = some ms) (hi : getM ms 181 = some i) (r : RCl B0 d i (.ref (h.n + 1) :: args) (newH h f []) .none h') : RCl B0 (d + 1) f args h (.ref (h.n + 1)) h' := cls_px hn rfl hf hc hi r
theorem pos_new (d : Nat) (a b c : V) {h : Hp} (hn : h.n + 2 ≤ 1000000) : RCl B0 (d + 2) 46 [a, b, c] h (.ref (h.n + 1)) (newH h 46 [(1, a), (2, b), (3, c)]) :=
  cls_new hn rfl rfl rfl (cl_px (fn := ⟨[0, 1, 2, 3], [], [], b36⟩) rfl rfl (k := 20) (A := [.s ⟨[(3, c), (2, b), (1, a), (0, .ref (h.n + 1))], []⟩ (newH h 46 [(1, a)]), .s ⟨[(3, c), (2, b), (1, a), (0, .ref (h.n + 1))], []⟩ (newH h 46 [(1, a), (2, b)]), .s ⟨[(3, c), (2, b), (1, a), (0, .ref (h.n + 1))], []⟩ (newH h 46 [(1, a), (2, b), (3, c)])]) (by kernel_rfl)
    (U3 (putA_new (c := 46) (fs := [(1, a), (2, b)]) ⟨[(3, c), (2, b), (1, a), (0, .ref (h.n + 1))], []⟩ c hn (a := 3) rfl rfl) (putA_new (c := 46) (fs := [(1, a)]) ⟨[(3, c), (2, b), (1, a), (0, .ref (h.n + 1))], []⟩ b hn (a := 2) rfl rfl) (putA_new (c := 46) (fs := []) ⟨[(3, c), (2, b), (1, a), (0, .ref (h.n + 1))], []⟩ a hn (a := 1) rfl rfl)))
noncomputable abbrev tkF (h : Hp) (k t p u : V) : Fm := ⟨[(7, u), (6, p), (5, t), (4, k), (0, .ref (h.n + 1))], []⟩
theorem tok_new4 (d : Nat) (k t p u : V) {h : Hp} (hu : isN u = false) (hn : h.n + 2 ≤ 1000000) : RCl B0 (d + 2) 129 [k, t, p, u] h (.ref (h.n + 1)) (newH h 129 [(4, k), (5, t), (6, p), (7, u)]) :=
  cls_new hn rfl rfl rfl (cl_px (fn := ⟨[0, 4, 5, 6, 7], [], [.none], b112⟩) rfl rfl (k := 20) (A := [.s (tkF h k t p u) (newH h 129 [(4, k)]), .s (tkF h k t p u) (newH h 129 [(4, k), (5, t)]), .s (tkF h k t p u) (newH h 129 [(4, k), (5, t), (6, p)]), .b false, .s (tkF h k t p u) (newH h 129 [(4, k), (5, t), (6, p), (7, u)])]) (by kernel_rfl)
    (U5 (putA_new (c := 129) (fs := [(4, k), (5, t), (6, p)]) (tkF h k t p u) u hn (a := 7) rfl rfl) (show cmpV sN hN .Is u .none = some false from congrArg some hu) (putA_new (c := 129) (fs := [(4, k), (5, t)]) (tkF h k t p u) p hn (a := 6) rfl rfl) (putA_new (c := 129) (fs := [(4, k)]) (tkF h k t p u) t hn (a := 5) rfl rfl) (putA_new (c := 129) (fs := []) (tkF h k t p u) k hn (a := 4) rfl rfl)))
theorem tok_new3 (d : Nat) (k t p : V) {h : Hp} (hn : h.n + 2 ≤ 1000000) : RCl B0 (d + 2) 129 [k, t, p] h (.ref (h.n + 1)) (newH h 129 [(4, k), (5, t), (6, p), (7, t)]) :=
  cls_new hn rfl rfl rfl (cl_px (fn := ⟨[0, 4, 5, 6, 7], [], [.none], b112⟩) rfl rfl (k := 20) (A := [.s (tkF h k t p .none) (newH h 129 [(4, k)]), .s (tkF h k t p .none) (newH h 129 [(4, k), (5, t)]), .s (tkF h k t p .none) (newH h 129 [(4, k), (5, t), (6, p)]), .a, .s (tkF h k t p .none) (newH h 129 [(4, k), (5, t), (6, p), (7, t)])]) (by kernel_rfl)
    (U4 (putA_new (c := 129) (fs := [(4, k), (5, t), (6, p)]) (tkF h k t p .none) t hn (a := 7) rfl rfl) (putA_new (c := 129) (fs := [(4, k), (5, t)]) (tkF h k t p .none) p hn (a := 6) rfl rfl) (putA_new (c := 129) (fs := [(4, k)]) (tkF h k t p .none) t hn (a := 5) rfl rfl) (putA_new (c := 129) (fs := []) (tkF h k t p .none) k hn (a := 4) rfl rfl)))
noncomputable abbrev SS.new (X : SS) (c : Nat) (fs : List (Nat × V)) : SS := ⟨X.s, X.l, X.b, newH X.R c fs⟩
theorem sH_new (text : S) (p : Nat) {X : SS} (h4 : 4 ≤ X.R.n) (hn : X.R.n + 2 ≤ 1000000) (c : Nat) (fs : List (Nat × V)) : newH (sH text p X) c fs = sH text p (X.new c fs) := by
  unfold newH
  rw [sH_push text p h4 (by lia), sH_push text p (X := ⟨X.s, X.l, X.b, X.R.push (.flds fs)⟩) (Nat.le_succ_of_le h4) hn]
  rfl
noncomputable def walk : Nat → S → Nat → Nat → Nat → Nat × Nat
  | 0, _, _, line, begun => (line, begun)
  | _ + 1, [], _, line, begun => (line, begun)
  | k + 1, c :: r, seen, line, begun => match Nat.beq c 10 with
    | true => walk k r (seen + 1) (line + 1) (seen + 1)
    | false => walk k r (seen + 1) line begun
section
variable {text : S} (d : Nat) {p : Nat}
noncomputable abbrev plF (text : S) (off : Nat) : Fm := ⟨[(1, .int off), (0, .ref 1), (5, .str text)], []⟩
theorem pl_loop (off : Nat) : ∀ (k : Nat) {s l b : Nat} {R : Hp} {r : S}, Sf text s r → s + k = off → off ≤ text.length →
    RWh B0 d (plF text off) (sH text p ⟨s, l, b, R⟩) (whL 1 b557).1 (whL 1 b557).2 .next (plF text off) (sH text p ⟨off, (walk k r s l b).1, (walk k r s l b).2, R⟩)
  | 0, s, l, b, R, r, x, e, hl => e ▸ wh_stop (k := 20) (A := [.a, .b false]) (by kernel_rfl) (U1 (c_nlt (Nat.lt_irrefl s)))
  | k + 1, s, l, b, R, [], x, e, hl => absurd hl (Nat.not_le.mpr (by rw [← e, x.nil]; exact Nat.lt_add_of_pos_right (Nat.succ_pos k)))
  | k + 1, s, l, b, R, c :: r, x, e, hl => by
    have T : s < off := e ▸ Nat.lt_add_of_pos_right (Nat.succ_pos k)
    have U := sub_str x.lt x.at
    have ee : s + 1 + k = off := by rw [← e, Nat.add_right_comm, Nat.add_assoc]
    show RWh B0 d _ _ _ _ _ _ (sH text p ⟨off, (match Nat.beq c 10 with | true => walk k r (s + 1) (l + 1) (s + 1) | false => walk k r (s + 1) l b).1, (match Nat.beq c 10 with | true => walk k r (s + 1) (l + 1) (s + 1) | false => walk k r (s + 1) l b).2, R⟩)
    cases h : Nat.beq c 10 with
    | true => exact wh_go (k := 20) (h' := sH text p ⟨s + 1, l + 1, s + 1, R⟩) (A := [.a, .b true, .a, .v (.str [c]), .b true, .a, .a, .a, .a, .a, .a, .a, .a, .a]) (by kernel_rfl) (U3 (c_eq (show seqB [c] [10] = true by show (match Nat.beq c 10 with | true => true | false => false) = true; rw [h])) U (c_lt T)) (pl_loop off k x.next ee hl)
    | false => exact wh_go (k := 20) (h' := sH text p ⟨s + 1, l, b, R⟩) (A := [.a, .b true, .a, .v (.str [c]), .b false, .a, .a, .a]) (by kernel_rfl) (U3 (c_eq (show seqB [c] [10] = false by show (match Nat.beq c 10 with | true => true | false => false) = false; rw [h])) U (c_lt T)) (pl_loop off k x.next ee hl)
noncomputable def SS.at (X : SS) (r : S) (off : Nat) : SS := ⟨off, (walk (off - X.s) r X.s X.l X.b).1, (walk (off - X.s) r X.s X.l X.b).2, X.R⟩
noncomputable def posF (X : SS) : List (Nat × V) := [(1, .int X.s), (2, .int X.l), (3, .int ((X.s : Int) - X.b + 1))]
theorem place_run {X : SS} {off : Nat} {r : S} (x : Sf text X.s r) (hs : X.s ≤ off) (ho : off ≤ text.length) (h4 : 4 ≤ X.R.n) (hn : X.R.n + 2 ≤ 1000000) : RCl B0 (d + 3) 557 [.ref 1, .int off] (sH text p X) (.ref (X.R.n + 1)) (sH text p ((X.at r off).new 46 (posF (X.at r off)))) := by
  have P := pos_new d (.int off) (.int (X.at r off).l) (.int ((off : Int) - (X.at r off).b + 1)) (h := sH text p (X.at r off)) hn
  rw [sH_new text p (X := X.at r off) h4 hn] at P
  exact cl_px (fn := ⟨[0, 1], [], [], b557⟩) rfl rfl (k := 20) (A := [.a, .a, .f .next (plF text off) (sH text p (X.at r off)), .a, .a, .a, .a, .c (.ref (X.R.n + 1)) (sH text p ((X.at r off).new 46 (posF (X.at r off))))]) (by kernel_rfl)
    (U2 P (pl_loop (p := p) (l := X.l) (b := X.b) (R := X.R) (d + 2) off (off - X.s) x (Nat.add_sub_cancel' hs) ho))
end
end
section
theorem beq1 {c k : Nat} {t : Bool} (h : Nat.beq c k = t) : cmpV sN hN .Eq (.str [c]) (.str [k]) = some t := c_eq (show (match Nat.beq c k with | true => true | false => false) = t by rw [h]; cases t <;> rfl)
theorem c_gt (n : Nat) : cmpV sN hN .Gt (.int (n + 1 : Nat)) (.int 0) = some true := congrArg some (decide_eq_true (Int.ofNat_lt.mpr (Nat.succ_pos n)))
theorem b_dec (h : Hp) (n : Nat) : binop h .Sub (.int (n + 1 : Nat)) (.int 1) = some (.int n, h) := congrArg (fun z => some (V.int z, h)) (Int.add_sub_cancel (n : Int) 1)
noncomputable def txtS : S → Option S
  | [] => none
  | c :: r => match Nat.beq c 34 with
    | true => some r
    | false => match Nat.beq c 92 with
      | true => none
      | false => txtS r
section
variable {text : S} (X : SS) (d : Nat)
noncomputable abbrev txF (v : V) (o : Option V) : Fm := ⟨(6, v) :: (0, .ref 1) :: tl 12 o, []⟩
theorem txt_loop (v : V) : ∀ {p : Nat} {r r' : S} (o : Option V), Sf text p r → txtS r = some r' → ∃ q fm, Sf text q r' ∧ r'.length ≤ r.length ∧ RWh B0 (d + 2) (txF v o) (sH text p X) (whL 0 b606).1 (whL 0 b606).2 (.ret .none) fm (sH text q X)
  | p, c :: r, r', o, x, e => by
    have T := take_c X d x
    change (match Nat.beq c 34 with | true => some r | false => (match Nat.beq c 92 with | true => none | false => txtS r)) = some r' at e
    cases h1 : Nat.beq c 34 with
    | true =>
      rw [h1] at e
      cases e
      refine ⟨p + 1, txF v (some (.str [c])), x.next, Nat.le_succ _, ?_⟩
      cases o <;> exact wh_ret (k := 20) (A := [.a, .a, .c (.str [c]) (sH text (p + 1) X), .a, .b true]) (by kernel_rfl) (U2 (beq1 h1) T)
    | false =>
      rw [h1] at e
      cases h2 : Nat.beq c 92 with
      | true => rw [h2] at e; cases e
      | false =>
        rw [h2] at e
        obtain ⟨q, fm, y, hy, L⟩ := txt_loop v (some (.str [c])) x.next e
        refine ⟨q, fm, y, Nat.le_succ_of_le hy, ?_⟩
        cases o <;> exact wh_go (k := 20) (h' := sH text (p + 1) X) (A := [.a, .a, .c (.str [c]) (sH text (p + 1) X), .a, .b false, .b false]) (by kernel_rfl) (U3 (beq1 h2) (beq1 h1) T) L
theorem skip_text_run (v : V) {p : Nat} {r r' : S} (x : Sf text p r) (e : txtS r = some r') : ∃ q, Sf text q r' ∧ r'.length ≤ r.length ∧ RCl B0 (d + 3) 606 [.ref 1, v] (sH text p X) .none (sH text q X) :=
  (txt_loop X d v none x e).imp fun q h => h.elim fun fm h => ⟨h.1, h.2.1, cl_px (fn := ⟨[0, 6], [], [], b606⟩) rfl rfl (k := 20) (A := [.f (.ret .none) fm (sH text q X)]) (by kernel_rfl) (U1 h.2.2)⟩
end
noncomputable def actS : Nat → S → Nat → Option S
  | 0, _, _ => none
  | _ + 1, [], _ => none
  | f + 1, c :: r, dp => match Nat.beq c 123 with
    | true => actS f r (dp + 1)
    | false => match Nat.beq c 125 with
      | true => match dp with
        | 0 => some r
        | dp + 1 => actS f r dp
      | false => match Nat.beq c 34 with
        | true => match txtS r with
          | some r => actS f r dp
          | none => none
        | false => actS f r dp
section
variable {text : S} (X : SS) (d : Nat)
noncomputable abbrev acF (v : V) (dp : Int) (o : Option V) : Fm := ⟨(6, v) :: (0, .ref 1) :: (91, .ref 3) :: (107, .int dp) :: tl 12 o, []⟩
theorem act_loop (v : V) (f : Nat) : ∀ {p dp : Nat} {r r' : S} (o : Option V), Sf text p r → actS f r dp = some r' → ∃ q c, Sf text q r' ∧ r'.length ≤ r.length ∧ RWh B0 (d + 3) (acF v (dp + 1 : Nat) o) (sH text p X) (whL 3 b599).1 (whL 3 b599).2 .next (acF v 0 (some (.str [c]))) (sH text q X) := by
  induction f with
  | zero => exact fun o x e => nomatch e
  | succ f ih =>
    intro p dp r r' o x e
    cases r with
    | nil => cases e
    | cons c r =>
    change (match Nat.beq c 123 with | true => actS f r (dp + 1) | false => (match Nat.beq c 125 with | true => (match (generalizing := false) dp with | 0 => some r | dp + 1 => actS f r dp) | false => (match Nat.beq c 34 with | true => (match txtS r with | some r => actS f r dp | none => none) | false => actS f r dp))) = some r' at e
    have T := take_c X (d + 1) x
    have G := c_gt dp
    have K : ∀ {dp' q r1}, Sf text q r1 → r1.length ≤ r.length → actS f r1 dp' = some r' → (∀ q2 c2, RWh B0 (d + 3) (acF v (dp' + 1 : Nat) (some (.str [c]))) (sH text q X) (whL 3 b599).1 (whL 3 b599).2 .next (acF v 0 (some (.str [c2]))) (sH text q2 X) → RWh B0 (d + 3) (acF v (dp + 1 : Nat) o) (sH text p X) (whL 3 b599).1 (whL 3 b599).2 .next (acF v 0 (some (.str [c2]))) (sH text q2 X)) → ∃ q c, Sf text q r' ∧ r'.length ≤ (c :: r).length ∧ RWh B0 (d + 3) (acF v (dp + 1 : Nat) o) (sH text p X) (whL 3 b599).1 (whL 3 b599).2 .next (acF v 0 (some (.str [c]))) (sH text q X) := fun y hy e k => by
      obtain ⟨q, c2, z, hz, L⟩ := ih (some (.str [c])) y e
      exact ⟨q, c2, z, Nat.le_succ_of_le (Nat.le_trans hz hy), k _ _ L⟩
    cases h1 : Nat.beq c 123 with
    | true =>
      rw [h1] at e
      refine K x.next (Nat.le_refl _) e fun q2 c2 L => ?_
      cases o <;> exact wh_go (k := 20) (h' := sH text (p + 1) X) (A := [.b true, .a, .c (.str [c]) (sH text (p + 1) X), .a, .b true, .a]) (by kernel_rfl) (U3 (beq1 h1) T G) L
    | false =>
      rw [h1] at e
      cases h2 : Nat.beq c 125 with
      | true =>
        rw [h2] at e
        cases dp with
        | zero =>
          cases e
          refine ⟨p + 1, c, x.next, Nat.le_succ _, ?_⟩
          have Z : RWh B0 (d + 3) (acF v 0 (some (.str [c]))) (sH text (p + 1) X) (whL 3 b599).1 (whL 3 b599).2 .next (acF v 0 (some (.str [c]))) (sH text (p + 1) X) := wh_stop (k := 20) (A := [.a]) (C := True) (by kernel_rfl) trivial
          cases o <;> exact wh_go (k := 20) (h' := sH text (p + 1) X) (A := [.b true, .a, .c (.str [c]) (sH text (p + 1) X), .a, .b false, .b true, .c (.int (0 : Nat)) (sH text (p + 1) X)]) (by kernel_rfl) (U5 (b_dec (sH text (p + 1) X) 0) (beq1 h2) (beq1 h1) T G) Z
        | succ dp =>
          refine K x.next (Nat.le_refl _) e fun q2 c2 L => ?_
          cases o <;> exact wh_go (k := 20) (h' := sH text (p + 1) X) (A := [.b true, .a, .c (.str [c]) (sH text (p + 1) X), .a, .b false, .b true, .c (.int (dp + 1 : Nat)) (sH text (p + 1) X)]) (by kernel_rfl) (U5 (b_dec (sH text (p + 1) X) (dp + 1)) (beq1 h2) (beq1 h1) T G) L
      | false =>
        rw [h2] at e
        cases h3 : Nat.beq c 34 with
        | true =>
          rw [h3] at e
          change (match txtS r with | some r => actS f r dp | none => none) = some r' at e
          cases h4 : txtS r with
          | none => rw [h4] at e; cases e
          | some r1 =>
            rw [h4] at e
            obtain ⟨q, y, hy, S⟩ := skip_text_run X d v x.next h4
            refine K y hy e fun q2 c2 L => ?_
            cases o <;> exact wh_go (k := 20) (h' := sH text q X) (A := [.b true, .a, .c (.str [c]) (sH text (p + 1) X), .a, .b false, .b false, .b true, .a, .c .none (sH text q X)]) (by kernel_rfl) (U6 S (beq1 h3) (beq1 h2) (beq1 h1) T G) L
        | false =>
          rw [h3] at e
          refine K x.next (Nat.le_refl _) e fun q2 c2 L => ?_
          cases o <;> exact wh_go (k := 20) (h' := sH text (p + 1) X) (A := [.b true, .a, .c (.str [c]) (sH text (p + 1) X), .a, .b false, .b false, .b false]) (by kernel_rfl) (U5 (beq1 h3) (beq1 h2) (beq1 h1) T G) L
end
end
section
noncomputable def strip1 (w : S) : S := stripA (cut w 1 (w.length - 1))
theorem cut_le (s : S) (p q : Nat) : (cut s p q).length ≤ s.length := by
  unfold cut
  rw [List.length_take, List.length_drop]
  exact Nat.le_trans (Nat.min_le_right ..) (Nat.sub_le ..)
theorem slc_cut (h : Hp) {s : S} {p q : Nat} (hl : s.length < 100000) (hp : p ≤ s.length) (hq : q ≤ s.length) : slcV h (.str s) (some (.int p)) (some (.int q)) = some (.str (cut s p q), h) := by
  show (match short s.length with | true => (match bound s.length 0 (some (.int p)) with | some a => (match bound s.length s.length (some (.int q)) with | some b => some (V.str (cut s a b), h) | none => none) | none => none) | false => none) = _
  rw [short_of_lt hl, bound_nat, bound_nat]
  show some (V.str (cut s (min p s.length) (min q s.length)), h) = _
  rw [Nat.min_eq_left hp, Nat.min_eq_left hq]
theorem slc_tail (h : Hp) {s : S} (hl : s.length < 100000) (h1 : 1 ≤ s.length) : slcV h (.str s) (some (.int 1)) (some (.int ((s.length : Int) - 1))) = some (.str (cut s 1 (s.length - 1)), h) := by
  have := slc_cut h (p := 1) (q := s.length - 1) hl h1 (Nat.sub_le ..)
  rw [Int.natCast_sub h1] at this
  exact this
theorem strip_str (h : Hp) {s : S} (hl : s.length < 100000) : m0 h (.str s) 110 [] = some (.str (stripA s), h) := by
  show (match short s.length with | true => some (V.str (stripA s), h) | false => none) = _
  rw [short_of_lt hl]
theorem cat_str (h : Hp) {a b : S} (hl : a.length + b.length < 100000) : binop h .Add (.str a) (.str b) = some (.str (a ++ b), h) := by
  show (match short (a.length + b.length) with | true => some (V.str (a ++ b), h) | false => none) = _
  rw [short_of_lt hl]
noncomputable def PosAt (X : SS) (pi off ln : Nat) : Prop := ∀ text q, attrOf B0 (sH text q X) (.ref pi) 1 = some (.int off) ∧ attrOf B0 (sH text q X) (.ref pi) 2 = some (.int ln)
noncomputable def tokV (X : SS) (k t : S) (pi : Nat) (w : V) : SS := X.new 129 [(4, .str k), (5, .str t), (6, .ref pi), (7, w)]
section
variable {text : S} (X : SS) (d : Nat) (h4 : 4 ≤ X.R.n) (hn : X.R.n + 2 ≤ 1000000)
include h4 hn
theorem tok4 (q : Nat) (k t : S) (pi : Nat) (w : V) (hw : isN w = false) : RCl B0 (d + 2) 129 [.str k, .str t, .ref pi, w] (sH text q X) (.ref (X.R.n + 1)) (sH text q (tokV X k t pi w)) :=
  sH_new text q h4 hn 129 _ ▸ tok_new4 d (.str k) (.str t) (.ref pi) w (h := sH text q X) hw hn
theorem tok3 (q : Nat) (k t : S) (pi : Nat) : RCl B0 (d + 2) 129 [.str k, .str t, .ref pi] (sH text q X) (.ref (X.R.n + 1)) (sH text q (tokV X k t pi (.str t))) :=
  sH_new text q h4 hn 129 _ ▸ tok_new3 d (.str k) (.str t) (.ref pi) (h := sH text q X) hn
variable {p : Nat} {r r' : S} {pi off ln : Nat} (x : Sf text p r)
include x
theorem named_t {f : Nat} {s : S} (e : skipS f r = some (58 :: r')) (P : PosAt X pi off ln) : ∃ q, Sf text q r' ∧ r'.length ≤ r.length ∧ RCl B0 (d + 3) 578 [.ref 1, .str s, .ref pi] (sH text p X) (.ref (X.R.n + 1)) (sH text q (tokV X [72, 69, 65, 68] s pi (.tup [.str s, .int ln]))) := by
  obtain ⟨q, y, hy, S⟩ := skip_space_run X d x e
  exact ⟨q + 1, y.next, Nat.le_of_succ_le hy, cl_px (fn := ⟨[0, 56, 6], [], [], b578⟩) rfl rfl (k := 20) (A := [.a, .a, .a, .c .none (sH text q X), .a, .a, .c (.bool true) (sH text (q + 1) X), .v (.int ln), .c (.ref (X.R.n + 1)) (sH text (q + 1) (tokV X [72, 69, 65, 68] s pi (.tup [.str s, .int ln])))]) (by kernel_rfl)
    (U4 (tok4 (text := text) X (d) h4 hn (q + 1) [72, 69, 65, 68] s pi (.tup [.str s, .int ln]) rfl) (P text (q + 1)).2 (skip_t X d [58] (by decide) y rfl) S)⟩
theorem named_f {f : Nat} {s : S} (e : skipS f r = some r') (h : preB [58] r' = false) : RCl B0 (d + 3) 578 [.ref 1, .str s, .ref pi] (sH text p X) (.ref (X.R.n + 1)) (sH text p (tokV X [78, 65, 77, 69] s pi (.str s))) := by
  obtain ⟨q, y, hy, S⟩ := skip_space_run X d x e
  exact cl_px (fn := ⟨[0, 56, 6], [], [], b578⟩) rfl rfl (k := 20) (A := [.a, .a, .a, .c .none (sH text q X), .a, .a, .c (.bool false) (sH text q X), .a, .a, .c (.ref (X.R.n + 1)) (sH text p (tokV X [78, 65, 77, 69] s pi (.str s)))]) (by kernel_rfl)
    (U3 (tok3 (text := text) X d h4 hn p [78, 65, 77, 69] s pi) (skip_f X d [58] (by decide) y h) S)
end
end
section
noncomputable def kindsL : List S := [[116, 111, 107, 101, 110], [108, 101, 102, 116], [114, 105, 103, 104, 116], [110, 111, 110, 97, 115, 115, 111, 99], [112, 114, 101, 99, 101, 100, 101, 110, 99, 101], [115, 116, 97, 114, 116], [101, 120, 112, 101, 99, 116]]
theorem c_kinds {s : S} {t : Bool} (h : anyS kindsL s = t) : cmpV sN hN .In (.str s) (.tup (kindsL.map .str)) = some t := congrArg some h
noncomputable def wV (k t : S) (ln : Nat) : V := match seqB k [72, 69, 65, 68] with
  | true => .tup [.str t, .int ln]
  | false => match seqB k [75, 73, 78, 68] with
    | true => .str (t.drop 1)
    | false => match seqB k [65, 67, 84, 73, 79, 78] with
      | true => .str (strip1 t)
      | false => .str t
noncomputable def wordS (r : S) : Option (S × S × S) := match preB [37] r with
  | true => some ([77, 65, 82, 75], [37, 37], r.drop 1)
  | false => match anyS kindsL (r.take (nmLen r)) with
    | true => some ([75, 73, 78, 68], 37 :: r.take (nmLen r), r.drop (nmLen r))
    | false => match seqB (r.take (nmLen r)) [112, 114, 101, 99] with
      | true => some ([80, 82, 69, 67], [37, 112, 114, 101, 99], r.drop (nmLen r))
      | false => match seqB (r.take (nmLen r)) [101, 109, 112, 116, 121] with
        | true => some ([69, 77, 80, 84, 89], [37, 101, 109, 112, 116, 121], r.drop (nmLen r))
        | false => none
theorem nmLen_le (r : S) : nmLen r ≤ r.length := by
  cases r with
  | nil => exact Nat.le_refl _
  | cons c r =>
    show (match hasC nameS c with | true => (match hasC figS c with | true => 0 | false => twLen nameS (c :: r)) | false => 0) ≤ _
    cases hasC nameS c with
    | false => exact Nat.zero_le _
    | true => cases hasC figS c with
      | true => exact Nat.zero_le _
      | false => exact twLen_le _ _
section
variable {text : S} (X : SS) (d : Nat) (h4 : 4 ≤ X.R.n) (hn : X.R.n + 2 ≤ 1000000) {p : Nat} {r r' : S} {pi off ln : Nat}
include h4 hn
theorem action_run {f c : Nat} (x : Sf text p (c :: r)) (e : actS f r 0 = some r') (P : PosAt X pi p ln) : ∃ q, Sf text q r' ∧ r'.length ≤ r.length ∧ p < q ∧ RCl B0 (d + 4) 599 [.ref 1, .ref pi] (sH text p X) (.ref (X.R.n + 1)) (sH text q (tokV X [65, 67, 84, 73, 79, 78] (cut text p q) pi (.str (strip1 (cut text p q))))) := by
  have T := take_c X (d + 1) x
  obtain ⟨q, c2, y, hy, L⟩ := act_loop X d (.ref pi) f none x.next e
  have hq : p < q := by
    have a := x.len
    have b := y.len
    rw [List.length_cons] at a
    lia
  have hl := Nat.lt_of_le_of_lt (cut_le text p q) x.lt
  have h1 : 1 ≤ (cut text p q).length := by
    unfold cut
    rw [List.length_take, List.length_drop]
    exact Nat.le_min.mpr ⟨Nat.sub_pos_of_lt hq, Nat.sub_pos_of_lt x.cons⟩
  refine ⟨q, y, hy, hq, cl_px (fn := ⟨[0, 6], [], [], b599⟩) rfl rfl (k := 20) (A := [.a, .a, .c (.str [c]) (sH text (p + 1) X), .f .next (acF (.ref pi) 0 (some (.str [c2]))) (sH text q X), .a, .v (.int p), .a, .c (.str (cut text p q)) (sH text q X), .a, .c (.str (cut (cut text p q) 1 ((cut text p q).length - 1))) (sH text q X), .a, .c (.str (strip1 (cut text p q))) (sH text q X), .c (.ref (X.R.n + 1)) (sH text q (tokV X [65, 67, 84, 73, 79, 78] (cut text p q) pi (.str (strip1 (cut text p q)))))]) (by kernel_rfl)
    (U8 (tok4 (text := text) X (d + 1) h4 hn q [65, 67, 84, 73, 79, 78] (cut text p q) pi (.str (strip1 (cut text p q))) rfl) (strip_str (sH text q X) (Nat.lt_of_le_of_lt (cut_le (cut text p q) 1 ((cut text p q).length - 1)) hl)) (slc_tail (sH text q X) hl h1) hl (slc_cut (sH text q X) x.lt x.le y.le) (P text q).1 L T)⟩
theorem word_run {c : Nat} {k t : S} (x : Sf text p (c :: r)) (e : wordS r = some (k, t, r')) : ∃ q, Sf text q r' ∧ r'.length ≤ r.length ∧ RCl B0 (d + 3) 613 [.ref 1, .ref pi] (sH text p X) (.ref (X.R.n + 1)) (sH text q (tokV X k t pi (wV k t ln))) := by
  have T := take_c X d x
  have y := x.next
  have N := name_run X d y
  have z := y.drop (nmLen_le r)
  have hz := drop_le (nmLen r) r
  have hs : (r.take (nmLen r)).length + 1 ≤ text.length := by
    have := x.len
    rw [List.length_cons] at this
    rw [List.length_take]
    have := Nat.min_le_right (nmLen r) r.length
    lia
  change (match preB [37] r with | true => some ([77, 65, 82, 75], [37, 37], r.drop 1) | false => (match anyS kindsL (r.take (nmLen r)) with | true => some ([75, 73, 78, 68], 37 :: r.take (nmLen r), r.drop (nmLen r)) | false => (match seqB (r.take (nmLen r)) [112, 114, 101, 99] with | true => some ([80, 82, 69, 67], [37, 112, 114, 101, 99], r.drop (nmLen r)) | false => (match seqB (r.take (nmLen r)) [101, 109, 112, 116, 121] with | true => some ([69, 77, 80, 84, 89], [37, 101, 109, 112, 116, 121], r.drop (nmLen r)) | false => none)))) = some (k, t, r') at e
  cases h1 : preB [37] r with
  | true =>
    rw [h1] at e
    cases e
    exact ⟨p + 1 + 1, y.drop (preB_len h1), drop_le .., cl_px (fn := ⟨[0, 6], [], [], b613⟩) rfl rfl (k := 20) (A := [.a, .a, .c (.str [c]) (sH text (p + 1) X), .a, .c (.bool true) (sH text (p + 1 + 1) X), .c (.ref (X.R.n + 1)) (sH text (p + 1 + 1) (tokV X [77, 65, 82, 75] [37, 37] pi (.str [37, 37])))]) (by kernel_rfl)
      (U3 (tok3 (text := text) X d h4 hn (p + 1 + 1) [77, 65, 82, 75] [37, 37] pi) (skip_t X d [37] (by decide) y h1) T)⟩
  | false =>
    rw [h1] at e
    have K := skip_f X d [37] (by decide) y h1
    generalize nmLen r = j at *
    generalize hu : r.take j = u at *
    cases h2 : anyS kindsL u with
    | true =>
      rw [h2] at e
      cases e
      exact ⟨p + 1 + j, z, hz, cl_px (fn := ⟨[0, 6], [], [], b613⟩) rfl rfl (k := 20) (A := [.a, .a, .c (.str [c]) (sH text (p + 1) X), .a, .c (.bool false) (sH text (p + 1) X), .a, .c (.str u) (sH text (p + 1 + j) X), .b true, .c (.str ([37] ++ u)) (sH text (p + 1 + j) X), .c (.ref (X.R.n + 1)) (sH text (p + 1 + j) (tokV X [75, 73, 78, 68] (37 :: u) pi (.str u)))]) (by kernel_rfl)
        (U6 (tok4 (text := text) X d h4 hn (p + 1 + j) [75, 73, 78, 68] (37 :: u) pi (.str u) rfl) (cat_str (sH text (p + 1 + j) X) (a := [37]) (b := u) (by show 1 + u.length < _; rw [Nat.add_comm]; exact Nat.lt_of_le_of_lt hs x.lt)) (c_kinds h2) N K T)⟩
    | false =>
      rw [h2] at e
      cases h3 : seqB u [112, 114, 101, 99] with
      | true =>
        rw [h3] at e
        cases e
        exact ⟨p + 1 + j, z, hz, cl_px (fn := ⟨[0, 6], [], [], b613⟩) rfl rfl (k := 20) (A := [.a, .a, .c (.str [c]) (sH text (p + 1) X), .a, .c (.bool false) (sH text (p + 1) X), .a, .c (.str u) (sH text (p + 1 + j) X), .b false, .b true, .c (.ref (X.R.n + 1)) (sH text (p + 1 + j) (tokV X [80, 82, 69, 67] [37, 112, 114, 101, 99] pi (.str [37, 112, 114, 101, 99])))]) (by kernel_rfl)
          (U6 (tok3 (text := text) X d h4 hn (p + 1 + j) [80, 82, 69, 67] [37, 112, 114, 101, 99] pi) (c_eq h3) (c_kinds h2) N K T)⟩
      | false =>
        rw [h3] at e
        cases h5 : seqB u [101, 109, 112, 116, 121] with
        | false => rw [h5] at e; cases e
        | true =>
          rw [h5] at e
          cases e
          exact ⟨p + 1 + j, z, hz, cl_px (fn := ⟨[0, 6], [], [], b613⟩) rfl rfl (k := 20) (A := [.a, .a, .c (.str [c]) (sH text (p + 1) X), .a, .c (.bool false) (sH text (p + 1) X), .a, .c (.str u) (sH text (p + 1 + j) X), .b false, .b false, .b true, .c (.ref (X.R.n + 1)) (sH text (p + 1 + j) (tokV X [69, 77, 80, 84, 89] [37, 101, 109, 112, 116, 121] pi (.str [37, 101, 109, 112, 116, 121])))]) (by kernel_rfl)
            (U7 (tok3 (text := text) X d h4 hn (p + 1 + j) [69, 77, 80, 84, 89] [37, 101, 109, 112, 116, 121] pi) (c_eq h5) (c_eq h3) (c_kinds h2) N K T)⟩
end
end
section
theorem Sf.mono {text r r' : S} {p q : Nat} (x : Sf text p r) (y : Sf text q r') (h : r'.length ≤ r.length) : p ≤ q := Nat.le_of_add_le_add_right (Nat.le_trans (Nat.le_of_eq x.len) (Nat.le_trans (Nat.le_of_eq y.len.symm) (Nat.add_le_add_left h q)))
theorem cut_sf {text r r' : S} {p q : Nat} (x : Sf text p r) (y : Sf text q r') (h : p ≤ q) : cut text p q = r.take (r.length - r'.length) := by
  unfold cut
  rw [x.eq]
  congr 1
  have a := x.len
  have b := y.len
  lia
theorem pre1 {c k : Nat} {r : S} {t : Bool} (h : Nat.beq c k = t) : preB [k] (c :: r) = t := by show (match Nat.beq c k with | true => seqB (List.take 0 r) [] | false => false) = t; rw [h]; cases t <;> rfl
theorem pre_cons {c : Nat} {r : S} (h : preB [c] r = true) : r = c :: r.drop 1 := by
  cases r with
  | nil => cases h
  | cons a b => rw [List.head_eq_of_cons_eq (seqB_iff.mp h)]; rfl
theorem obnat {β : Type} {r : β} {n : Nat} {f : Nat → Option β} {y : Option β} {G : Prop} (h : n.rec (motive := fun _ => Option β) y (fun i _ => f i) = some r) (k0 : n = 0 → y = some r → G) (ks : ∀ i, n = i + 1 → f i = some r → G) : G := by
  induction n using Nat.casesOn with
  | zero => exact k0 rfl h
  | succ i => exact ks i rfl h
noncomputable def tokS (f : Nat) (r : S) : Option (S × S × S) := match r with
  | [] => some ([36, 101, 110, 100], [], [])
  | c :: r => match nmLen (c :: r) with
    | i + 1 => match skipS f ((c :: r).drop (i + 1)) with
      | some r1 => match preB [58] r1 with
        | true => some ([72, 69, 65, 68], (c :: r).take (i + 1), r1.drop 1)
        | false => some ([78, 65, 77, 69], (c :: r).take (i + 1), (c :: r).drop (i + 1))
      | none => none
    | 0 => match hasC figS c with
      | true => none
      | false => match Nat.beq c 39 with
        | true => none
        | false => match Nat.beq c 123 with
          | true => match actS f r 0 with
            | some r1 => some ([65, 67, 84, 73, 79, 78], (c :: r).take ((c :: r).length - r1.length), r1)
            | none => none
          | false => match Nat.beq c 37 with
            | true => wordS r
            | false => match Nat.beq c 124 with
              | true => some ([66, 65, 82], [124], r)
              | false => match Nat.beq c 59 with
                | true => some ([83, 69, 77, 73], [59], r)
                | false => none
section
variable {text : S} (X : SS) (d : Nat) (h4 : 4 ≤ X.R.n) (hn : X.R.n + 4 ≤ 1000000)
include h4 hn
theorem attr_new (q : Nat) (c : Nat) (fs : List (Nat × V)) (a : Nat) (hf : isFld B0 c a = true) : attrOf B0 (sH text q (X.new c fs)) (.ref (X.R.n + 1)) a = getL fs a := by
  have h1 : X.R.n < 1000000 := by lia
  have h2 : X.R.n + 1 < 1000000 := by lia
  unfold attrOf
  dsimp only
  rw [sH_get text q (X.new c fs) (i := X.R.n + 1) (Nat.le_succ_of_le h4) h2, show (newH X.R c fs).get (X.R.n + 1) = some (.inst c X.R.n) from get_push (h := X.R.push (.flds fs)) _ h2]
  dsimp only
  rw [hf, sH_get text q (X.new c fs) h4 h1, show (newH X.R c fs).get X.R.n = some (.flds fs) from (get_push_ne (h := X.R.push (.flds fs)) _ h2 (Nat.lt_succ_self _)).trans (get_push _ h1)]
variable {p : Nat} {r rs r1 r2 : S} {k t : S}
noncomputable abbrev SS.tok (X : SS) (rs : S) (q : Nat) (k t : S) : SS := tokV ((X.at rs q).new 46 (posF (X.at rs q))) k t (X.R.n + 1) (wV k t (X.at rs q).l)
noncomputable def TokG (text : S) (X : SS) (d p : Nat) (rs r1 k t r2 : S) : Prop := ∃ q1 q, Sf text q1 r1 ∧ Sf text q r2 ∧ X.s ≤ q1 ∧ q1 ≤ q ∧ RCl B0 (d + 5) 571 [.ref 1] (sH text p X) (.ref (X.R.n + 3)) (sH text q (X.tok rs q1 k t))
theorem token_run {f : Nat} (x : Sf text p r) (xs : Sf text X.s rs) (hs : X.s ≤ p) (e : skipS f r = some r1) (et : tokS f r1 = some (k, t, r2)) : TokG text X d p rs r1 k t r2 := by
  obtain ⟨q1, y, hy, K⟩ := skip_space_run X (d + 2) x e
  have ho : X.s ≤ q1 := Nat.le_trans hs (x.mono y hy)
  have L := place_run (p := q1) (d + 1) xs ho y.le h4 (by lia)
  have P : PosAt ((X.at rs q1).new 46 (posF (X.at rs q1))) (X.R.n + 1) q1 (X.at rs q1).l := fun text q => ⟨attr_new (X.at rs q1) h4 hn q 46 _ 1 rfl, attr_new (X.at rs q1) h4 hn q 46 _ 2 rfl⟩
  have fin : ∀ {k t r2 q} w, Sf text q r2 → q1 ≤ q → w = wV k t (X.at rs q1).l → RCl B0 (d + 5) 571 [.ref 1] (sH text p X) (.ref (X.R.n + 3)) (sH text q (tokV ((X.at rs q1).new 46 (posF (X.at rs q1))) k t (X.R.n + 1) w)) → TokG text X d p rs r1 k t r2 := fun w z hq hw C => ⟨q1, _, y, z, ho, hq, by subst hw; exact C⟩
  have n2 : ((X.at rs q1).new 46 (posF (X.at rs q1))).R.n = X.R.n + 2 := rfl
  generalize (X.at rs q1).new 46 (posF (X.at rs q1)) = X2 at *
  have m4 : 4 ≤ X2.R.n := n2 ▸ Nat.le_add_right_of_le h4
  have mn : X2.R.n + 2 ≤ 1000000 := n2 ▸ hn
  have n3 : X.R.n + 3 = X2.R.n + 1 := by rw [n2]
  rw [n3] at fin
  generalize (X.at rs q1).l = ln at *
  induction r1 using List.casesOn with
  | nil => exact some3 (G := TokG text X d p rs []) et (fin _ y (Nat.le_refl _) rfl (cl_px (fn := ⟨[0], [], [], b571⟩) rfl rfl (k := 20) (A := [.a, .c .none (sH text q1 X), .a, .a, .a, .c (.ref (X.R.n + 1)) (sH text q1 X2), .a, .c (.str []) (sH text q1 X2), .a, .c (.ref (X2.R.n + 1)) (sH text q1 (tokV X2 [36, 101, 110, 100] [] (X.R.n + 1) (.str [])))]) (by kernel_rfl)
      (U4 (tok3 (text := text) X2 (d + 2) m4 mn q1 [36, 101, 110, 100] [] (X.R.n + 1)) (peek_n X2 (d + 3) y) L K)))
  | cons c r =>
    have N := name_run X2 (d + 2) y
    have Pk := peek_c X2 (d + 3) y
    have hnl := nmLen_le (c :: r)
    set_option smartUnfolding false in refine obnat (n := nmLen (c :: r)) et (fun hi et => ?_) fun i hi et => ?_
    · rw [hi] at N
      have N : RCl B0 (d + 4) 213 [.ref 3] (sH text q1 X2) (.str []) (sH text q1 X2) := N
      have z := y.next
      have hz := Nat.le_succ q1
      set_option smartUnfolding false in refine obf (b := hasC figS c) et (fun _ et => nos et) fun f1 et => ?_
      set_option smartUnfolding false in refine obf (b := Nat.beq c 39) et (fun _ et => nos et) fun f2 et => ?_
      set_option smartUnfolding false in refine obf (b := Nat.beq c 123) et (fun f3 et => ?_) fun f3 et => ?_
      · set_option smartUnfolding false in refine ob (o := actS f r 0) et fun r3 h1 et => ?_
        obtain ⟨q, w, hw, hq, M⟩ := action_run X2 d m4 mn y h1 P
        rw [cut_sf y w (Nat.le_of_lt hq)] at M
        exact some3 (G := TokG text X d p rs (c :: r)) et (fin _ w (Nat.le_of_lt hq) rfl (cl_px (fn := ⟨[0], [], [], b571⟩) rfl rfl (k := 20) (A := [.a, .c .none (sH text q1 X), .a, .a, .a, .c (.ref (X.R.n + 1)) (sH text q1 X2), .a, .c (.str [c]) (sH text q1 X2), .a, .a, .c (.str []) (sH text q1 X2), .a, .b false, .b false, .b true, .a, .c (.ref (X2.R.n + 1)) (sH text q (tokV X2 [65, 67, 84, 73, 79, 78] ((c :: r).take ((c :: r).length - r3.length)) (X.R.n + 1) (.str (strip1 ((c :: r).take ((c :: r).length - r3.length))))))]) (by kernel_rfl) (U8 M (beq1 f3) (beq1 f2) (c_in f1) N Pk L K)))
      set_option smartUnfolding false in refine obf (b := Nat.beq c 37) et (fun f4 et => ?_) fun f4 et => ?_
      · obtain ⟨q, w, hw, M⟩ := word_run X2 (d + 1) m4 mn (pi := X.R.n + 1) (ln := ln) y et
        exact fin _ w (y.mono w (Nat.le_succ_of_le hw)) rfl (cl_px (fn := ⟨[0], [], [], b571⟩) rfl rfl (k := 20) (A := [.a, .c .none (sH text q1 X), .a, .a, .a, .c (.ref (X.R.n + 1)) (sH text q1 X2), .a, .c (.str [c]) (sH text q1 X2), .a, .a, .c (.str []) (sH text q1 X2), .a, .b false, .b false, .b false, .b true, .a, .c (.ref (X2.R.n + 1)) (sH text q (tokV X2 k t (X.R.n + 1) (wV k t ln)))]) (by kernel_rfl) (U9 M (beq1 f4) (beq1 f3) (beq1 f2) (c_in f1) N Pk L K))
      set_option smartUnfolding false in refine obf (b := Nat.beq c 124) et (fun f5 et => ?_) fun f5 et => ?_
      · exact some3 (G := TokG text X d p rs (c :: r)) et (fin _ z hz rfl (cl_px (fn := ⟨[0], [], [], b571⟩) rfl rfl (k := 20) (A := [.a, .c .none (sH text q1 X), .a, .a, .a, .c (.ref (X.R.n + 1)) (sH text q1 X2), .a, .c (.str [c]) (sH text q1 X2), .a, .a, .c (.str []) (sH text q1 X2), .a, .b false, .b false, .b false, .b false, .a, .c (.bool true) (sH text (q1 + 1) X2), .c (.ref (X2.R.n + 1)) (sH text (q1 + 1) (tokV X2 [66, 65, 82] [124] (X.R.n + 1) (.str [124])))]) (by kernel_rfl)
          (U10 (tok3 (text := text) X2 (d + 2) m4 mn (q1 + 1) [66, 65, 82] [124] (X.R.n + 1)) (skip_t X2 (d + 2) [124] (by decide) y (pre1 f5)) (beq1 f4) (beq1 f3) (beq1 f2) (c_in f1) N Pk L K)))
      set_option smartUnfolding false in refine obt (b := Nat.beq c 59) et fun f6 et => ?_
      exact some3 (G := TokG text X d p rs (c :: r)) et (fin _ z hz rfl (cl_px (fn := ⟨[0], [], [], b571⟩) rfl rfl (k := 20) (A := [.a, .c .none (sH text q1 X), .a, .a, .a, .c (.ref (X.R.n + 1)) (sH text q1 X2), .a, .c (.str [c]) (sH text q1 X2), .a, .a, .c (.str []) (sH text q1 X2), .a, .b false, .b false, .b false, .b false, .a, .c (.bool false) (sH text q1 X2), .a, .c (.bool true) (sH text (q1 + 1) X2), .c (.ref (X2.R.n + 1)) (sH text (q1 + 1) (tokV X2 [83, 69, 77, 73] [59] (X.R.n + 1) (.str [59])))]) (by kernel_rfl)
        (U11 (tok3 (text := text) X2 (d + 2) m4 mn (q1 + 1) [83, 69, 77, 73] [59] (X.R.n + 1)) (skip_t X2 (d + 2) [59] (by decide) y (pre1 f6)) (skip_f X2 (d + 2) [124] (by decide) y (pre1 f5)) (beq1 f4) (beq1 f3) (beq1 f2) (c_in f1) N Pk L K)))
    · rw [hi] at N hnl
      have z := y.drop hnl
      have hz := y.mono z (drop_le ..)
      set_option smartUnfolding false in refine ob (o := skipS f ((c :: r).drop (i + 1))) et fun r3 h1 et => ?_
      set_option smartUnfolding false in refine obf (b := preB [58] r3) et (fun h2 et => ?_) fun h2 et => ?_
      · obtain ⟨q, w, hw, M⟩ := named_t X2 (d + 1) m4 mn z (s := (c :: r).take (i + 1)) (h1.trans (congrArg some (pre_cons h2))) P
        exact some3 (G := TokG text X d p rs (c :: r)) et (fin _ w (Nat.le_trans hz (z.mono w hw)) rfl (cl_px (fn := ⟨[0], [], [], b571⟩) rfl rfl (k := 20) (A := [.a, .c .none (sH text q1 X), .a, .a, .a, .c (.ref (X.R.n + 1)) (sH text q1 X2), .a, .c (.str [c]) (sH text q1 X2), .a, .a, .c (.str ((c :: r).take (i + 1))) (sH text (q1 + (i + 1)) X2), .a, .a, .c (.ref (X2.R.n + 1)) (sH text q (tokV X2 [72, 69, 65, 68] ((c :: r).take (i + 1)) (X.R.n + 1) (.tup [.str ((c :: r).take (i + 1)), .int ln])))]) (by kernel_rfl) (U5 M N Pk L K)))
      · exact some3 (G := TokG text X d p rs (c :: r)) et (fin _ z hz rfl (cl_px (fn := ⟨[0], [], [], b571⟩) rfl rfl (k := 20) (A := [.a, .c .none (sH text q1 X), .a, .a, .a, .c (.ref (X.R.n + 1)) (sH text q1 X2), .a, .c (.str [c]) (sH text q1 X2), .a, .a, .c (.str ((c :: r).take (i + 1))) (sH text (q1 + (i + 1)) X2), .a, .a, .c (.ref (X2.R.n + 1)) (sH text (q1 + (i + 1)) (tokV X2 [78, 65, 77, 69] ((c :: r).take (i + 1)) (X.R.n + 1) (.str ((c :: r).take (i + 1)))))]) (by kernel_rfl)
          (U5 (named_f X2 (d + 1) m4 mn z (pi := X.R.n + 1) (s := (c :: r).take (i + 1)) h1 h2) N Pk L K)))
end
end
section
noncomputable def frzK : Nat → Hp → V → Option V
  | 0, _, _ => none
  | f + 1, h, v => match v with
    | .ref i => bo (h.get i) fun o => match o with
      | .list vs => bo (mapO (frzK f h) vs) fun us => some (.rol us)
      | .inst c d => bo (h.get d) fun o => match o with
        | .flds fs => bo (mapF (frzK f h) fs) fun us => some (.rin c us)
        | _ => none
      | _ => none
    | .tup vs => bo (mapO (frzK f h) vs) fun us => some (.tup us)
    | .int i => some (.int i)
    | .str s => some (.str s)
    | .none => some .none
    | _ => none
noncomputable def tkV (k t : S) (P w : V) : V := .rin 129 [(4, .str k), (5, .str t), (6, P), (7, w)]
noncomputable def genV (pos : Nat → V) (ln : Nat → Nat) : List (S × S) → List V
  | [] => []
  | z :: r => tkV z.1 z.2 (pos 0) (wV z.1 z.2 (ln 0)) :: genV (fun i => pos (i + 1)) (fun i => ln (i + 1)) r
noncomputable def scanS (f : Nat) : Nat → S → Nat → Option (List (S × S))
  | 0, _, _ => none
  | g + 1, r, m => bo (skipS f r) fun r1 => bo (tokS f r1) fun z => match seqB z.1 [36, 101, 110, 100] with
    | true => some [(z.1, z.2.1)]
    | false => match seqB z.1 [77, 65, 82, 75] with
      | true => match m with
        | 0 => bo (scanS f g z.2.2 1) fun l => some ((z.1, z.2.1) :: l)
        | _ + 1 => none
      | false => bo (scanS f g z.2.2 m) fun l => some ((z.1, z.2.1) :: l)
section
variable {h : Hp} (c : Nat) (fs : List (Nat × V)) (hn : h.n + 2 ≤ 1000000)
include hn
theorem get_n1 : (newH h c fs).get (h.n + 1) = some (.inst c h.n) := get_push (h := h.push (.flds fs)) _ hn
theorem get_n0 : (newH h c fs).get h.n = some (.flds fs) := (get_push_ne (h := h.push (.flds fs)) _ hn (Nat.lt_succ_self _)).trans (get_push _ (Nat.lt_of_succ_lt hn))
theorem get_nl {i : Nat} (hi : i < h.n) : (newH h c fs).get i = h.get i := (get_push_ne (h := h.push (.flds fs)) _ hn (Nat.lt_succ_of_lt hi)).trans (get_push_ne _ (Nat.lt_of_succ_lt hn) hi)
end
theorem mapO_cons {g : V → Option V} {v u : V} {r l : List V} (a : g v = some u) (b : mapO g r = some l) : mapO g (v :: r) = some (u :: l) := by
  show (match g v with | some u => (match mapO g r with | some l => some (u :: l) | none => none) | none => none) = _
  rw [a, b]
theorem mapF_cons {g : V → Option V} {x : Nat} {v u : V} {r l : List (Nat × V)} (a : g v = some u) (b : mapF g r = some l) : mapF g ((x, v) :: r) = some ((x, u) :: l) := by
  show (match g v with | some u => (match mapF g r with | some l => some ((x, u) :: l) | none => none) | none => none) = _
  rw [a, b]
structure TkAt (h : Hp) (m : Nat) (k t : S) (q l : Nat) (z : Int) : Prop where
  a : h.get (m + 3) = some (.inst 129 (m + 2))
  b : h.get (m + 2) = some (.flds [(4, .str k), (5, .str t), (6, .ref (m + 1)), (7, wV k t l)])
  c : h.get (m + 1) = some (.inst 46 m)
  d : h.get m = some (.flds [(1, .int q), (2, .int l), (3, .int z)])
theorem wV_frz (k t : S) (l f : Nat) (h : Hp) : frzK (f + 2) h (wV k t l) = some (wV k t l) := by
  unfold wV
  cases seqB k [72, 69, 65, 68] with
  | true => rfl
  | false =>
    cases seqB k [75, 73, 78, 68] with
    | true => rfl
    | false => cases seqB k [65, 67, 84, 73, 79, 78] <;> rfl
theorem frz_in {f : Nat} {h : Hp} {i c d : Nat} {fs us : List (Nat × V)} (a : h.get i = some (.inst c d)) (b : h.get d = some (.flds fs)) (e : mapF (frzK f h) fs = some us) : frzK (f + 1) h (.ref i) = some (.rin c us) := by
  show bo (h.get i) _ = _
  rw [a]
  show bo (h.get d) _ = _
  rw [b]
  show bo (mapF (frzK f h) fs) _ = _
  rw [e]
  rfl
noncomputable def posV (q l : Nat) (z : Int) : V := .rin 46 [(1, .int q), (2, .int l), (3, .int z)]
section
variable {h : Hp} {m : Nat} {k t : S} {q l : Nat} {z : Int} (x : TkAt h m k t q l z)
include x
theorem TkAt.frz : frzK 6 h (.ref (m + 3)) = some (tkV k t (posV q l z) (wV k t l)) :=
  frz_in x.a x.b (mapF_cons rfl (mapF_cons rfl (mapF_cons (frz_in x.c x.d rfl) (mapF_cons (wV_frz k t l 3 h) rfl))))
theorem TkAt.keep {h' : Hp} (n : m + 4 ≤ h.n) (h5 : 5 ≤ m) (e : ∀ i, 5 ≤ i → i < h.n → h'.get i = h.get i) : TkAt h' m k t q l z :=
  ⟨(e _ (Nat.le_add_right_of_le h5) n).trans x.a, (e _ (Nat.le_add_right_of_le h5) (Nat.lt_of_succ_lt n)).trans x.b, (e _ (Nat.le_add_right_of_le h5) (Nat.lt_of_succ_lt (Nat.lt_of_succ_lt n))).trans x.c, (e _ h5 (Nat.lt_of_lt_of_le (Nat.lt_add_of_pos_right (by decide)) n)).trans x.d⟩
end
theorem sH_set (text : S) (p : Nat) (X : SS) {i : Nat} (h4 : 4 ≤ i) (hi : i < 1000000) (o : O) : (sH text p X).set i o = sH text p ⟨X.s, X.l, X.b, X.R.set i o⟩ := by
  have k : ∀ (R : Hp) {j : Nat} (u : O), j < 4 → (R.set j u).set i o = (R.set i o).set j u := fun R j u hj => set_comm hi (Nat.lt_trans hj (by decide)) (Nat.ne_of_gt (Nat.lt_of_lt_of_le hj h4))
  unfold sH
  rw [k _ _ (by decide), k _ _ (by decide), k _ _ (by decide), k _ _ (by decide)]
noncomputable abbrev scF (text : S) (m : Nat) (o : Option V) : Fm := ⟨(5, .str text) :: (112, .ref 1) :: (62, .ref 4) :: (39, .int m) :: tl 72 o, []⟩
noncomputable abbrev SS.lay (X : SS) (vs : List V) : SS := ⟨X.s, X.l, X.b, X.R.set 4 (.list vs)⟩
noncomputable def ScG (text : S) (d p m : Nat) (X : SS) (o : Option V) (vs : List V) (l : List (S × S)) : Prop := ∃ fm h' us pos ln, RWh B0 (d + 5) (scF text m o) (sH text p X) (whL 3 b627).1 (whL 3 b627).2 (.ret (.ref 4)) fm h' ∧ h'.get 4 = some (.list (vs ++ us)) ∧ (∀ i, 5 ≤ i → i < X.R.n → h'.get i = X.R.get i) ∧ mapO (frzK 6 h') us = some (genV pos ln l)
theorem ScG.next {text : S} {d p m q m' : Nat} {X Y : SS} {o o' : Option V} {vs : List V} {l : List (S × S)} {i : Nat} {k t : S} {q1 ln : Nat} {z : Int} (T : TkAt Y.R i k t q1 ln z) (n : i + 4 = Y.R.n) (h5 : 5 ≤ i) (hn : X.R.n = i) (K : ∀ j, 5 ≤ j → j < X.R.n → Y.R.get j = X.R.get j) (G : ScG text d q m' Y o' (vs ++ [.ref (i + 3)]) l)
    (w : ∀ {fl fm h}, RWh B0 (d + 5) (scF text m' o') (sH text q Y) (whL 3 b627).1 (whL 3 b627).2 fl fm h → RWh B0 (d + 5) (scF text m o) (sH text p X) (whL 3 b627).1 (whL 3 b627).2 fl fm h) : ScG text d p m X o vs ((k, t) :: l) := by
  obtain ⟨fm, h', us, pos, lf, R, g, K2, F⟩ := G
  refine ⟨fm, h', .ref (i + 3) :: us, fun j => match j with | 0 => posV q1 ln z | j + 1 => pos j, fun j => match j with | 0 => ln | j + 1 => lf j, w R, ?_, fun j a b => (K2 j a (n ▸ Nat.lt_of_lt_of_le b (hn ▸ Nat.le_add_right i 4))).trans (K j a b), mapO_cons (T.keep (Nat.le_of_eq n) h5 K2).frz F⟩
  rw [g, List.append_assoc]
  rfl
section
variable {text : S} (d f : Nat)
theorem scan_loop : ∀ (g : Nat) {r rs : S} {p m : Nat} {X : SS} {l : List (S × S)} {vs : List V} (o : Option V), Sf text p r → Sf text X.s rs → X.s ≤ p → 5 ≤ X.R.n → X.R.n + 4 * g ≤ 900000 → vs.length + g ≤ 90000 → X.R.get 4 = some (.list vs) → scanS f g r m = some l → ScG text d p m X o vs l
  | 0, _, _, _, _, _, _, _, _, _, _, _, _, _, _, _, e => nos e
  | g + 1, r, rs, p, m, X, l, vs, o, x, xs, hs, h5, hn, hv, h4, e => bo_e e fun r1 e1 e => bo_e e fun z e2 e => by
    obtain ⟨k, t, r2⟩ := z
    obtain ⟨q1, q, y, w, ho, hq, C⟩ := token_run X d (Nat.le_of_succ_le h5) (by lia) x xs hs e1 e2
    have n1 : X.R.n + 2 ≤ 1000000 := by lia
    have n2 : X.R.n + 4 ≤ 1000000 := by lia
    have hY : (X.tok rs q1 k t).R = newH (newH X.R 46 (posF (X.at rs q1))) 129 [(4, .str k), (5, .str t), (6, .ref (X.R.n + 1)), (7, wV k t (X.at rs q1).l)] := rfl
    have hs2 : (X.tok rs q1 k t).s = q1 := rfl
    have T : TkAt (X.tok rs q1 k t).R X.R.n k t (X.at rs q1).s (X.at rs q1).l (((X.at rs q1).s : Int) - (X.at rs q1).b + 1) := ⟨get_n1 (h := newH X.R 46 _) _ _ n2, get_n0 (h := newH X.R 46 _) _ _ n2, (get_nl (h := newH X.R 46 _) _ _ n2 (Nat.lt_succ_self _)).trans (get_n1 _ _ n1), (get_nl (h := newH X.R 46 _) _ _ n2 (Nat.lt_succ_of_lt (Nat.lt_succ_self _))).trans (get_n0 _ _ n1)⟩
    have K : ∀ j, j < X.R.n → (X.tok rs q1 k t).R.get j = X.R.get j := fun j a => (get_nl (h := newH X.R 46 _) _ _ n2 (Nat.lt_add_right 2 a)).trans (get_nl _ _ n1 a)
    have hm : (X.tok rs q1 k t).R.n = X.R.n + 4 := rfl
    generalize X.tok rs q1 k t = Y at *
    generalize (X.at rs q1).s = s1 at *
    generalize (X.at rs q1).l = l1 at *
    generalize (s1 : Int) - (X.at rs q1).b + 1 = z1 at *
    have g4 := (K 4 h5).trans h4
    have S4 : ∀ j, 5 ≤ j → j < Y.R.n → (Y.lay (vs ++ [.ref (X.R.n + 3)])).R.get j = Y.R.get j := fun j a b => Hp.get_ne (h := Y.R) _ (by decide) (Nat.lt_of_lt_of_le b (hm ▸ n2)) (Nat.ne_of_lt a)
    have T2 := T.keep (Nat.le_of_eq hm.symm) h5 S4
    have M : methOf B0 (sH text q Y) (.ref 4) 38 = some none := by
      show (match (sH text q Y).get 4 with | some o => _ | none => _) = _
      rw [sH_get text q Y (Nat.le_refl 4) (by decide), g4]
    have L : m0 (sH text q Y) (.ref 4) 38 [.ref (X.R.n + 3)] = some (.none, sH text q (Y.lay (vs ++ [.ref (X.R.n + 3)]))) := by
      unfold m0
      dsimp only
      rw [sH_get text q Y (Nat.le_refl 4) (by decide), g4]
      show (match short vs.length with | true => some (V.none, (sH text q Y).set 4 (O.list (vs ++ [V.ref (X.R.n + 3)]))) | false => none) = _
      rw [short_of_lt (by lia), sH_set text q Y (Nat.le_refl 4) (by decide)]
    have A : attrOf B0 (sH text q (Y.lay (vs ++ [.ref (X.R.n + 3)]))) (.ref (X.R.n + 3)) 4 = some (.str k) := by
      unfold attrOf
      dsimp only
      rw [sH_get text q _ (by lia) n2, T2.a]
      dsimp only
      rw [sH_get text q _ (by lia) (Nat.lt_of_succ_lt n2), T2.b]
      rfl
    have hl : (vs ++ [V.ref (X.R.n + 3)]).length + g ≤ 90000 := by rw [List.length_append]; exact Nat.le_trans (Nat.le_of_eq (Nat.add_right_comm vs.length 1 g)) hv
    have n4 : (Y.lay (vs ++ [V.ref (X.R.n + 3)])).R.n = X.R.n + 4 := hm
    have g5 : (Y.lay (vs ++ [V.ref (X.R.n + 3)])).R.get 4 = some (.list (vs ++ [V.ref (X.R.n + 3)])) := Hp.get_same Y.R 4 _
    have K5 : ∀ j, 5 ≤ j → j < X.R.n → (Y.lay (vs ++ [V.ref (X.R.n + 3)])).R.get j = X.R.get j := fun j a b => (S4 j a (hm ▸ Nat.lt_add_right 4 b)).trans (K j b)
    have KS : ∀ j, 5 ≤ j → j < X.R.n + 4 → (sH text q (Y.lay (vs ++ [V.ref (X.R.n + 3)]))).get j = (Y.lay (vs ++ [V.ref (X.R.n + 3)])).R.get j := fun j a b => sH_get text q _ (Nat.le_of_succ_le a) (Nat.lt_of_lt_of_le b n2)
    have IH : ∀ m {l}, scanS f g r2 m = some l → ScG text d q m (Y.lay (vs ++ [V.ref (X.R.n + 3)])) (some (.ref (X.R.n + 3))) (vs ++ [V.ref (X.R.n + 3)]) l := fun m l e => scan_loop g _ w (hs2 ▸ y) (hs2 ▸ hq) (n4 ▸ Nat.le_add_right_of_le h5) (n4 ▸ by lia) hl g5 e
    set_option smartUnfolding false in refine obf (b := seqB k [36, 101, 110, 100]) e (fun b1 e => ?_) fun b1 e => ?_
    · cases e
      exact ⟨_, sH text q (Y.lay (vs ++ [V.ref (X.R.n + 3)])), [.ref (X.R.n + 3)], fun _ => posV s1 l1 z1, fun _ => l1, (by cases o <;> exact wh_ret (k := 20) (fm' := scF text m (some (.ref (X.R.n + 3)))) (A := [.a, .c (.ref (X.R.n + 3)) (sH text q Y), .m none, .c .none (sH text q (Y.lay (vs ++ [V.ref (X.R.n + 3)]))), .v (.str k), .b true]) (by kernel_rfl) (U5 (c_eq b1) A L M C)), (sH_get text q _ (Nat.le_refl 4) (by decide)).trans g5, fun j a b => (KS j a (Nat.lt_add_right 4 b)).trans (K5 j a b), mapO_cons (T2.keep (Nat.le_of_eq n4.symm) h5 fun j a b => KS j a (n4 ▸ b)).frz rfl⟩
    set_option smartUnfolding false in refine obf (b := seqB k [77, 65, 82, 75]) e (fun b2 e => ?_) fun b2 e => ?_
    · set_option smartUnfolding false in refine obnat (n := m) e (fun m0 e => ?_) fun i _ e => nos e
      exact bo_e e fun l2 e2 e => by
        cases e
        cases m0
        exact ScG.next T2 hm.symm h5 rfl K5 (IH 1 e2) fun R => (by cases o <;> exact wh_go (k := 20) (A := [.a, .c (.ref (X.R.n + 3)) (sH text q Y), .m none, .c .none (sH text q (Y.lay (vs ++ [V.ref (X.R.n + 3)]))), .v (.str k), .b false, .v (.str k), .b true, .a, .a]) (by kernel_rfl) (U7 (c_eq b2) A (c_eq b1) A L M C) R)
    · exact bo_e e fun l2 e2 e => by
        cases e
        exact ScG.next T2 hm.symm h5 rfl K5 (IH m e2) fun R => (by cases o <;> exact wh_go (k := 20) (A := [.a, .c (.ref (X.R.n + 3)) (sH text q Y), .m none, .c .none (sH text q (Y.lay (vs ++ [V.ref (X.R.n + 3)]))), .v (.str k), .b false, .v (.str k), .b false]) (by kernel_rfl) (U7 (c_eq b2) A (c_eq b1) A L M C) R)
end
end
section
noncomputable abbrev curF (v : V) : Fm := ⟨[(5, v), (0, .ref 3)], []⟩
theorem cur_new (d : Nat) (v : V) {h : Hp} (hh : h = newH hN 616 []) : RCl B0 (d + 2) 258 [v] h (.ref 3) (newH h 258 [(5, v), (6, .int 0)]) := by
  subst hh
  exact cls_new (h := newH hN 616 []) (by decide) rfl rfl rfl (cl_px (fn := ⟨[0, 5, 6], [], [.int 0], b148⟩) rfl rfl (k := 20) (A := [.a, .a]) (by kernel_rfl) trivial)
noncomputable def R0 : Hp := ⟨4, .nil⟩
theorem scn_new (d : Nat) (text : S) : RCl B0 (d + 4) 616 [.str text] hN (.ref 1) (sH text 0 ⟨0, 1, 0, R0⟩) :=
  cls_new (h := hN) (by decide) rfl rfl rfl (cl_px (fn := ⟨[0, 5], [], [], b550⟩) rfl rfl (k := 20) (A := [.c (.ref 3) (newH (newH hN 616 []) 258 [(5, .str text), (6, .int 0)]), .a, .a, .a, .a]) (by kernel_rfl) (U1 (cur_new d (.str text) rfl)))
noncomputable def R1 : Hp := R0.push (.list [])
theorem scan_run (d f g : Nat) {text : S} {l : List (S × S)} (hl : text.length < 99990) (hg : g ≤ 80000) (e : scanS f g text 0 = some l) : ∃ h' pos ln, RCl B0 (d + 6) 627 [.str text] hN (.ref 4) h' ∧ frzK 7 h' (.ref 4) = some (.rol (genV pos ln l)) := by
  obtain ⟨fm, h', us, pos, ln, R, g4, _, F⟩ := scan_loop d f g (X := ⟨0, 1, 0, R1⟩) (vs := []) none ⟨hl, Nat.zero_le _, rfl⟩ ⟨hl, Nat.zero_le _, rfl⟩ (Nat.zero_le _) (by decide) (show 5 + 4 * g ≤ 900000 by lia) (show 0 + g ≤ 90000 by lia) rfl e
  refine ⟨h', pos, ln, cl_px (fn := ⟨[5], [], [], b627⟩) rfl rfl (k := 20) (A := [.c (.ref 1) (sH text 0 ⟨0, 1, 0, R0⟩), .a, .f (.ret (.ref 4)) fm h']) (by kernel_rfl) (U2 R (scn_new (d + 1) text)), ?_⟩
  show bo (h'.get 4) _ = _
  rw [g4]
  show bo (mapO (frzK 6 h') us) _ = _
  rw [F]
  rfl
end
section
theorem Al.get {P : Nat → Prop} (x : Al P) : ∃ n, P n := x.imp fun n h => h n (Nat.le_refl n)
noncomputable def own (R : List Addr) (ρ : Nat → Addr) (n : Nat) : List Addr := R ++ (List.range n).map ρ
theorem own_mem {R : List Addr} {ρ : Nat → Addr} {n : Nat} {a : Addr} : a ∈ own R ρ n ↔ a ∈ R ∨ ∃ i, i < n ∧ ρ i = a :=
  ⟨fun h => (List.mem_append.mp h).imp_right fun h => (List.mem_map.mp h).imp fun i z => ⟨List.mem_range.mp z.1, z.2⟩, fun h => List.mem_append.mpr (h.imp_right fun ⟨i, hi, z⟩ => List.mem_map.mpr ⟨i, List.mem_range.mpr hi, z⟩)⟩
theorem off_own {R : List Addr} {ρ ρ' : Nat → Addr} {n n' : Nat} {a : Addr} (h : Off (own R ρ n) ρ' n' a) : Off R ρ n a :=
  ⟨fun i hi z => h.2 (own_mem.mpr (.inr ⟨i, hi, z⟩)), fun z => h.2 (own_mem.mpr (.inl z))⟩
theorem own_off {R : List Addr} {ρ ρ' : Nat → Addr} {n : Nat} {a : Addr} (h : Off R ρ n a) : Off (own R ρ n) ρ' 0 a :=
  ⟨fun i hi => absurd hi (Nat.not_lt_zero i), fun z => (own_mem.mp z).elim h.2 fun ⟨i, hi, z⟩ => h.1 i hi z⟩
section
variable {prog : Program} {w : World} {h₀ g h' : Heap} {R : List Addr} {ρ ρ' : Nat → Addr} {n : Nat} {hp' : Hp}
theorem new_off (hl : ∀ i, i < n → (g.get? (ρ i)).isSome = true) (hR : ∀ a, a ∈ R → (g.get? a).isSome = true) (G : Grow [] (fun _ => 0) 0 g ρ' hp'.n h') {i : Nat} (hi : i < hp'.n) : Off R ρ n (ρ' i) := by
  have z := G.new i (Nat.zero_le _) hi
  refine ⟨fun j hj q => ?_, fun q => ?_⟩
  · have := hl j hj; rw [q, z] at this; cases this
  · have := hR _ q; rw [z] at this; cases this
variable {R' : List Addr} {ρ'' : Nat → Addr} {n'' : Nat} {k : V → Option V} (H : ∀ {v u : V} {cv : Value}, k v = some u → VRel R' ρ' n'' h' v cv → VRel R ρ n h' u cv)
include H
theorem mapO_rel : ∀ {vs us : List V} {cvs : List Value}, mapO k vs = some us → VRels R' ρ' n'' h' vs cvs → VRels R ρ n h' us cvs
  | [], us, cvs, e, r => Option.some.inj e ▸ r.inv (P := fun c => VRels R ρ n h' [] c) .nil
  | v :: vs, us, cvs, e, r => r.inv (P := fun c => VRels R ρ n h' us c) fun cv cvs x r => by
    set_option smartUnfolding false in refine ob e fun u h1 e => ?_
    set_option smartUnfolding false in refine ob (o := mapO k vs) e fun l h2 e => ?_
    exact Option.some.inj e ▸ .cons (H h1 x) (mapO_rel h2 r)
theorem mapF_rel : ∀ {vs us : List (Nat × V)} {es : List DictEntry}, mapF k vs = some us → DRel R' ρ' n'' h' vs es → DRel R ρ n h' us es
  | [], us, cvs, e, r => Option.some.inj e ▸ r.inv (P := fun c => DRel R ρ n h' [] c) .nil
  | (x, v) :: vs, us, cvs, e, r => r.inv (P := fun c => DRel R ρ n h' us c) fun cv es hs t hx y r => by
    set_option smartUnfolding false in refine ob e fun u h1 e => ?_
    set_option smartUnfolding false in refine ob (o := mapF k vs) e fun l h2 e => ?_
    exact Option.some.inj e ▸ .cons hx (H h1 y) (mapF_rel h2 r)
end
section
variable {prog : Program} {w : World} {h₀ g h' : Heap} {R : List Addr} {ρ ρ' : Nat → Addr} {n : Nat} {hp' : Hp}
theorem frzK_rel (P : Rep prog w h₀ (own R ρ n) ρ' hp' h') (G : Grow [] (fun _ => 0) 0 g ρ' hp'.n h') (hl : ∀ i, i < n → (g.get? (ρ i)).isSome = true) (hR : ∀ a, a ∈ R → (g.get? a).isSome = true) : ∀ (f : Nat) {v u : V} {cv : Value}, frzK f hp' v = some u → VRel (own R ρ n) ρ' hp'.n h' v cv → VRel R ρ n h' u cv
  | 0, _, _, _, e, _ => nos e
  | f + 1, v, u, cv, e, r => by
    have I := fun {v u cv} => frzK_rel P G hl hR f (v := v) (u := u) (cv := cv)
    refine r.inv (P := fun cv => VRel R ρ n h' u cv) ?_
    induction v using V.casesOn with
    | none => exact Option.some.inj e ▸ .none
    | int i => exact fun t => Option.some.inj e ▸ .int _ _
    | str s => exact fun t => Option.some.inj e ▸ .str _ _
    | tup vs => exact bo_e e fun us hu e => Option.some.inj e ▸ fun _ _ _ _ ho hc hd off rr => .tup ho hc hd (off_own off) (mapO_rel I hu rr)
    | ref i =>
      refine fun hi => bo_e e fun o hg e => ?_
      have z := P.at hi hg
      induction o using O.casesOn with
      | list vs =>
        exact bo_e e fun us hu e => Option.some.inj e ▸ (by
          obtain ⟨co, ho, cvs, k, rfl, r⟩ := z
          exact .rol ho rfl rfl (new_off hl hR G hi) (mapO_rel I hu r))
      | inst c d =>
        refine bo_e e fun o hd e => ?_
        obtain ⟨co, ho, hdn, rfl⟩ := z
        have z := P.at hdn hd
        induction o using O.casesOn with
        | flds fs =>
          exact bo_e e fun us hu e => Option.some.inj e ▸ (by
            obtain ⟨co2, ho2, es, k, rfl, r⟩ := z
            exact .rin ho ho2 (new_off hl hR G hi) (new_off hl hR G hdn) (mapF_rel I hu r))
        | _ => exact nos e
      | _ => exact nos e
    | _ => exact nos e
end
section
variable {prog : Program} {w : World} {K : Frag} {h₀ h : Heap} {mg mb : Str → Option Value} {o o' : Nat → Nat → List V → Hp → Option (V × Hp)} {r r' : Nat → Nat → Fm → Hp → Option (Fl × Fm × Hp)}
theorem Wd.keeps (W : Wd prog w K h₀ mg mb (tb o r)) (hk : ∀ b o, h₀.get? b = some o → h.get? b = some o) : Wd prog w K h mg mb (tb o' r') where
  X := fun a o e => hk _ _ (W.X a o e)
  g := W.g.keeps hk
  b := W.b.keeps hk
  lim := W.lim.keeps hk
  nodigits := W.nodigits.imp fun mc h => ⟨h.1.keeps hk, h.2⟩
  fn := W.fn
  cls := W.cls
  glob := fun x v e => by
    obtain ⟨a, b⟩ := W.glob x v e
    refine ⟨a, b.imp (fun ⟨cv, q, f⟩ => ⟨cv, q, fun R ρ n h' h1 h2 h3 => f R ρ n h' (fun b o e => h1 b o (hk b o e)) (fun i hi => ?_) (fun c hc => ?_)⟩) id⟩
    · cases z : h₀.get? (ρ i) with
      | none => rfl
      | some oo => have := hk _ _ z; rw [h2 i hi] at this; cases this
    · cases z : h₀.get? c with
      | none => rfl
      | some oo => have := hk _ _ z; rw [h3 c hc] at this; cases this
  sd := W.sd
  fld := W.fld
end
noncomputable def Good (prog : Program) (K : World → Frag) (o : Nat → Nat → List V → Hp → Option (V × Hp)) : Prop :=
  ∀ (w : World) (h : Heap) (mg mb : Str → Option Value), Wd prog w (K w) h mg mb (tb o rawN) → OrcOk prog w h (tb o rawN) ∧ RawOk prog w h (tb o rawN)
theorem Room.le {A : Around} {d d' : Nat} (rm : Room A d) (h : d' ≤ d) : Room A d' := ⟨by have := rm.depth; lia, by have := rm.units; lia, rm.handled⟩
section
variable {prog : Program} {K : World → Frag} {w : World} {h₀ : Heap} {mg mb : Str → Option Value} {o o' : Nat → Nat → List V → Hp → Option (V × Hp)} {r : Nat → Nat → Fm → Hp → Option (Fl × Fm × Hp)}
section
variable (W : Wd prog w (K w) h₀ mg mb (tb o r)) (g : Good prog K o') {d d' f q : Nat} {args : List V} {v u : V} {hp hp' : Hp} (hd : d' ≤ d) (e : ∃ n, (run (tb o' rawN) n).cl d' f args hN = some (v, hp')) {A : Around} {R : List Addr} {ρ : Nat → Addr} {s : Shared} {cargs : List Value} {Rr : Result → Shared → Prop}
    (rm : Room A d) (rv : Resv h₀ R s.heap) (P : Rep prog w h₀ R ρ hp s.heap) (k : KV prog w h₀ R ρ hp s u hp (fun cv s' => Rr (.ok (.ret cv)) s'))
include W g hd e rm P k
theorem restart0 {R' : List Addr} (rv' : Resv h₀ R' s.heap) (ra : VRels R' (fun _ => 0) 0 s.heap args cargs) (hv : ∀ ρ' h' cv, Rep prog w h₀ R' ρ' hp' h' → Grow [] (fun _ => 0) 0 s.heap ρ' hp'.n h' → VRel R' ρ' hp'.n h' v cv → VRel R ρ hp.n h' u cv) : codeAny (model prog w) A (.call (.ref f) ⟨cargs, []⟩) Rr s := by
  have W' : Wd prog w (K w) h₀ mg mb (tb o' rawN) := W.keeps (fun _ _ e => e)
  obtain ⟨n, e⟩ := e
  refine (snd_all W' (g w h₀ mg mb W').1 (g w h₀ mg mb W').2 n).cl e (ρ := fun _ => 0) (rm.le hd) rv' ⟨P.keep, fun i hi => absurd hi (Nat.not_lt_zero i), fun i j hi => absurd hi (Nat.not_lt_zero i), fun i hi => absurd hi (Nat.not_lt_zero i), Nat.zero_le _⟩ ra ?_
  intro ρ' h' t' cv P' G' x
  obtain ⟨P2, G2⟩ := P.keeps [] fun b o e => G'.keep b o e (fun x => nomatch x) (fun i hi => absurd hi (Nat.not_lt_zero i))
  exact k _ _ _ _ P2 G2 (hv _ _ _ P' G' x)
include rv
theorem restart (hf : frzK q hp' v = some u) (ra : VRels (own R ρ hp.n) (fun _ => 0) 0 s.heap args cargs) : codeAny (model prog w) A (.call (.ref f) ⟨cargs, []⟩) Rr s := by
  have hl : ∀ i, i < hp.n → (s.heap.get? (ρ i)).isSome = true := fun i hi => by obtain ⟨_, co, _, h2, _⟩ := P.obj i hi; rw [h2]; rfl
  exact restart0 W g hd e rm P k ⟨fun a ha => (own_mem.mp ha).elim (rv.base a) (fun ⟨i, hi, z⟩ => z ▸ P.off i hi), fun a ha => (own_mem.mp ha).elim (rv.live a) (fun ⟨i, hi, z⟩ => z ▸ hl i hi)⟩ ra fun _ _ _ P' G' x => frzK_rel P' G' hl rv.live q hf x
end
end
theorem good0 (prog : Program) (K : World → Frag) : Good prog K orc0 := fun w h mg mb W => ⟨(fun e => nos e), (fun e => nos e)⟩
end
section
theorem small_of {i : Int} (h1 : 0 ≤ i) (h2 : i < 1000000000000) : small i = true := by
  obtain ⟨n, rfl⟩ := Int.eq_ofNat_of_zero_le h1
  exact Nat.blt_eq.mpr (Int.ofNat_lt.mp h2)
section
variable (h : Hp) {a b : Int}
theorem bin_mul (ha : small a = true) (hb : small b = true) : binop h .Mult (.int a) (.int b) = some (.int (a * b), h) := by
  show (match small a && small b with | true => some (V.int (a * b), h) | false => none) = _
  rw [ha, hb]
  rfl
theorem bin_fdiv (h0 : 0 < b) (ha : small a = true) (hb : small b = true) : binop h .FloorDiv (.int a) (.int b) = some (.int (Int.fdiv a b), h) := by
  show (match decide (0 < b) && small a && small b with | true => some (V.int (Int.fdiv a b), h) | false => none) = _
  rw [decide_eq_true h0, ha, hb]
  rfl
theorem bin_mod (h0 : 0 < b) : binop h .Mod (.int a) (.int b) = some (.int (Int.fmod a b), h) := by
  show (match decide (0 < b) with | true => some (V.int (Int.fmod a b), h) | false => none) = _
  rw [decide_eq_true h0]
end
theorem place_nat {n j : Nat} (hj : j < n) (hl : n < 100000) : place n (j : Int) = some j := by
  show (match Nat.blt j n && short j with | true => some j | false => none) = _
  rw [Nat.blt_eq.mpr hj, short_of_lt (Nat.lt_trans hj hl)]
  rfl
theorem sub_seq {B : Tb} {h : Hp} {v u : V} {vs : List V} {j : Nat} (hi : itemsOf h v = some vs) (hl : vs.length < 100000) (hu : nth vs j = some u) (hj : j < vs.length) : subOf B h v (.int (j : Int)) = some u := by
  show (match itemsOf h v with | some vs => (match place vs.length (j : Int) with | some j => nth vs j | none => none) | none => _) = _
  rw [hi]
  dsimp only
  rw [place_nat hj hl]
  exact hu
theorem nth_mem : ∀ {vs : List V} {j : Nat}, j < vs.length → ∃ u, u ∈ vs ∧ nth vs j = some u
  | [], _, h => absurd h (Nat.not_lt_zero _)
  | v :: r, 0, _ => ⟨v, .head _, rfl⟩
  | v :: r, j + 1, h => (nth_mem (vs := r) (Nat.lt_of_succ_lt_succ h)).imp fun u z => ⟨.tail _ z.1, z.2⟩
theorem nth_ints : ∀ {xs : List Int} {j : Nat}, j < xs.length → nth (xs.map .int) j = some (.int (xs.getD j 0)) ∧ xs.getD j 0 ∈ xs
  | [], _, h => absurd h (Nat.not_lt_zero _)
  | v :: r, 0, _ => ⟨rfl, .head _⟩
  | v :: r, j + 1, h => (nth_ints (xs := r) (Nat.lt_of_succ_lt_succ h)).imp id (.tail _)
theorem pick_run {r : Row} (ok : RowOk r) {a m v : Int} (e : r.tab a m = some v) (h : Hp) (d : Nat) : RCl B0 (d + 1) 825 [.row r, .int a, .int m] h (.int v) h := by
  obtain ⟨h0, h1, h2, h3⟩ := ok
  obtain ⟨a0, a1, m0, m1, hv⟩ := h3 a m v e
  have n0 : (0 : Int) < r.xs.length := Int.ofNat_lt.mpr h0
  have n1 : (r.xs.length : Int) ≤ 30 := Int.ofNat_le.mpr h1
  have t0 : 0 ≤ Int.fdiv a r.xs.length := Int.fdiv_nonneg a0 (Int.le_of_lt n0)
  have t1 : Int.fdiv a r.xs.length ≤ a := by
    rw [Int.fdiv_eq_ediv_of_nonneg _ (Int.le_of_lt n0)]
    exact Int.ediv_le_self _ a0
  have j1 : Int.fmod a r.xs.length < r.xs.length := Int.fmod_lt_of_pos _ n0
  obtain ⟨j, hj⟩ := Int.eq_ofNat_of_zero_le (Int.fmod_nonneg_of_pos a n0)
  have hjl : j < r.xs.length := Int.ofNat_lt.mp (hj ▸ j1)
  obtain ⟨hx, hm⟩ := nth_ints hjl
  obtain ⟨x0, x1⟩ := h2 _ hm
  have hl : (r.xs.map V.int).length = r.xs.length := List.length_map ..
  have hs : (r.xs.map V.int).length < 100000 := hl ▸ Nat.lt_of_le_of_lt h1 (by decide)
  have L : callB h 0 [.row r] = some (.int r.xs.length, h) := by
    show (match short (r.xs.map V.int).length with | true => some (V.int (r.xs.map V.int).length, h) | false => none) = _
    rw [short_of_lt hs, hl]
  have M : binop h .Mod (.int a) (.int r.xs.length) = some (.int (j : Int), h) := hj ▸ bin_mod h n0
  have hv' : v = Int.fmod (Int.fdiv (r.xs.getD j 0) (1 + Int.fdiv a r.xs.length) + 5 * Int.fdiv a r.xs.length) m := by
    rw [hv]
    unfold pickI
    rw [hj]
    rfl
  have p0 := n0
  have sn := small_of (Int.le_of_lt n0) (Int.lt_of_le_of_lt n1 (by decide))
  have t2 := Int.lt_of_le_of_lt t1 a1
  rw [hv']
  generalize r.xs.getD j 0 = x at *
  generalize (r.xs.length : Int) = n at *
  have F := bin_fdiv h (a := x) (b := 1 + Int.fdiv a n) (Int.lt_of_lt_of_le (by decide) (Int.add_le_add_left t0 1)) (small_of x0 (Int.lt_trans x1 (by decide))) (small_of (Int.le_trans (by decide) (Int.add_le_add_left t0 1)) (Int.lt_trans (Int.add_lt_add_left t2 1) (by decide)))
  have S := sub_seq (B := B0) (h := h) (v := .row r) rfl hs hx (hl.symm ▸ hjl)
  have G := bin_mul h (a := 5) (b := Int.fdiv a n) rfl (small_of t0 (Int.lt_trans t2 (by decide)))
  have D := bin_fdiv h n0 (small_of a0 (Int.lt_trans a1 (by decide))) sn
  have E := bin_mod h (a := Int.fdiv x (1 + Int.fdiv a n) + 5 * Int.fdiv a n) m0
  exact cl_px (fn := ⟨[18, 6, 27], [], [], b825⟩) rfl rfl (k := 20) (A := [.c (.int n) h, .c (.int (Int.fdiv a n)) h, .c (.int n) h, .c (.int j) h, .v (.int x), .a, .c (.int (Int.fdiv x (1 + Int.fdiv a n))) h, .c (.int (5 * Int.fdiv a n)) h, .a, .c (.int (Int.fmod (Int.fdiv x (1 + Int.fdiv a n) + 5 * Int.fdiv a n) m)) h]) (by kernel_rfl) (U8 E G F S M L D L)
noncomputable def anRow : V → Option Row
  | .row r => some r
  | _ => none
noncomputable def anInt : V → Option Int
  | .int i => some i
  | _ => none
noncomputable def anStr : V → Option S
  | .str s => some s
  | _ => none
noncomputable def orcR (F : S → Option V) (d f : Nat) (args : List V) (hp : Hp) : Option (V × Hp) := match Nat.beq f 825 && Nat.ble 1 d with
  | true => match args with
    | x :: l => match l with
      | y :: l => match l with
        | z :: l => bo (anRow x) fun r => bo (anInt y) fun a => bo (anInt z) fun m => bo (r.tab a m) fun v => match l with
          | [] => some (.int v, hp)
          | _ :: _ => none
        | [] => none
      | [] => none
    | [] => none
  | false => match Nat.beq f 627 && Nat.ble 6 d with
    | true => match args with
      | x :: l => bo (anStr x) fun s => bo (F s) fun u => match l with
        | [] => some (u, hp)
        | _ :: _ => none
      | [] => none
    | false => none
noncomputable def ScanOk (F : S → Option V) : Prop := ∀ s u, F s = some u → ∃ v h', RCl B0 6 627 [.str s] hN v h' ∧ frzK 7 h' v = some u
theorem row_own {R : List Addr} {ρ ρ' : Nat → Addr} {n : Nat} {h : Heap} {r : Row} {cv : Value} (x : VRel R ρ n h (.row r) cv) : RowOk r ∧ VRel (own R ρ n) ρ' 0 h (.row r) cv := by
  exact x.inv (P := fun cv => RowOk r ∧ VRel (own R ρ n) ρ' 0 h (.row r) cv) fun _ _ _ _ ok ho hc hd off hi => ⟨ok, .row ok ho hc hd (own_off off) hi⟩
theorem anRow_e {x : V} {r : Row} (h : anRow x = some r) : x = .row r := by
  induction x using V.casesOn with
  | row s => exact congrArg _ (Option.some.inj h)
  | _ => exact nos h
theorem anInt_e {x : V} {r : Int} (h : anInt x = some r) : x = .int r := by
  induction x using V.casesOn with
  | int s => exact congrArg _ (Option.some.inj h)
  | _ => exact nos h
theorem anStr_e {x : V} {r : S} (h : anStr x = some r) : x = .str r := by
  induction x using V.casesOn with
  | str s => exact congrArg _ (Option.some.inj h)
  | _ => exact nos h
theorem obl {α β : Type} {l : List α} {n : Unit → Option β} {f : α → List α → Option β} {y : β} {G : Prop} (h : l.casesOn (motive := fun _ => Option β) (n ()) f = some y) (h0 : l = [] → n () = some y → G) (h1 : ∀ x r, l = x :: r → f x r = some y → G) : G := by
  induction l using List.casesOn with
  | nil => exact h0 rfl h
  | cons x r => exact h1 x r rfl h
theorem orcR_inv {F : S → Option V} {d f : Nat} {args : List V} {hp hp' : Hp} {v : V} (e : orcR F d f args hp = some (v, hp')) {G : Prop} (k1 : ∀ r a m u, 1 ≤ d → f = 825 → args = [.row r, .int a, .int m] → r.tab a m = some u → v = .int u → hp' = hp → G) (k2 : ∀ t, 6 ≤ d → f = 627 → args = [.str t] → F t = some v → hp' = hp → G) : G := by
  set_option smartUnfolding false in refine obf (b := Nat.beq f 825 && Nat.ble 1 d) e (fun b e => ?_) fun _ e => ?_
  · have b := Bool.and_eq_true_iff.mp b
    set_option smartUnfolding false in refine obl (n := fun _ => none) e (fun _ => nos) fun x l g1 e => ?_
    set_option smartUnfolding false in refine obl (n := fun _ => none) e (fun _ => nos) fun y l g2 e => ?_
    set_option smartUnfolding false in refine obl (n := fun _ => none) e (fun _ => nos) fun z l g3 e => ?_
    refine bo_e e fun r e1 e => bo_e e fun a e2 e => bo_e e fun m e3 e => bo_e e fun u e4 e => ?_
    set_option smartUnfolding false in refine obl (n := fun _ => some (V.int u, hp)) e (fun g4 e => ?_) fun _ _ _ => nos
    exact k1 r a m u (Nat.le_of_ble_eq_true b.2) (Nat.eq_of_beq_eq_true b.1) (by rw [g1, g2, g3, g4, anRow_e e1, anInt_e e2, anInt_e e3]) e4 (some2 (G := fun v _ => v = .int u) e rfl) (some2 (G := fun _ h => h = hp) e rfl)
  · set_option smartUnfolding false in refine obt (b := Nat.beq f 627 && Nat.ble 6 d) e fun b e => ?_
    have b := Bool.and_eq_true_iff.mp b
    set_option smartUnfolding false in refine obl (n := fun _ => none) e (fun _ => nos) fun x l g1 e => ?_
    refine bo_e e fun t e1 e => bo_e e fun u e2 e => ?_
    set_option smartUnfolding false in refine obl (n := fun _ => some (u, hp)) e (fun g4 e => ?_) fun _ _ _ => nos
    exact k2 t (Nat.le_of_ble_eq_true b.2) (Nat.eq_of_beq_eq_true b.1) (by rw [g1, g4, anStr_e e1]) (some2 (G := fun v _ => F t = some v) e e2) (some2 (G := fun _ h => h = hp) e rfl)
section
variable {prog : Program} {K : World → Frag} {w : World} {h₀ : Heap} {mg mb : Str → Option Value} {F : S → Option V} (W : Wd prog w (K w) h₀ mg mb (tb (orcR F) rawN)) {d : Nat} {v : V} {hp : Hp} {A : Around} {R : List Addr} {ρ : Nat → Addr} {s : Shared} {cargs : List Value} {Rr : Result → Shared → Prop} (rm : Room A d) (rv : Resv h₀ R s.heap) (P : Rep prog w h₀ R ρ hp s.heap) (k : KV prog w h₀ R ρ hp s v hp (fun cv s' => Rr (.ok (.ret cv)) s'))
include W rm rv P
theorem pick_ok {r : Row} {a m u : Int} (k : KV prog w h₀ R ρ hp s (.int u) hp (fun cv s' => Rr (.ok (.ret cv)) s')) (hd : 1 ≤ d) (e : r.tab a m = some u) (ra : VRels R ρ hp.n s.heap [.row r, .int a, .int m] cargs) : codeAny (model prog w) A (.call (.ref 825) ⟨cargs, []⟩) Rr s := by
  refine ra.inv (P := fun c => codeAny (model prog w) A (.call (.ref 825) ⟨c, []⟩) Rr s) fun c1 _ x1 ra => ra.inv (P := fun c => codeAny (model prog w) A (.call (.ref 825) ⟨c1 :: c, []⟩) Rr s) fun c2 _ x2 ra => ra.inv (P := fun c => codeAny (model prog w) A (.call (.ref 825) ⟨c1 :: c2 :: c, []⟩) Rr s) fun c3 _ x3 ra => ra.inv (P := fun c => codeAny (model prog w) A (.call (.ref 825) ⟨c1 :: c2 :: c3 :: c, []⟩) Rr s) ?_
  refine x2.inv (P := fun c2 => codeAny (model prog w) A (.call (.ref 825) ⟨[c1, c2, c3], []⟩) Rr s) fun _ => x3.inv (P := fun c3 => codeAny (model prog w) A (.call (.ref 825) ⟨[c1, _, c3], []⟩) Rr s) fun _ => ?_
  exact restart W (good0 prog K) (q := 1) hd (pick_run (row_own (ρ' := ρ) x1).1 e hN 0).get rm rv P k rfl (.cons (row_own x1).2 (.cons (.int _ _) (.cons (.int _ _) .nil)))
include k
theorem scan_ok {t : S} (hF : ScanOk F) (hd : 6 ≤ d) (e : F t = some v) (ra : VRels R ρ hp.n s.heap [.str t] cargs) : codeAny (model prog w) A (.call (.ref 627) ⟨cargs, []⟩) Rr s := by
  refine ra.inv (P := fun c => codeAny (model prog w) A (.call (.ref 627) ⟨c, []⟩) Rr s) fun c1 _ x1 ra => ra.inv (P := fun c => codeAny (model prog w) A (.call (.ref 627) ⟨c1 :: c, []⟩) Rr s) (x1.inv (P := fun c => codeAny (model prog w) A (.call (.ref 627) ⟨[c], []⟩) Rr s) fun _ => ?_)
  · obtain ⟨v, h', r, z⟩ := hF t _ e
    exact restart W (good0 prog K) hd r.get rm rv P k z (.cons (.str _ _) .nil)
end
theorem goodR (prog : Program) (K : World → Frag) {F : S → Option V} (hF : ScanOk F) : Good prog K (orcR F) := fun w h mg mb W =>
  ⟨fun {d f args hp v hp'} e0 {A R ρ s cargs Rr} rm rv P ra k => orcR_inv e0 (fun r a m u hd ef ea e ev eh => by subst ef ea ev eh; exact pick_ok W rm rv P k hd e ra) (fun t hd ef ea e eh => by subst ef ea eh; exact scan_ok W rm rv P k hF hd e ra), (fun e => nos e)⟩
end
section
section
variable {B : Tb} {d k : Nat} {fm fm1 fm2 fm3 : Fm} {h h1 h2 h3 : Hp} {t : Tgt} {it v u : V} {j : Nat} {b : List St} {elt : E} {acc us : List V} {fl : Fl} {A : List An} {C : Prop}
theorem ev_px {e : E} (x : (px B k).ev d fm ⟨h, A, True⟩ e = some (v, ⟨h', [], C⟩)) (c : C) : REv B d fm h e v h' := ((px_ok B k).ev x c).2
theorem ex_px {l : List St} (x : (px B k).ex d fm ⟨h, A, True⟩ l = some (fl, fm1, ⟨h1, [], C⟩)) (c : C) : REx B d fm h l fl fm1 h1 := ((px_ok B k).ex x c).2
theorem fo_end (e : itGet h it j = some none) : RFo B d fm h t it j b .next fm h := (Al.of fun _ => trivial).up fun n _ => by
  show foStep B (run B n) d fm h t it j b = _
  unfold foStep
  rw [e]
theorem fo_next (e : itGet h it j = some (some v)) (a : ∀ n, asg B (run B n) d fm h t v = some (fm1, h1)) (x : REx B d fm1 h1 b .next fm2 h2) (r : RFo B d fm2 h2 t it (j + 1) b fl fm3 h3) : RFo B d fm h t it j b fl fm3 h3 := x.up2 r fun n x r => by
  show foStep B (run B n) d fm h t it j b = _
  unfold foStep
  rw [e]
  dsimp only
  rw [a n]
  dsimp only
  rw [x]
  exact r
theorem co_end (e : itGet h it j = some none) : RCo B d fm h elt t it j none acc acc h := (Al.of fun _ => trivial).up fun n _ => by
  show coStep B (run B n) d fm h elt t it j none acc = _
  unfold coStep
  rw [e]
theorem co_next (e : itGet h it j = some (some v)) (a : ∀ n, asg B (run B n) d fm h t v = some (fm1, h1)) (x : REv B d fm1 h1 elt u h2) (hs : acc.length < 100000) (r : RCo B d fm1 h2 elt t it (j + 1) none (acc ++ [u]) us h3) : RCo B d fm h elt t it j none acc us h3 := x.up2 r fun n x r => by
  show coStep B (run B n) d fm h elt t it j none acc = _
  unfold coStep
  rw [e]
  dsimp only
  rw [a n]
  show (match (run B n).ev d fm1 h1 elt with | some (u, h) => (match short acc.length with | true => (run B n).co d fm1 h elt t it (j + 1) none (acc ++ [u]) | false => none) | none => none) = _
  rw [x, short_of_lt hs]
  exact r
theorem nth_mid (v : V) (r : List V) : ∀ (p : List V), nth (p ++ v :: r) p.length = some v
  | [] => rfl
  | _ :: p => nth_mid v r p
theorem nth_end : ∀ (p : List V), nth p p.length = none
  | [] => rfl
  | _ :: p => nth_end p
theorem newList_push {vs : List V} (hl : vs.length < 100000) (hn : h.n < 1000000) : newList h vs = some (.ref h.n, h.push (.list vs)) := by
  unfold newList
  rw [short_of_lt hl, new_push _ hn]
  rfl
end
section
variable {h : Hp} {f : Nat}
theorem mapO_id {g : V → Option V} : ∀ {us : List V}, (∀ u, u ∈ us → g u = some u) → mapO g us = some us
  | [], _ => rfl
  | u :: r, hu => mapO_cons (hu u (.head _)) (mapO_id fun x hx => hu x (.tail _ hx))
theorem datas_of : ∀ {us : List V}, (∀ u, u ∈ us → dataV u = true) → dataVs us = true
  | [], _ => rfl
  | u :: r, hu => Bool.and_eq_true_iff.mpr ⟨hu u (.head _), datas_of fun x hx => hu x (.tail _ hx)⟩
theorem frz_list {i : Nat} {vs us : List V} (g : h.get i = some (.list vs)) (e : mapO (frz f h) vs = some us) : frz (f + 1) h (.ref i) = some (.rol us) := by
  unfold frz
  dsimp only
  rw [g]
  dsimp only
  rw [e]
theorem int_of {ys : List Int} {u : V} (hu : u ∈ ys.map V.int) : frz (f + 1) h u = some u ∧ dataV u = true := by
  obtain ⟨y, -, rfl⟩ := List.mem_map.mp hu
  exact ⟨rfl, rfl⟩
theorem cmp_refs {sd : Nat → Option (List (S × V))} {i j : Nat} {vs : List V} {x y : V} (g : h.get i = some (.list vs)) (ea : frz 12 h (.ref i) = some x) (eb : frz 12 h (.ref j) = some y) (dx : dataV x = true) (dy : dataV y = true) : cmpV sd h .Eq (.ref i) (.ref j) = some (eqV x y) ∧ cmpV sd h .NotEq (.ref i) (.ref j) = some (!eqV x y) := by
  have e2 : noD h (.ref i) = false := by unfold noD; dsimp only; rw [g]
  have D : ∀ op, deepEq h op (.ref i) (.ref j) = match op with | .Eq => some (eqV x y) | .NotEq => some (!eqV x y) | _ => none := fun op => by
    unfold deepEq
    rw [ea, eb]
    dsimp only
    rw [dx, dy]
    cases op <;> rfl
  have K : ∀ op, compare h op (.ref i) (.ref j) = none → cmpV sd h op (.ref i) (.ref j) = deepEq h op (.ref i) (.ref j) := fun op hc => by
    unfold cmpV
    dsimp only
    rw [hc, e2]
    rfl
  exact ⟨(K .Eq rfl).trans (D .Eq), (K .NotEq rfl).trans (D .NotEq)⟩
end
end
section
noncomputable def intsV : List V → Option (List Int)
  | [] => some []
  | v :: r => bo (anInt v) fun i => bo (intsV r) fun l => some (i :: l)
noncomputable def goodRow (xs : List Int) : Bool := Nat.blt 0 xs.length && Nat.ble xs.length 30 && xs.all fun x => decide (0 ≤ x) && decide (x < 999983)
noncomputable def lowRow (xs : List Int) : Bool := decide (pickI xs 4 10 < 8)
noncomputable def anList : O → Option (List V)
  | .list vs => some vs
  | _ => none
noncomputable def anRef : V → Option Nat
  | .ref i => some i
  | _ => none
noncomputable def orcT (d f : Nat) (args : List V) (hp : Hp) : Option (V × Hp) := match (Nat.beq f 830 || Nat.beq f 835 || Nat.beq f 842) && Nat.ble 50 d with
  | true => match args with
    | x :: l => match l with
      | [] => bo (anRef x) fun i => bo (hp.get i) fun o => bo (anList o) fun vs => bo (intsV vs) fun xs => match goodRow xs && (!Nat.beq f 842 || lowRow xs) with
        | true => some (.bool true, hp)
        | false => none
      | _ :: _ => none
    | [] => none
  | false => none
noncomputable abbrev BT : Tb := tb orcT rawN
theorem intsV_map : ∀ (xs : List Int), intsV (xs.map .int) = some xs
  | [] => rfl
  | x :: r => by
    show bo (intsV (r.map .int)) _ = _
    rw [intsV_map r]
    rfl
theorem orcT_row {d f i : Nat} {hp : Hp} {xs : List Int} (hf : (Nat.beq f 830 || Nat.beq f 835 || Nat.beq f 842) = true) (hd : Nat.ble 50 d = true) (hg : hp.get i = some (.list (xs.map .int))) (hr : goodRow xs = true) (hw : (!Nat.beq f 842 || lowRow xs) = true) : orcT d f [.ref i] hp = some (.bool true, hp) := by
  unfold orcT
  rw [hf, hd]
  show bo (hp.get i) _ = _
  rw [hg]
  show bo (intsV (xs.map .int)) _ = _
  rw [intsV_map]
  show (match goodRow xs && (!Nat.beq f 842 || lowRow xs) with | true => some (V.bool true, hp) | false => none) = _
  rw [hr, hw]
  rfl
noncomputable def pre847 : List St := [.asg (.loc 18) (.comp (.bin .Mod (.call 29 [.loc 176]) (.ci 999983)) (.loc 176) (.slc (.loc 177) none (some (.ci 30))) none), .ifs (.cmp .Eq (.loc 18) (.lst [])) [.asg (.loc 18) (.lst [.ci 0])] []]
theorem b847_eq : b847 = pre847 ++ [.ret (.bop .And [.call 178 [.loc 18], .call 179 [.loc 18], .call 180 [.loc 18]])] := rfl
noncomputable def modV (y : Int) : V := .int (Int.fmod y 999983)
theorem law_co (d : Nat) {h : Hp} {i : Nat} : ∀ (zs ps : List Int) (o : Option V), h.get i = some (.list ((ps ++ zs).map .int)) → (ps ++ zs).length ≤ 30 → RCo BT d ⟨tl 176 o, []⟩ h (.bin .Mod (.call 29 [.loc 176]) (.ci 999983)) (.loc 176) (.ref i) ps.length none (ps.map modV) ((ps ++ zs).map modV) h
  | [], ps, o, g, hl => by
    rw [List.append_nil] at g ⊢
    refine co_end ?_
    show (match h.get i with | some (.list vs) => some (nth vs ps.length) | _ => none) = _
    rw [g, ← List.length_map (as := ps) V.int]
    exact congrArg some (nth_end _)
  | z :: zs, ps, o, g, hl => by
    have R := law_co d (h := h) (i := i) zs (ps ++ [z]) (some (.int z))
    rw [List.append_assoc, show (ps ++ [z]).length = ps.length + 1 from List.length_append, show (ps ++ [z]).map modV = _ from List.map_append] at R
    refine co_next (fm1 := ⟨tl 176 (some (.int z)), []⟩) (u := modV z) ?_ (fun _ => by cases o <;> rfl) (ev_px (k := 9) (A := [.a, .a]) (by kernel_rfl) trivial) ?_ (R g hl)
    · show (match h.get i with | some (.list vs) => some (nth vs ps.length) | _ => none) = _
      rw [g, List.map_append, ← List.length_map (as := ps) V.int]
      exact congrArg some (nth_mid _ _ _)
    · rw [List.length_map]
      rw [List.length_append] at hl
      exact Nat.lt_of_le_of_lt (Nat.le_trans (Nat.le_add_right ..) hl) (by decide)
theorem fmod_row (y : Int) : 0 ≤ Int.fmod y 999983 ∧ Int.fmod y 999983 < 999983 := ⟨Int.fmod_nonneg_of_pos _ (by decide), Int.fmod_lt_of_pos _ (by decide)⟩
theorem goodRow_map {ys : List Int} (h0 : 0 < ys.length) (h1 : ys.length ≤ 30) : goodRow (ys.map fun y => Int.fmod y 999983) = true := by
  unfold goodRow
  rw [List.length_map, Nat.blt_eq.mpr h0, Nat.ble_eq.mpr h1]
  refine List.all_eq_true.mpr fun x hx => ?_
  obtain ⟨y, -, rfl⟩ := List.mem_map.mp hx
  rw [decide_eq_true (fmod_row y).1, decide_eq_true (fmod_row y).2]
  rfl
theorem frz_ints (f : Nat) (h : Hp) (zs : List Int) : mapO (frz (f + 1) h) (zs.map .int) = some (zs.map .int) := mapO_id fun u hu => (int_of hu).1
theorem law_pre (xs : List Int) (hl : xs.length ≤ 63) : ∃ fm hp' i row, REx BT 59 ⟨Mine.bindL [] [177] [.rol (xs.map .int)] [], []⟩ hN pre847 .next fm hp' ∧ getL fm.L 18 = some (.ref i) ∧ hp'.get i = some (.list (row.map .int)) ∧ goodRow row = true := by
  have hs : (xs.map V.int).length < 100000 := by rw [List.length_map]; exact Nat.lt_of_le_of_lt hl (by decide)
  have hk : (xs.take 30).length ≤ 30 := by rw [List.length_take]; exact Nat.min_le_left ..
  have S : slcV hN (.rol (xs.map .int)) none (some (.int 30)) = some (.ref 0, hN.push (.list ((xs.take 30).map .int))) := by
    show (match short (xs.map V.int).length with | true => (match bound (xs.map V.int).length (xs.map V.int).length (some (.int (30 : Nat))) with | some b => newList hN ((xs.map V.int).take (b - 0)) | none => none) | false => none) = _
    rw [short_of_lt hs, bound_nat]
    dsimp only
    rw [Nat.sub_zero, ← List.take_eq_take_min, ← List.map_take]
    exact newList_push (h := hN) (by rw [List.length_map]; exact Nat.lt_of_le_of_lt hk (by decide)) (by decide)
  generalize xs.take 30 = ys at *
  have L : RCo BT 59 ⟨[], []⟩ (hN.push (.list (ys.map .int))) (.bin .Mod (.call 29 [.loc 176]) (.ci 999983)) (.loc 176) (.ref 0) 0 none [] (ys.map modV) (hN.push (.list (ys.map .int))) := law_co 59 ys [] none rfl hk
  have hm : ys.map modV = (ys.map fun y => Int.fmod y 999983).map .int := (List.map_map ..).symm
  have K : ComR BT 59 [] (hN.push (.list (ys.map .int))) (.bin .Mod (.call 29 [.loc 176]) (.ci 999983)) (.loc 176) (.ref 0) none (.ref 1) ((hN.push (.list (ys.map .int))).push (.list (ys.map modV))) := ⟨rfl, _, _, L, newList_push (h := hN.push (.list (ys.map .int))) (by rw [List.length_map]; exact Nat.lt_of_le_of_lt hk (by decide)) (show 1 < 1000000 by decide)⟩
  rw [hm] at K
  have hr := fun h0 => goodRow_map (ys := ys) h0 hk
  cases ys with
  | nil => exact ⟨_, (((hN.push (.list [])).push (.list [])).push (.list [])).push (.list [.int 0]), 3, [0], ex_px (fm1 := ⟨[(177, .rol (xs.map .int)), (18, .ref 3)], []⟩) (k := 9) (A := [.c (.ref 0) (hN.push (.list [])), .c (.ref 1) ((hN.push (.list [])).push (.list [])), .a, .a, .a]) (by kernel_rfl) (U2 K S), rfl, rfl, rfl⟩
  | cons y r =>
    have R := hr (Nat.succ_pos _)
    have fi := frz_ints 10 (((hN.push (.list ((y :: r).map .int))).push (.list (((y :: r).map fun y => Int.fmod y 999983).map .int))).push (.list [])) ((y :: r).map fun y => Int.fmod y 999983)
    have fd : dataVs (((y :: r).map fun y => Int.fmod y 999983).map .int) = true := datas_of fun u hu => (int_of (f := 0) (h := hN) hu).2
    have g1 : (((hN.push (.list ((y :: r).map .int))).push (.list (((y :: r).map fun y => Int.fmod y 999983).map .int))).push (.list [])).get 1 = some (.list (((y :: r).map fun y => Int.fmod y 999983).map .int)) := by kernel_rfl
    have M := (cmp_refs (sd := BT.sd) (h := ((hN.push (.list ((y :: r).map .int))).push (.list (((y :: r).map fun y => Int.fmod y 999983).map .int))).push (.list [])) (i := 1) (j := 2) (y := .rol []) g1 (frz_list g1 fi) (frz_list (f := 11) (vs := []) (us := []) (by kernel_rfl) rfl) fd rfl).1
    exact ⟨_, _, 1, _, ex_px (fm1 := ⟨[(177, .rol (xs.map .int)), (18, .ref 1)], []⟩) (k := 9) (A := [.c (.ref 0) (hN.push (.list ((y :: r).map .int))), .c (.ref 1) ((hN.push (.list ((y :: r).map .int))).push (.list (((y :: r).map fun y => Int.fmod y 999983).map .int))), .a, .b false]) (by kernel_rfl) (U3 M K S), rfl, g1, R⟩
end
section
noncomputable def tabOf (xs : List Int) (a m : Int) : Option Int := match decide (0 ≤ a) && decide (a < 1000) && decide (0 < m) && decide (m < 1000) with
  | true => some (pickI xs a m)
  | false => none
theorem tabOf_at {xs : List Int} {a m : Int} (h1 : 0 ≤ a) (h2 : a < 1000) (h3 : 0 < m) (h4 : m < 1000) : tabOf xs a m = some (pickI xs a m) := by
  unfold tabOf
  rw [decide_eq_true h1, decide_eq_true h2, decide_eq_true h3, decide_eq_true h4]
  rfl
theorem rowOk_tab {xs : List Int} (h : goodRow xs = true) {tab : Int → Int → Option Int} (ht : ∀ a m v, tab a m = some v → 0 ≤ a ∧ a < 1000 ∧ 0 < m ∧ m < 1000 ∧ v = pickI xs a m) : RowOk ⟨xs, tab⟩ := by
  obtain ⟨h1, h2⟩ := Bool.and_eq_true_iff.mp h
  obtain ⟨h0, h1⟩ := Bool.and_eq_true_iff.mp h1
  refine ⟨Nat.blt_eq.mp h0, Nat.le_of_ble_eq_true h1, fun x hx => ?_, ht⟩
  have z := Bool.and_eq_true_iff.mp (List.all_eq_true.mp h2 x hx)
  exact ⟨of_decide_eq_true z.1, of_decide_eq_true z.2⟩
theorem rowOk_of {xs : List Int} (h : goodRow xs = true) : RowOk ⟨xs, tabOf xs⟩ := rowOk_tab h fun a m v e => by
  have e : tabOf xs a m = some v := e
  set_option smartUnfolding false in refine obt (b := decide (0 ≤ a) && decide (a < 1000) && decide (0 < m) && decide (m < 1000)) e fun q e => ?_
  obtain ⟨q, q4⟩ := Bool.and_eq_true_iff.mp q
  obtain ⟨q, q3⟩ := Bool.and_eq_true_iff.mp q
  obtain ⟨q1, q2⟩ := Bool.and_eq_true_iff.mp q
  exact ⟨of_decide_eq_true q1, of_decide_eq_true q2, of_decide_eq_true q3, of_decide_eq_true q4, (Option.some.inj e).symm⟩
theorem pick_nat (xs : List Int) (a : Int) {m : Nat} (hm : 0 < m) : ∃ k : Nat, pickI xs a m = k ∧ k < m := by
  have m0 : (0 : Int) < m := Int.ofNat_lt.mpr hm
  obtain ⟨k, hk⟩ := Int.eq_ofNat_of_zero_le (show 0 ≤ pickI xs a m from Int.fmod_nonneg_of_pos _ m0)
  exact ⟨k, hk, Int.ofNat_lt.mp (hk ▸ (show pickI xs a m < m from Int.fmod_lt_of_pos _ m0))⟩
theorem ints_of_rel {R : List Addr} {ρ : Nat → Addr} {n : Nat} {h : Heap} : ∀ {vs : List V} {cvs : List Value} {xs : List Int}, VRels R ρ n h vs cvs → intsV vs = some xs → IntsL cvs xs
  | [], _, xs, r, e => Option.some.inj e ▸ r.inv (P := fun c => IntsL c []) .nil
  | v :: vs, _, xs, r, e => r.inv (P := fun c => IntsL c xs) fun cv cvs x r => bo_e e fun i e1 e => bo_e e fun l e2 e => by
    have x := anInt_e e1 ▸ x
    exact Option.some.inj e ▸ x.inv (P := fun c => IntsL (c :: cvs) (i :: l)) fun _ => .cons (ints_of_rel r e2)
noncomputable def Does (prog : Program) (K : World → Frag) (f : Nat) (xs : List Int) : Prop := ∃ o hp' tab, Good prog K o ∧ RowOk ⟨xs, tab⟩ ∧ ∃ n, (run (tb o rawN) n).cl 50 f [.row ⟨xs, tab⟩] hN = some (.bool true, hp')
theorem anRef_e {x : V} {r : Nat} (h : anRef x = some r) : x = .ref r := by
  induction x using V.casesOn with
  | ref s => exact congrArg _ (Option.some.inj h)
  | _ => exact nos h
theorem anList_e {x : O} {r : List V} (h : anList x = some r) : x = .list r := by
  induction x using O.casesOn with
  | list s => exact congrArg _ (Option.some.inj h)
  | _ => exact nos h
theorem orcT_inv {d f : Nat} {args : List V} {hp hp' : Hp} {v : V} (e : orcT d f args hp = some (v, hp')) : 50 ≤ d ∧ (f = 830 ∨ f = 835 ∨ f = 842) ∧ ∃ i vs xs, args = [.ref i] ∧ hp.get i = some (.list vs) ∧ intsV vs = some xs ∧ goodRow xs = true ∧ v = .bool true ∧ hp' = hp ∧ (f = 842 → lowRow xs = true) := by
  set_option smartUnfolding false in refine obt (b := (Nat.beq f 830 || Nat.beq f 835 || Nat.beq f 842) && Nat.ble 50 d) e fun b e => ?_
  have b := Bool.and_eq_true_iff.mp b
  set_option smartUnfolding false in refine obl (n := fun _ => none) e (fun _ => nos) fun x l g1 e => ?_
  set_option smartUnfolding false in refine obl (n := fun _ => bo (anRef x) fun i => bo (hp.get i) fun o => bo (anList o) fun vs => bo (intsV vs) fun xs => match goodRow xs && (!Nat.beq f 842 || lowRow xs) with | true => some (V.bool true, hp) | false => none) e (fun g2 e => ?_) fun _ _ _ => nos
  refine bo_e e fun i e1 e => bo_e e fun o e2 e => bo_e e fun vs e3 e => bo_e e fun xs e4 e => ?_
  set_option smartUnfolding false in refine obt (b := goodRow xs && (!Nat.beq f 842 || lowRow xs)) e fun c e => ?_
  have c := Bool.and_eq_true_iff.mp c
  refine ⟨Nat.le_of_ble_eq_true b.2, (Bool.or_eq_true_iff.mp b.1).elim (fun z => (Bool.or_eq_true_iff.mp z).imp Nat.eq_of_beq_eq_true fun z => .inl (Nat.eq_of_beq_eq_true z)) fun z => .inr (.inr (Nat.eq_of_beq_eq_true z)), i, vs, xs, ?_, ?_, e4, c.1, some2 (G := fun v _ => v = V.bool true) e rfl, some2 (G := fun _ h => h = hp) e rfl, fun z => ?_⟩
  · rw [g1, g2, anRef_e e1]
  · rw [e2, anList_e e3]
  · have c := c.2
    rw [z] at c
    exact c
theorem does_ok {prog : Program} {K : World → Frag} {w : World} {h₀ : Heap} {mg mb : Str → Option Value} (W : Wd prog w (K w) h₀ mg mb BT) {d f i : Nat} {xs : List Int} {vs : List V} {hp : Hp} {A : Around} {R : List Addr} {ρ : Nat → Addr} {s : Shared} {cargs : List Value} {Rr : Result → Shared → Prop} (D : Does prog K f xs) (hd : 50 ≤ d) (hg : hp.get i = some (.list vs)) (hx : intsV vs = some xs) (rm : Room A d) (P : Rep prog w h₀ R ρ hp s.heap)
    (ra : VRels R ρ hp.n s.heap [.ref i] cargs) (k : KV prog w h₀ R ρ hp s (.bool true) hp (fun cv s' => Rr (.ok (.ret cv)) s')) : codeAny (model prog w) A (.call (.ref f) ⟨cargs, []⟩) Rr s := by
  obtain ⟨o, hp', tab, g, hok, hrun⟩ := D
  refine ra.inv (P := fun c => codeAny (model prog w) A (.call (.ref f) ⟨c, []⟩) Rr s) fun c1 _ x1 ra => ra.inv (P := fun c => codeAny (model prog w) A (.call (.ref f) ⟨c1 :: c, []⟩) Rr s) (x1.inv (P := fun c => codeAny (model prog w) A (.call (.ref f) ⟨[c], []⟩) Rr s) fun hi => ?_)
  obtain ⟨co, ho, cvs, kk, rfl, r⟩ := P.at hi hg
  exact restart0 W g hd hrun rm P k (R' := []) ⟨(fun _ x => nomatch x), (fun _ x => nomatch x)⟩ (.cons (.row hok ho rfl rfl ⟨fun i hi => absurd hi (Nat.not_lt_zero i), (fun x => nomatch x)⟩ (ints_of_rel r hx)) .nil) (fun ρ' h' cv _ _ x => x.inv (P := fun cv => VRel R ρ hp.n h' (.bool true) cv) (.bool _))
theorem goodT {prog : Program} {K : World → Frag} (H : ∀ xs, goodRow xs = true → Does prog K 830 xs ∧ Does prog K 835 xs ∧ (lowRow xs = true → Does prog K 842 xs)) : Good prog K orcT := fun w h mg mb W =>
  ⟨fun {d f args hp v hp'} e {A R ρ s cargs Rr} rm rv P ra k => by
    obtain ⟨hd, hf, i, vs, xs, rfl, hg, hx, hr, rfl, rfl, hw⟩ := orcT_inv e
    exact does_ok W (hf.elim (fun z => z ▸ (H xs hr).1) fun z => z.elim (fun z => z ▸ (H xs hr).2.1) fun z => z ▸ (H xs hr).2.2 (hw z)) hd hg hx rm P ra k, (fun e => nos e)⟩
end
section
theorem eqV_refl {v : V} (h : dataV v = true) : eqV v v = true := SeqAt.eqv_refl _ (lay_toPy v h)
noncomputable def isN0 (i : Int) (n : Nat) : Bool := match i with
  | .ofNat k => Nat.beq k n
  | .negSucc _ => false
theorem isN0_e {i : Int} {n : Nat} (h : isN0 i n = true) : i = n := by
  induction i using Int.casesOn with
  | ofNat k => exact congrArg Int.ofNat (Nat.eq_of_beq_eq_true h)
  | negSucc k => cases h
noncomputable def tabL : List (Nat × Nat × Int) → Int → Int → Option Int
  | [], _, _ => none
  | t :: r, a, m => match isN0 a t.1 && isN0 m t.2.1 with
    | true => some t.2.2
    | false => tabL r a m
noncomputable def okB : List (Nat × Nat × Int) → Bool
  | [] => true
  | t :: r => Nat.blt t.1 1000 && Nat.blt 0 t.2.1 && Nat.blt t.2.1 1000 && okB r
noncomputable def okT (xs : List Int) : List (Nat × Nat × Int) → Prop
  | [] => True
  | t :: r => t.2.2 = pickI xs t.1 t.2.1 ∧ okT xs r
theorem tabL_ok {xs : List Int} {a m v : Int} : ∀ {T : List (Nat × Nat × Int)}, okB T = true → okT xs T → tabL T a m = some v → 0 ≤ a ∧ a < 1000 ∧ 0 < m ∧ m < 1000 ∧ v = pickI xs a m
  | [], _, _, e => nos e
  | t :: r, q, o, e => by
    have q := Bool.and_eq_true_iff.mp q
    set_option smartUnfolding false in refine obf (b := isN0 a t.1 && isN0 m t.2.1) e (fun b e => ?_) fun _ e => tabL_ok q.2 o.2 e
    have b := Bool.and_eq_true_iff.mp b
    have q2 := Bool.and_eq_true_iff.mp q.1
    have q1 := Bool.and_eq_true_iff.mp q2.1
    rw [isN0_e b.1, isN0_e b.2]
    exact ⟨Int.natCast_nonneg _, Int.ofNat_lt.mpr (Nat.blt_eq.mp q1.1), Int.ofNat_lt.mpr (Nat.blt_eq.mp q1.2), Int.ofNat_lt.mpr (Nat.blt_eq.mp q2.2), (Option.some.inj e).symm.trans o.1⟩
noncomputable def F0 : S → Option V := fun _ => none
noncomputable abbrev BP : Tb := tb (orcR F0) rawN
theorem goodP (prog : Program) (K : World → Frag) : Good prog K (orcR F0) := goodR prog K fun _ _ e => nos e
noncomputable def wordsL : List S := [[116, 111, 107, 101, 110], [108, 101, 102, 116], [114, 105, 103, 104, 116], [110, 111, 110, 97, 115, 115, 111, 99], [112, 114, 101, 99, 101, 100, 101, 110, 99, 101], [115, 116, 97, 114, 116], [101, 120, 112, 101, 99, 116]]
noncomputable def namesL : List S := [[97], [95, 120, 49], [84, 111, 107]]
noncomputable def dueV (s w m : Nat) (l : Int) : List V :=
  let wd := wordsL.getD w []
  let nm := namesL.getD m []
  match s with
  | 0 => [.str [75, 73, 78, 68], .str ([37] ++ wd), .str wd]
  | 1 => [.str [80, 82, 69, 67], .str [37, 112, 114, 101, 99], .str [37, 112, 114, 101, 99]]
  | 2 => [.str [69, 77, 80, 84, 89], .str [37, 101, 109, 112, 116, 121], .str [37, 101, 109, 112, 116, 121]]
  | 3 => [.str [72, 69, 65, 68], .str nm, .tup [.str nm, .int (1 + l)]]
  | 4 => [.str [78, 85, 77, 66, 69, 82], .str [48, 49, 50, 48], .int 120]
  | 5 => [.str [76, 73, 84, 69, 82, 65, 76], .str [39, 92, 120, 50, 98, 39], .str [39, 43, 39]]
  | 6 => [.str [65, 67, 84, 73, 79, 78], .str ([123, 32, 123] ++ nm ++ [125, 32, 125]), .str ([123] ++ nm ++ [125])]
  | _ => [.str [66, 65, 82], .str [124], .str [124]]
noncomputable def dueT (l c : Int) (i : Nat × Nat × Nat) : V := .tup (dueV i.1 i.2.1 i.2.2 l ++ [.tup [.int (1 + l), .int (1 + c)]])
noncomputable def tkTab (p l c : Int) (i : Nat × Nat × Nat) : List (Nat × Nat × Int) := [(4, 10, i.1), (5, 90, p), (60, 9, l), (61, 9, c), (62, 7, i.2.1), (63, 3, i.2.2)]
noncomputable def tkL (xs : List Int) (p l c : Int) (i : Nat × Nat × Nat) : Option V := ((run BP 300).cl 50 842 [.row ⟨xs, tabL (tkTab p l c i)⟩] hN).map Prod.fst
noncomputable def tkR (l c : Int) (i : Nat × Nat × Nat) : Option V := some (.bool (eqV (dueT l c i) (dueT l c i)))
noncomputable def mapA {α β : Type} (f : α → β) : List α → List β
  | [] => []
  | a :: r => f a :: mapA f r
theorem mapA_eq {α β : Type} {f g : α → β} : ∀ {l : List α}, mapA f l = l.map g → ∀ a, a ∈ l → f a = g a
  | b :: r, h, a, ha => (List.mem_cons.mp ha).elim (fun z => z ▸ List.head_eq_of_cons_eq h) (mapA_eq (List.tail_eq_of_cons_eq h) a)
noncomputable def idx3 (a b c : Nat) : List (Nat × Nat × Nat) := (List.range a).flatMap fun s => (List.range b).flatMap fun w => (List.range c).map fun m => (s, w, m)
theorem idx3_mem {a b c s w m : Nat} (h1 : s < a) (h2 : w < b) (h3 : m < c) : (s, w, m) ∈ idx3 a b c := List.mem_flatMap.mpr ⟨s, List.mem_range.mpr h1, List.mem_flatMap.mpr ⟨w, List.mem_range.mpr h2, List.mem_map.mpr ⟨m, List.mem_range.mpr h3, rfl⟩⟩⟩
section
variable (xs : List Int) (p l c : Int)
theorem tk_all : mapA (tkL xs p l c) (idx3 8 7 3) = (idx3 8 7 3).map (tkR l c) := by kernel_rfl
theorem tk_data : (idx3 8 7 3).all (fun i => dataV (dueT l c i)) = true := by kernel_rfl
end
theorem does842_low {prog : Program} {K : World → Frag} {xs : List Int} (h : goodRow xs = true) (hs : lowRow xs = true) : Does prog K 842 xs := by
  obtain ⟨s, es, -⟩ := pick_nat xs 4 (m := 10) (by decide)
  obtain ⟨w, ew, hw⟩ := pick_nat xs 62 (m := 7) (by decide)
  obtain ⟨m, em, hm⟩ := pick_nat xs 63 (m := 3) (by decide)
  have hi := idx3_mem (show s < 8 from Int.ofNat_lt.mp (es ▸ of_decide_eq_true hs)) hw hm
  have e := mapA_eq (tk_all xs (pickI xs 5 90) (pickI xs 60 9) (pickI xs 61 9)) _ hi
  unfold tkL tkR at e
  rw [eqV_refl (List.all_eq_true.mp (tk_data _ _) _ hi)] at e
  obtain ⟨⟨v, hp'⟩, h1, h2⟩ := Option.map_eq_some_iff.mp e
  have h2 : v = .bool true := h2
  subst h2
  have T : okT xs (tkTab (pickI xs 5 90) (pickI xs 60 9) (pickI xs 61 9) (s, w, m)) := ⟨es.symm, rfl, rfl, rfl, ew.symm, em.symm, trivial⟩
  exact ⟨orcR F0, hp', _, goodP prog K, rowOk_tab h fun a m v => tabL_ok rfl T, 300, h1⟩
end
section
noncomputable def linesL : List S := splitA 10 selfS []
noncomputable def gapsL : List S := [[32], [10], [32, 47, 47, 32, 97, 32, 58, 32, 98], [32, 47, 42, 32, 99, 32, 124, 32, 42, 47], [9]]
noncomputable def setS : List S → Nat → S → List S
  | [], _, _ => []
  | x :: r, k, s => match k with
    | 0 => s :: r
    | k + 1 => x :: setS r k s
noncomputable def textOf (i : Nat × Nat) : S := joinL [10] (setS linesL i.1 (linesL.getD i.1 [] ++ gapsL.getD i.2 []))
noncomputable def baseL : List (S × S) := [([75, 73, 78, 68], [37, 116, 111, 107, 101, 110]), ([78, 65, 77, 69], [75, 73, 78, 68]), ([78, 65, 77, 69], [78, 65, 77, 69]), ([78, 65, 77, 69], [72, 69, 65, 68]), ([78, 65, 77, 69], [76, 73, 84, 69, 82, 65, 76]), ([78, 65, 77, 69], [78, 85, 77, 66, 69, 82]), ([78, 65, 77, 69], [77, 65, 82, 75]), ([78, 65, 77, 69], [66, 65, 82]), ([78, 65, 77, 69], [83, 69, 77, 73]), ([78, 65, 77, 69], [65, 67, 84, 73, 79, 78]), ([78, 65, 77, 69], [80, 82, 69, 67]), ([78, 65, 77, 69], [69, 77, 80, 84, 89]), ([77, 65, 82, 75], [37, 37]), ([72, 69, 65, 68], [102, 105, 108, 101]), ([78, 65, 77, 69], [100, 101, 99, 108, 115]), ([78, 65, 77, 69], [77, 65, 82, 75]), ([78, 65, 77, 69], [114, 117, 108, 101, 115]), ([65, 67, 84, 73, 79, 78], [123, 36, 36, 61, 91, 36, 49, 44, 36, 51, 93, 125]), ([66, 65, 82], [124]), ([78, 65, 77, 69], [100, 101, 99, 108, 115]), ([78, 65, 77, 69], [77, 65, 82, 75]), ([78, 65, 77, 69], [114, 117, 108, 101, 115]), ([78, 65, 77, 69], [77, 65, 82, 75]), ([65, 67, 84, 73, 79, 78], [123, 36, 36, 61, 91, 36, 49, 44, 36, 51, 93, 125]), ([72, 69, 65, 68], [100, 101, 99, 108, 115]), ([69, 77, 80, 84, 89], [37, 101, 109, 112, 116, 121]), ([65, 67, 84, 73, 79, 78], [123, 36, 36, 61, 91, 93, 125]), ([66, 65, 82], [124]), ([78, 65, 77, 69], [100, 101, 99, 108, 115]), ([78, 65, 77, 69], [75, 73, 78, 68]), ([78, 65, 77, 69], [115, 121, 109, 115]), ([65, 67, 84, 73, 79, 78], [123, 36, 36, 61, 112, 117, 115, 104, 40, 36, 49, 44, 91, 36, 50, 44, 36, 51, 93, 41, 125]), ([72, 69, 65, 68], [115, 121, 109, 115]), ([78, 65, 77, 69], [115, 121, 109]), ([65, 67, 84, 73, 79, 78], [123, 36, 36, 61, 91, 36, 49, 93, 125]), ([66, 65, 82], [124]), ([78, 65, 77, 69], [115, 121, 109, 115]), ([78, 65, 77, 69], [115, 121, 109]), ([65, 67, 84, 73, 79, 78], [123, 36, 36, 61, 112, 117, 115, 104, 40, 36, 49, 44, 36, 50, 41, 125]), ([72, 69, 65, 68], [115, 121, 109]), ([78, 65, 77, 69], [110, 97, 109, 101]), ([66, 65, 82], [124]), ([78, 65, 77, 69], [78, 85, 77, 66, 69, 82]), ([72, 69, 65, 68], [110, 97, 109, 101]), ([78, 65, 77, 69], [78, 65, 77, 69]), ([66, 65, 82], [124]), ([78, 65, 77, 69], [76, 73, 84, 69, 82, 65, 76]), ([72, 69, 65, 68], [114, 117, 108, 101, 115]), ([78, 65, 77, 69], [114, 117, 108, 101]), ([65, 67, 84, 73, 79, 78], [123, 36, 36, 61, 91, 36, 49, 93, 125]), ([66, 65, 82], [124]), ([78, 65, 77, 69], [114, 117, 108, 101, 115]), ([78, 65, 77, 69], [114, 117, 108, 101]), ([65, 67, 84, 73, 79, 78], [123, 36, 36, 61, 112, 117, 115, 104, 40, 36, 49, 44, 36, 50, 41, 125]), ([72, 69, 65, 68], [114, 117, 108, 101]), ([78, 65, 77, 69], [97, 108, 116, 115]), ([66, 65, 82], [124]), ([78, 65, 77, 69], [97, 108, 116, 115]), ([78, 65, 77, 69], [83, 69, 77, 73]), ([72, 69, 65, 68], [97, 108, 116, 115]), ([78, 65, 77, 69], [72, 69, 65, 68]), ([78, 65, 77, 69], [97, 108, 116]), ([65, 67, 84, 73, 79, 78], [123, 36, 36, 61, 91, 36, 49, 44, 91, 36, 50, 93, 93, 125]), ([66, 65, 82], [124]), ([78, 65, 77, 69], [97, 108, 116, 115]), ([78, 65, 77, 69], [66, 65, 82]), ([78, 65, 77, 69], [97, 108, 116]), ([65, 67, 84, 73, 79, 78], [123, 36, 36, 61, 91, 104, 101, 97, 100, 40, 36, 49, 41, 44, 112, 117, 115, 104, 40, 108, 97, 115, 116, 40, 36, 49, 41, 44, 36, 51, 41, 93, 125]), ([72, 69, 65, 68], [97, 108, 116]), ([78, 65, 77, 69], [112, 97, 114, 116, 115]), ([65, 67, 84, 73, 79, 78], [123, 36, 36, 61, 91, 36, 49, 44, 34, 34, 93, 125]), ([66, 65, 82], [124]), ([78, 65, 77, 69], [112, 97, 114, 116, 115]), ([78, 65, 77, 69], [80, 82, 69, 67]), ([78, 65, 77, 69], [110, 97, 109, 101]), ([65, 67, 84, 73, 79, 78], [123, 36, 36, 61, 91, 36, 49, 44, 36, 51, 93, 125]), ([66, 65, 82], [124]), ([78, 65, 77, 69], [112, 97, 114, 116, 115]), ([78, 65, 77, 69], [80, 82, 69, 67]), ([78, 65, 77, 69], [110, 97, 109, 101]), ([78, 65, 77, 69], [65, 67, 84, 73, 79, 78]), ([65, 67, 84, 73, 79, 78], [123, 36, 36, 61, 91, 112, 117, 115, 104, 40, 36, 49, 44, 91, 34, 97, 99, 116, 34, 44, 36, 52, 93, 41, 44, 36, 51, 93, 125]), ([72, 69, 65, 68], [112, 97, 114, 116, 115]), ([69, 77, 80, 84, 89], [37, 101, 109, 112, 116, 121]), ([65, 67, 84, 73, 79, 78], [123, 36, 36, 61, 91, 93, 125]), ([66, 65, 82], [124]), ([78, 65, 77, 69], [112, 97, 114, 116, 115]), ([78, 65, 77, 69], [78, 65, 77, 69]), ([65, 67, 84, 73, 79, 78], [123, 36, 36, 61, 112, 117, 115, 104, 40, 36, 49, 44, 91, 34, 115, 121, 109, 34, 44, 36, 50, 93, 41, 125]), ([66, 65, 82], [124]), ([78, 65, 77, 69], [112, 97, 114, 116, 115]), ([78, 65, 77, 69], [76, 73, 84, 69, 82, 65, 76]), ([65, 67, 84, 73, 79, 78], [123, 36, 36, 61, 112, 117, 115, 104, 40, 36, 49, 44, 91, 34, 115, 121, 109, 34, 44, 36, 50, 93, 41, 125]), ([66, 65, 82], [124]), ([78, 65, 77, 69], [112, 97, 114, 116, 115]), ([78, 65, 77, 69], [65, 67, 84, 73, 79, 78]), ([65, 67, 84, 73, 79, 78], [123, 36, 36, 61, 112, 117, 115, 104, 40, 36, 49, 44, 91, 34, 97, 99, 116, 34, 44, 36, 50, 93, 41, 125]), ([66, 65, 82], [124]), ([78, 65, 77, 69], [112, 97, 114, 116, 115]), ([78, 65, 77, 69], [69, 77, 80, 84, 89]), ([65, 67, 84, 73, 79, 78], [123, 36, 36, 61, 112, 117, 115, 104, 40, 36, 49, 44, 91, 34, 101, 109, 112, 116, 121, 34, 44, 34, 34, 93, 41, 125]), ([36, 101, 110, 100], [])]
theorem Al.add {P : Nat → Prop} (N : Nat) (h : ∀ m, P (m + N)) : Al P := ⟨N, fun m hm => Nat.sub_add_cancel hm ▸ h (m - N)⟩
noncomputable def pv (o : Option (V × Hp)) : V := match o with
  | some r => r.1
  | none => .none
noncomputable def ph (o : Option (V × Hp)) : Hp := match o with
  | some r => r.2
  | none => hN
noncomputable def px3 (o : Option (Fl × Fm × Hp)) : Fm × Hp := match o with
  | some r => r.2
  | none => (⟨[], []⟩, hN)
section
variable (F : S → Option V) (us : List V) (pos : Nat → V) (ln : Nat → Nat)
noncomputable def rH2 : Hp := (hN.push (.cell none)).push (.list us)
noncomputable def rH3 : Hp := newH (rH2 us) 731 [(121, .rol (genV pos ln baseL)), (6, .int 0)]
noncomputable def r4 (m : Nat) : Option (V × Hp) := (run (tb (orcR F) rawN) m).cl 47 700 [.ref 3] (rH3 us pos ln)
theorem r4_ok : RCl (tb (orcR F) rawN) 47 700 [.ref 3] (rH3 us pos ln) (pv (r4 F us pos ln 600)) (ph (r4 F us pos ln 600)) := Al.add 600 fun m => by
  show r4 F us pos ln (m + 600) = _
  kernel_rfl
noncomputable def r5 (m : Nat) : Option (V × Hp) := (run (tb (orcR F) rawN) m).cl 48 761 [pv (r4 F us pos ln 600)] (ph (r4 F us pos ln 600))
theorem r5_ok : RCl (tb (orcR F) rawN) 48 761 [pv (r4 F us pos ln 600)] (ph (r4 F us pos ln 600)) (pv (r5 F us pos ln 600)) (ph (r5 F us pos ln 600)) := Al.add 600 fun m => by
  show r5 F us pos ln (m + 600) = _
  kernel_rfl
variable (xs : List Int) (tab : Int → Int → Option Int) (a : Int)
noncomputable def rF6 : Fm := ⟨[(18, .row ⟨xs, tab⟩), (151, .ref 1), (6, .int a), (156, pv (r5 F us pos ln 600))], [(49, 0)]⟩
noncomputable def r6 (m : Nat) : Option (Fl × Fm × Hp) := (run (tb (orcR F) rawN) m).ex 49 (rF6 F us pos ln xs tab a) (ph (r5 F us pos ln 600)) (b830.drop 4)
theorem r6_ok : REx (tb (orcR F) rawN) 49 (rF6 F us pos ln xs tab a) (ph (r5 F us pos ln 600)) (b830.drop 4) (.ret (.bool true)) (px3 (r6 F us pos ln xs tab a 600)).1 (px3 (r6 F us pos ln xs tab a 600)).2 := Al.add 600 fun m => by
  show r6 F us pos ln xs tab a (m + 600) = _
  kernel_rfl
theorem orc_px {B : Tb} {d f : Nat} {args : List V} {h h' : Hp} {v : V} (e : B.orc d f args h = some (v, h')) : RCl B d f args h v h' := (Al.of fun _ => trivial).up fun n _ => by
  show clStep B (run B n) d f args h = _
  unfold clStep
  rw [e]
end
end
section
section
variable {F : S → Option V} {us : List V} {pos : Nat → V} {ln : Nat → Nat} {t : S} (hF : F t = some (.rol (genV pos ln baseL)))
include hF
theorem read768 : RCl (tb (orcR F) rawN) 49 768 [.str t] (rH2 us) (pv (r5 F us pos ln 600)) (ph (r5 F us pos ln 600)) := by
  have S : RCl (tb (orcR F) rawN) 47 627 [.str t] (rH2 us) (.rol (genV pos ln baseL)) (rH2 us) := orc_px (by
    show bo (F t) _ = _
    rw [hF]
    rfl)
  have C : RCl (tb (orcR F) rawN) 47 731 [.rol (genV pos ln baseL)] (rH2 us) (.ref 3) (rH3 us pos ln) := cls_px (h := rH2 us) (show 2 + 2 ≤ 1000000 by decide) rfl rfl rfl rfl (cl_px (fn := ⟨[0, 121], [], [], b672⟩) rfl rfl (k := 20) (A := [.a, .a]) (by kernel_rfl) trivial)
  have T : RCl (tb (orcR F) rawN) 48 742 [.str t] (rH2 us) (pv (r4 F us pos ln 600)) (ph (r4 F us pos ln 600)) := cl_px (fn := ⟨[5], [], [], b742⟩) rfl rfl (k := 20) (A := [.c (.rol (genV pos ln baseL)) (rH2 us), .c (.ref 3) (rH3 us pos ln), .a, .c (pv (r4 F us pos ln 600)) (ph (r4 F us pos ln 600))]) (by kernel_rfl) (U3 (r4_ok F us pos ln) C S)
  exact cl_px (fn := ⟨[5], [], [], b768⟩) rfl rfl (k := 20) (A := [.c (pv (r4 F us pos ln 600)) (ph (r4 F us pos ln 600)), .c (pv (r5 F us pos ln 600)) (ph (r5 F us pos ln 600))]) (by kernel_rfl) (U2 (r5_ok F us pos ln) T)
end
noncomputable def scanF (pos : Nat → V) (ln : Nat → Nat) (i : Nat × Nat) (s : S) : Option V := match seqB s (textOf i) with
  | true => some (.rol (genV pos ln baseL))
  | false => none
noncomputable def rdTab (i : Nat × Nat) : List (Nat × Nat × Int) := [(0, 14, i.1), (1, 5, i.2)]
theorem strsOf_map : ∀ l : List S, strsOf (l.map .str) = some l
  | [] => rfl
  | s :: r => by
    show (match strsOf (r.map .str) with | some l => some (s :: l) | none => none) = _
    rw [strsOf_map r]
theorem setN_map : ∀ (l : List S) (k : Nat) (s : S), setN (l.map .str) k (.str s) = (setS l k s).map .str
  | [], _, _ => rfl
  | x :: r, 0, s => rfl
  | x :: r, k + 1, s => congrArg (V.str x :: ·) (setN_map r k s)
theorem nth_mapS : ∀ {l : List S} {j : Nat}, j < l.length → nth (l.map .str) j = some (.str (l.getD j []))
  | [], j, h => absurd h (Nat.not_lt_zero j)
  | y :: r, 0, _ => rfl
  | y :: r, j + 1, h => nth_mapS (l := r) (Nat.lt_of_succ_lt_succ h)
noncomputable def idx2 (a b : Nat) : List (Nat × Nat) := (List.range a).flatMap fun s => (List.range b).map fun w => (s, w)
theorem idx2_mem {a b s w : Nat} (h1 : s < a) (h2 : w < b) : (s, w) ∈ idx2 a b := List.mem_flatMap.mpr ⟨s, List.mem_range.mpr h1, List.mem_map.mpr ⟨w, List.mem_range.mpr h2, rfl⟩⟩
noncomputable def lines2 (i : Nat × Nat) : List S := setS linesL i.1 (linesL.getD i.1 [] ++ gapsL.getD i.2 [])
noncomputable def lenOk (i : Nat × Nat) : Bool := Nat.blt ((lines2 i).map List.length).sum 90000 && Nat.blt (textOf i).length 90000 && Nat.blt (lines2 i).length 100 && Nat.blt ((linesL.getD i.1 []).length + (gapsL.getD i.2 []).length) 90000
theorem len_all : (idx2 14 5).all lenOk = true := by decide +kernel
theorem scan_all : mapA (fun i => scanS 60 300 (textOf i) 0) (idx2 14 5) = (idx2 14 5).map fun _ => some baseL := by kernel_rfl
end
section
theorem linesL_len : linesL.length = 14 := by decide +kernel
theorem read_run (xs : List Int) (pos : Nat → V) (ln : Nat → Nat) {i : Nat × Nat} (ha : i.1 < 14) (hg : i.2 < 5) (hl : lenOk i = true) : ∃ h', RCl (tb (orcR (scanF pos ln i)) rawN) 50 830 [.row ⟨xs, tabL (rdTab i)⟩] hN (.bool true) h' := by
  obtain ⟨hl, l4⟩ := Bool.and_eq_true_iff.mp hl
  obtain ⟨hl, l3⟩ := Bool.and_eq_true_iff.mp hl
  obtain ⟨l1, l2⟩ := Bool.and_eq_true_iff.mp hl
  have hF : scanF pos ln i (textOf i) = some (.rol (genV pos ln baseL)) := by
    unfold scanF
    rw [seqB_iff.mpr rfl]
  have hla : i.1 < linesL.length := linesL_len ▸ ha
  have hll : (linesL.map V.str).length = 14 := (List.length_map ..).trans linesL_len
  have P1 : RCl (tb (orcR (scanF pos ln i)) rawN) 49 825 [.row ⟨xs, tabL (rdTab i)⟩, .int 0, .int 14] (rH2 (linesL.map .str)) (.int i.1) (rH2 (linesL.map .str)) := orc_px rfl
  have P2 : RCl (tb (orcR (scanF pos ln i)) rawN) 49 825 [.row ⟨xs, tabL (rdTab i)⟩, .int 1, .int 5] (rH2 (linesL.map .str)) (.int i.2) (rH2 (linesL.map .str)) := orc_px rfl
  have S1 := sub_seq (B := tb (orcR (scanF pos ln i)) rawN) (h := rH2 (linesL.map .str)) (v := .ref 1) (vs := linesL.map .str) rfl (hll ▸ by decide) (nth_mapS hla) (hll ▸ ha)
  have S2 := sub_seq (B := tb (orcR (scanF pos ln i)) rawN) (h := rH2 (linesL.map .str)) (v := .tup (gapsL.map .str)) (vs := gapsL.map .str) rfl (show 5 < 100000 by decide) (nth_mapS (l := gapsL) hg) hg
  have C := cat_str (rH2 (linesL.map .str)) (a := linesL.getD i.1 []) (b := gapsL.getD i.2 []) (Nat.lt_trans (Nat.blt_eq.mp l4) (by decide))
  have W : putS ⟨[(18, .row ⟨xs, tabL (rdTab i)⟩), (151, .ref 1), (6, .int i.1)], [(49, 0)]⟩ (rH2 (linesL.map .str)) (.ref 1) (.int i.1) (.str (linesL.getD i.1 [] ++ gapsL.getD i.2 [])) = some (⟨[(18, .row ⟨xs, tabL (rdTab i)⟩), (151, .ref 1), (6, .int i.1)], [(49, 0)]⟩, rH2 ((lines2 i).map .str)) := by
    show (match place (linesL.map V.str).length (i.1 : Int) with | some p => some (_, (rH2 (linesL.map .str)).set 1 (.list (setN (linesL.map .str) p (.str _)))) | none => none) = _
    rw [place_nat (hll ▸ ha) (hll ▸ by decide)]
    dsimp only
    rw [setN_map]
    rfl
  have J : m0 (rH2 ((lines2 i).map .str)) (.str [10]) 36 [.ref 1] = some (.str (textOf i), rH2 ((lines2 i).map .str)) := by
    show (match strsOf ((lines2 i).map .str) with | some l => (match short (l.map List.length).sum && (short l.length && Nat.blt [10].length 16) with | true => some (V.str (joinL [10] l), _) | false => none) | none => none) = _
    rw [strsOf_map]
    dsimp only
    rw [short_of_lt (Nat.lt_trans (Nat.blt_eq.mp l1) (by decide)), short_of_lt (Nat.lt_trans (Nat.blt_eq.mp l3) (by decide))]
    rfl
  have R := read768 hF (us := (lines2 i).map .str)
  have Q := r6_ok (scanF pos ln i) ((lines2 i).map .str) pos ln xs (tabL (rdTab i)) i.1
  generalize (px3 (r6 (scanF pos ln i) ((lines2 i).map .str) pos ln xs (tabL (rdTab i)) i.1 600)).2 = h6 at *
  generalize (px3 (r6 (scanF pos ln i) ((lines2 i).map .str) pos ln xs (tabL (rdTab i)) i.1 600)).1 = fm6 at *
  unfold rF6 at Q
  generalize pv (r5 (scanF pos ln i) ((lines2 i).map .str) pos ln 600) = v5 at *
  generalize ph (r5 (scanF pos ln i) ((lines2 i).map .str) pos ln 600) = h5 at *
  generalize (lines2 i).map V.str = us at *
  generalize textOf i = t at *
  exact ⟨h6, cl_px (fn := ⟨[18], [49], [], b830⟩) rfl rfl (k := 20) (A := [.a, .a, .a, .c (.int i.1) (rH2 (linesL.map .str)), .v (.str (linesL.getD i.1 [])), .c (.int i.2) (rH2 (linesL.map .str)), .v (.str (gapsL.getD i.2 [])), .c (.str (linesL.getD i.1 [] ++ gapsL.getD i.2 [])) (rH2 (linesL.map .str)), .s ⟨[(18, .row ⟨xs, tabL (rdTab i)⟩), (151, .ref 1), (6, .int i.1)], [(49, 0)]⟩ (rH2 us), .a, .c (.str t) (rH2 us), .c v5 h5, .x (.ret (.bool true)) fm6 h6]) (by kernel_rfl) (U9 Q R J W C S2 P2 S1 P1)⟩
theorem does830 {prog : Program} {K : World → Frag} {xs : List Int} (h : goodRow xs = true) : Does prog K 830 xs := by
  obtain ⟨a, ea, ha⟩ := pick_nat xs 0 (m := 14) (by decide)
  obtain ⟨g, eg, hg⟩ := pick_nat xs 1 (m := 5) (by decide)
  have hi := idx2_mem ha hg
  have hl := List.all_eq_true.mp len_all _ hi
  obtain ⟨h1, pos, ln, R, Z⟩ := scan_run 0 60 300 (Nat.lt_trans (Nat.blt_eq.mp (Bool.and_eq_true_iff.mp (Bool.and_eq_true_iff.mp (Bool.and_eq_true_iff.mp hl).1).1).2) (by decide)) (by decide) (mapA_eq scan_all _ hi)
  obtain ⟨h', Q⟩ := read_run xs pos ln (i := (a, g)) ha hg hl
  have T : okT xs (rdTab (a, g)) := ⟨ea.symm, eg.symm, trivial⟩
  refine ⟨orcR (scanF pos ln (a, g)), h', _, goodR prog K fun s u e => ?_, rowOk_tab h fun a m v => tabL_ok rfl T, Q.get⟩
  set_option smartUnfolding false in refine obt (b := seqB s (textOf (a, g))) e fun b e => ?_
  rw [seqB_iff.mp b]
  exact ⟨_, h1, R, Option.some.inj e ▸ Z⟩
end
section
noncomputable abbrev C2 : List (Nat × Nat) := [(18, 0), (163, 1)]
structure Ex (X : Nat → Prop) (c : Nat) (h h' : Hp) : Prop where
  le : h.n ≤ h'.n
  lt : h'.n ≤ h.n + c
  keep : ∀ i, i < h.n → ¬ X i → h'.get i = h.get i
noncomputable abbrev X0 : Nat → Prop := fun _ => False
noncomputable abbrev X1 (R : Nat) : Nat → Prop := fun i => i = R
section
variable {X Y : Nat → Prop} {a b N : Nat} {h h1 h2 : Hp}
theorem Ex.refl (X : Nat → Prop) (h : Hp) : Ex X 0 h h := ⟨Nat.le_refl _, Nat.le_refl _, fun _ _ _ => rfl⟩
theorem Ex.trans (x : Ex X a h h1) (y : Ex X b h1 h2) : Ex X (a + b) h h2 := ⟨Nat.le_trans x.le y.le, Nat.le_trans y.lt (Nat.le_trans (Nat.add_le_add_right x.lt b) (Nat.le_of_eq (Nat.add_assoc ..))), fun i hi n => (y.keep i (Nat.lt_of_lt_of_le hi x.le) n).trans (x.keep i hi n)⟩
theorem Ex.up (x : Ex X a h h1) (hab : a ≤ b) (k : ∀ i, i < h.n → X i → Y i) : Ex Y b h h1 := ⟨x.le, Nat.le_trans x.lt (Nat.add_le_add_left hab _), fun i hi n => x.keep i hi fun q => n (k i hi q)⟩
theorem Ex.wide (x : Ex X a h h1) (hab : a ≤ b) : Ex X b h h1 := x.up hab fun _ _ => id
theorem Ex.of0 (x : Ex X0 a h h1) : Ex X a h h1 := x.up (Nat.le_refl _) fun _ _ => False.elim
theorem Ex.cap (x : Ex X a h h1) (hn : h.n ≤ N) : h1.n ≤ N + a := Nat.le_trans x.lt (Nat.add_le_add_right hn a)
theorem Ex.push (X : Nat → Prop) {h : Hp} (o : O) (hn : h.n < 1000000) : Ex X 1 h (h.push o) := ⟨Nat.le_succ _, Nat.le_refl _, fun _ hi _ => get_push_ne o hn hi⟩
theorem Ex.set {h : Hp} {R : Nat} (o : O) (hR : R < 1000000) (hn : h.n ≤ 1000000) : Ex (X1 R) 0 h (h.set R o) := ⟨Nat.le_refl _, Nat.le_refl _, fun i hi n => Hp.get_ne o hR (Nat.lt_of_lt_of_le hi hn) fun q => n q.symm⟩
noncomputable def LAt (h : Hp) (i : Nat) (vs : List V) : Prop := i < h.n ∧ h.get i = some (.list vs)
theorem LAt.ex {i : Nat} {vs : List V} (y : LAt h i vs) (x : Ex X a h h1) (n : ¬ X i) : LAt h1 i vs := ⟨Nat.lt_of_lt_of_le y.1 x.le, (x.keep i y.1 n).trans y.2⟩
theorem LAt.items {i : Nat} {vs : List V} (y : LAt h i vs) : itemsOf h (.ref i) = some vs := by
  show (match h.get i with | some (.list vs) => some vs | _ => none) = _
  rw [y.2]
theorem LAt.push {vs : List V} (hn : h.n < 1000000) : LAt (h.push (.list vs)) h.n vs := ⟨Nat.lt_succ_self _, get_push _ hn⟩
end
theorem gs {L : List (Nat × V)} {x y : Nat} {u : V} {o : Option V} (g : getL L x = o) (n : Nat.beq y x = false) : getL (setL L y u) x = o := by
  rw [getL_setL, n]
  exact g
theorem gs0 {L : List (Nat × V)} {y : Nat} {u : V} : getL (setL L y u) y = some u := by
  rw [getL_setL, Nat.beq_refl]
theorem evL {B : Tb} {d x : Nat} {L : List (Nat × V)} {C : List (Nat × Nat)} {h : Hp} {v : V} (g : getL L x = some v) : REv B d ⟨L, C⟩ h (.loc x) v h := (Al.of fun _ => trivial).up fun n _ => by
  rw [x_loc]
  show (match getL L x with | some v => some (v, h) | none => none) = _
  rw [g]
noncomputable def rowC (xs : List Int) : O := .cell (some (.row ⟨xs, tabOf xs⟩))
section
variable {xs : List Int} {d : Nat} {L : List (Nat × V)} {h : Hp} (g0 : h.get 0 = some (rowC xs))
include g0
theorem cel0 : celOf h 0 = some (.row ⟨xs, tabOf xs⟩) := by
  show (match h.get 0 with | some (.cell (some v)) => some v | _ => none) = _
  rw [g0]
  rfl
omit g0
theorem draw (xs : List Int) (d : Nat) (h : Hp) {a : Nat} (ha : a < 1000) {m : Nat} (m0 : 0 < m) (hm : m < 1000) : ∃ p : Nat, p < m ∧ RCl BP (d + 1) 825 [.row ⟨xs, tabOf xs⟩, .int a, .int m] h (.int p) h := by
  obtain ⟨p, e1, hp⟩ := pick_nat xs a m0
  exact ⟨p, hp, orc_px (by
    show bo (tabOf xs a m) _ = _
    rw [tabOf_at (Int.natCast_nonneg _) (Int.ofNat_lt.mpr ha) (Int.ofNat_lt.mpr m0) (Int.ofNat_lt.mpr hm), e1]
    rfl)⟩
end
end
section
theorem U15 {a b c d e f g h i j k l m n o : Prop} (xa : a) (xb : b) (xc : c) (xd : d) (xe : e) (xf : f) (xg : g) (xh : h) (xi : i) (xj : j) (xk : k) (xl : l) (xm : m) (xn : n) (xo : o) : a ∧ b ∧ c ∧ d ∧ e ∧ f ∧ g ∧ h ∧ i ∧ j ∧ k ∧ l ∧ m ∧ n ∧ o ∧ True := ⟨xa, xb, xc, xd, xe, xf, xg, xh, xi, xj, xk, xl, xm, xn, xo, trivial⟩
theorem app {B : Tb} {h : Hp} {P : Nat} {ps : List V} (y : LAt h P ps) (hl : ps.length < 100000) (v : V) : methOf B h (.ref P) 38 = some none ∧ m0 h (.ref P) 38 [v] = some (.none, h.set P (.list (ps ++ [v]))) := by
  constructor
  · show (match h.get P with | some o => _ | none => none) = _
    rw [y.2]
  · unfold m0
    dsimp only
    rw [y.2]
    show (match short ps.length with | true => some (V.none, h.set P (.list (ps ++ [v]))) | false => none) = _
    rw [short_of_lt hl]
theorem rng_in (h : Hp) {N j : Nat} (hj : j < N) : itGet h (.rng 0 N) j = some (some (.int j)) := by
  show (match decide ((0 : Int) + (j : Int) < (N : Int)) with | true => some (some (V.int (0 + (j : Int)))) | false => some none) = _
  rw [Int.zero_add, decide_eq_true (Int.ofNat_lt.mpr hj)]
theorem rng_out (h : Hp) (N : Nat) : itGet h (.rng 0 N) N = some none := by
  show (match decide ((0 : Int) + (N : Int) < (N : Int)) with | true => some (some (V.int (0 + (N : Int)))) | false => some none) = _
  rw [Int.zero_add, decide_eq_false (Int.lt_irrefl _)]
theorem rng_can {h : Hp} {N : Nat} (hN : N < 1000000) : isED h (.rng 0 N) = false ∧ canIter h (.rng 0 N) = true := by
  refine ⟨rfl, ?_⟩
  unfold canIter
  cases N with
  | zero => rfl
  | succ n =>
    rw [rng_in h (Nat.succ_pos n)]
    show (decide ((0 : Int) ≤ ((n + 1 : Nat) : Int)) && (small 0 && small ((n + 1 : Nat) : Int))) = true
    rw [decide_eq_true (Int.natCast_nonneg _), small_of (Int.natCast_nonneg _) (Int.lt_trans (Int.ofNat_lt.mpr hN) (by decide))]
    rfl
theorem fo_app {B : Tb} {d N R c M : Nat} {b : List St} {t : Tgt} {Ok : V → Prop} {X : Nat → Prop} {Inv : List (Nat × V) → Hp → Prop}
    (step : ∀ (j : Nat) (L : List (Nat × V)) (h : Hp) (vs : List V), j < N → Inv L h → LAt h R vs → vs.length = j → h.n ≤ M → ∃ L1 h1 L' h' v, (∀ n, asg B (run B n) d ⟨L, C2⟩ h t (.int j) = some (⟨L1, C2⟩, h1)) ∧ REx B d ⟨L1, C2⟩ h1 b .next ⟨L', C2⟩ h' ∧ Inv L' h' ∧ LAt h' R (vs ++ [v]) ∧ Ok v ∧ Ex X c h h') :
    ∀ (k j : Nat) (L : List (Nat × V)) (h : Hp) (vs : List V), j + k = N → Inv L h → LAt h R vs → vs.length = j → (∀ v, v ∈ vs → Ok v) → h.n + c * k ≤ M → ∃ L' h' us, RFo B d ⟨L, C2⟩ h t (.rng 0 N) j b .next ⟨L', C2⟩ h' ∧ Inv L' h' ∧ LAt h' R us ∧ us.length = N ∧ (∀ v, v ∈ us → Ok v) ∧ Ex X (c * k) h h'
  | 0, j, L, h, vs, e, i, y, hl, ok, _ => by
    have e : j = N := e
    subst e
    exact ⟨L, h, vs, fo_end (rng_out h j), i, y, hl, ok, Ex.refl X h⟩
  | k + 1, j, L, h, vs, e, i, y, hl, ok, hM => by
    have hj : j < N := e ▸ Nat.lt_add_of_pos_right (Nat.succ_pos k)
    obtain ⟨L1, h1, L2, h2, v, a, r, i2, y2, ov, x⟩ := step j L h vs hj i y hl (Nat.le_trans (Nat.le_add_right ..) hM)
    have hc : c + c * k = c * (k + 1) := Nat.add_comm ..
    obtain ⟨L3, h3, us, r3, i3, y3, l3, ok3, x3⟩ := fo_app step k (j + 1) L2 h2 (vs ++ [v]) ((Nat.add_right_comm j 1 k).trans e) i2 y2 (by rw [List.length_append, hl]; rfl) (fun u hu => (List.mem_append.mp hu).elim (ok u) fun hu => List.mem_singleton.mp hu ▸ ov) (Nat.le_trans (Nat.add_le_add_right x.lt _) (by rw [Nat.add_assoc, hc]; exact hM))
    exact ⟨L3, h3, us, fo_next (rng_in h hj) a r r3, i3, y3, l3, ok3, hc ▸ x.trans x3⟩
theorem pickS {l : List S} (ho : l.all okS = true) {p : Nat} (hp : p < l.length) : ∃ s, nth (l.map .str) p = some (.str s) ∧ okS s = true :=
  ⟨l.getD p [], nth_mapS hp, List.all_eq_true.mp ho _ (by rw [List.getD_eq_getElem?_getD, List.getElem?_eq_getElem hp]; exact List.getElem_mem hp)⟩
theorem mul_n (h : Hp) {a b : Nat} (ha : a < 1000) (hb : b < 1000) : binop h .Mult (.int a) (.int b) = some (.int (a * b : Nat), h) := bin_mul h (small_of (Int.natCast_nonneg _) (Int.lt_trans (Int.ofNat_lt.mpr ha) (by decide))) (small_of (Int.natCast_nonneg _) (Int.lt_trans (Int.ofNat_lt.mpr hb) (by decide)))
noncomputable def partOk (v : V) : Prop := ∃ a b, v = .tup [.str a, .str b] ∧ okS a = true ∧ okS b = true
noncomputable def partB : List St := [.asg (.loc 167) (.sub (.lst [.cs [115, 121, 109], .cs [97, 99, 116], .cs [101, 109, 112, 116, 121]]) (.call 154 [.cel 18, .bin .Add (.bin .Add (.loc 28) (.ci 1)) (.bin .Mult (.ci 2) (.loc 166)), .ci 3])), .expr (.mcall (.loc 75) 38 [.tpl [.loc 167, .ite (.cmp .Eq (.loc 167) (.cs [101, 109, 112, 116, 121])) (.cs []) (.sub (.glob 168) (.call 154 [.cel 18, .bin .Add (.bin .Add (.loc 28) (.ci 2)) (.bin .Mult (.ci 2) (.loc 166)), .ci 4]))]])]
noncomputable def sortsL : List S := [[115, 121, 109], [97, 99, 116], [101, 109, 112, 116, 121]]
noncomputable def names168 : List S := [[97], [39, 43, 39], [116, 111, 107, 95, 49], [115]]
theorem Ex.app {h h1 : Hp} {P c : Nat} (x : Ex (X1 P) c h h1) (hP : P < 1000000) (o : O) (hn : h1.n ≤ 1000000) : Ex (X1 P) c h (h1.set P o) := x.trans (Ex.set o hP hn)
theorem LAt.set {h : Hp} {P : Nat} {ps us : List V} (y : LAt h P ps) : LAt (h.set P (.list us)) P us := ⟨y.1, Hp.get_same h P _⟩
section
variable {xs : List Int} (d : Nat) {L : List (Nat × V)} {h : Hp}
theorem part_ix {b m : Nat} (c : Nat) (l28 : getL L 28 = some (.int b)) (l166 : getL L 166 = some (.int m)) (hm : m < 10) : REv BP (d + 1) ⟨L, C2⟩ h (.bin .Add (.bin .Add (.loc 28) (.ci c)) (.bin .Mult (.ci 2) (.loc 166))) (.int (b + c + 2 * m : Nat)) h :=
  ev_px (k := 9) (A := [.l (.int b), .a, .l (.int m), .c (.int (2 * m : Nat)) h, .a]) (by kernel_rfl) (U3 (mul_n h (a := 2) (by decide) (Nat.lt_trans hm (by decide))) l166 l28)
theorem part_step {b m P : Nat} {ps : List V} (g0 : h.get 0 = some (rowC xs)) (l28 : getL L 28 = some (.int b)) (l166 : getL L 166 = some (.int m)) (l75 : getL L 75 = some (.ref P)) (y : LAt h P ps) (hb : b < 500) (hm : m < 10) (hps : ps.length < 100) (hn : h.n < 1000000) (hP : 0 < P) :
    ∃ s h' v, REx BP (d + 1) ⟨L, C2⟩ h partB .next ⟨setL L 167 (.str s), C2⟩ h' ∧ h'.get 0 = some (rowC xs) ∧ LAt h' P (ps ++ [v]) ∧ partOk v ∧ Ex (X1 P) 1 h h' := by
  have N := newList_push (h := h) (vs := sortsL.map .str) (by decide) hn
  have x0 := Ex.push (X1 P) (.list (sortsL.map .str)) hn
  have y1 := y.ex (Ex.push X0 (.list (sortsL.map .str)) hn) id
  have g1 : (h.push (.list (sortsL.map .str))).get 0 = some (rowC xs) := (get_push_ne _ hn (Nat.lt_trans hP y.1)).trans g0
  have I := LAt.items (LAt.push (h := h) (vs := sortsL.map .str) hn)
  have hn1 : (h.push (.list (sortsL.map .str))).n ≤ 1000000 := hn
  generalize h.push (.list (sortsL.map .str)) = h1 at *
  obtain ⟨p, hp, D1⟩ := draw xs d h1 (a := b + 1 + 2 * m) (by lia) (m := 3) (by decide) (by decide)
  have G := cel0 g1
  have I1 := part_ix d (h := h1) 1 l28 l166 hm
  obtain ⟨s, hs, os⟩ := pickS (l := sortsL) (by decide) hp
  have S1 := sub_seq (B := BP) I (by decide) hs hp
  obtain ⟨q, hq, D2⟩ := draw xs d h1 (a := b + 2 + 2 * m) (by lia) (m := 4) (by decide) (by decide)
  have I2 := part_ix d (h := h1) 2 (gs (y := 167) (u := .str s) l28 rfl) (gs l166 rfl) hm
  obtain ⟨z, hz, oz⟩ := pickS (l := names168) (by decide) hq
  have S2 := sub_seq (B := BP) (h := h1) (v := .tup (names168.map .str)) rfl (by decide) hz hq
  have fin : ∀ v, partOk v → REx BP (d + 1) ⟨L, C2⟩ h partB .next ⟨setL L 167 (.str s), C2⟩ (h1.set P (.list (ps ++ [v]))) → ∃ s h' v, REx BP (d + 1) ⟨L, C2⟩ h partB .next ⟨setL L 167 (.str s), C2⟩ h' ∧ h'.get 0 = some (rowC xs) ∧ LAt h' P (ps ++ [v]) ∧ partOk v ∧ Ex (X1 P) 1 h h' := fun v ov r => ⟨s, _, v, r, (Hp.get_ne (h := h1) _ (Nat.lt_trans y.1 hn) (by decide) (Nat.ne_of_gt hP)).trans g1, y1.set, ov, x0.app (Nat.lt_trans y.1 hn) _ hn1⟩
  have l167 : getL (setL L 167 (.str s)) 167 = some (.str s) := gs0
  have l75 : getL (setL L 167 (.str s)) 75 = some (.ref P) := gs l75 rfl
  cases t : seqB s [101, 109, 112, 116, 121] with
  | true =>
    obtain ⟨M, A⟩ := app (B := BP) y1 (Nat.lt_trans hps (by decide)) (.tup [.str s, .str []])
    exact fin _ ⟨s, [], rfl, os, rfl⟩ (ex_px (k := 9) (A := [.c (.ref h.n) h1, .v (.row ⟨xs, tabOf xs⟩), .e (.int (b + 1 + 2 * m : Nat)) h1, .c (.int p) h1, .v (.str s), .l (.ref P), .m none, .l (.str s), .l (.str s), .b true, .c .none (h1.set P (.list (ps ++ [.tup [.str s, .str []]])))]) (by kernel_rfl) (U11 A (c_eq t) l167 l167 M l75 S1 D1 I1 G N))
  | false =>
    obtain ⟨M, A⟩ := app (B := BP) y1 (Nat.lt_trans hps (by decide)) (.tup [.str s, .str z])
    exact fin _ ⟨s, z, rfl, os, oz⟩ (ex_px (k := 9) (A := [.c (.ref h.n) h1, .v (.row ⟨xs, tabOf xs⟩), .e (.int (b + 1 + 2 * m : Nat)) h1, .c (.int p) h1, .v (.str s), .l (.ref P), .m none, .l (.str s), .l (.str s), .b false, .v (.row ⟨xs, tabOf xs⟩), .e (.int (b + 2 + 2 * m : Nat)) h1, .c (.int q) h1, .v (.str z), .c .none (h1.set P (.list (ps ++ [.tup [.str s, .str z]])))]) (by kernel_rfl) (U15 A S2 D2 I2 G (c_eq t) l167 l167 M l75 S1 D1 I1 G N))
end
end
section
noncomputable def KL (X : List Nat) (L L' : List (Nat × V)) : Prop := ∀ z o, memN X z = false → getL L z = o → getL L' z = o
theorem KL.refl (X : List Nat) (L : List (Nat × V)) : KL X L L := fun _ _ _ g => g
theorem KL.set {X : List Nat} {L L' : List (Nat × V)} (x : KL X L L') {y : Nat} (v : V) (hy : memN X y = true) : KL X L (setL L' y v) := fun z o n g => gs (x z o n g) (by
  cases q : Nat.beq y z with
  | false => rfl
  | true => rw [← Nat.eq_of_beq_eq_true q, hy] at n; cases n)
theorem KL.up {X Y : List Nat} {L L' : List (Nat × V)} (x : KL X L L') (h : ∀ z, memN Y z = false → memN X z = false) : KL Y L L' := fun z o n g => x z o (h z n) g
theorem memN_app {Y : List Nat} {z : Nat} : ∀ {X : List Nat}, memN (X ++ Y) z = false → memN X z = false
  | [], _ => rfl
  | x :: X, h => by
    show (match Nat.beq x z with | true => true | false => memN X z) = false
    change (match Nat.beq x z with | true => true | false => memN (X ++ Y) z) = false at h
    cases q : Nat.beq x z with
    | true => rw [q] at h; cases h
    | false => rw [q] at h; exact memN_app h
theorem KL.trans {X : List Nat} {L L1 L2 : List (Nat × V)} (x : KL X L L1) (y : KL X L1 L2) : KL X L L2 := fun z o n g => y z o n (x z o n g)
theorem KL.wide {X : List Nat} (Y : List Nat) {L L1 : List (Nat × V)} (x : KL X L L1) : KL (X ++ Y) L L1 := x.up fun _ => memN_app
theorem cn {a b : Prop} (x : a) (y : b) : a ∧ b := ⟨x, y⟩
section
variable {xs : List Int} (d : Nat) {L : List (Nat × V)} {h : Hp}
theorem range_ok (h : Hp) {p : Nat} (hp : p < 100000) : callT h 0 [.int p] = some (.rng 0 p, h) := by
  show (match short p with | true => some (V.rng 0 (p : Int), h) | false => none) = _
  rw [short_of_lt hp]
theorem tuple_ok {i : Nat} {us : List V} (y : LAt h i us) (hl : us.length < 100000) : callT h 4 [.ref i] = some (.tup us, h) := by
  show (match itemsOf h (.ref i) with | some vs => (match short vs.length with | true => some (V.tup vs, h) | false => none) | none => none) = _
  rw [y.items]
  dsimp only
  rw [short_of_lt hl]
theorem part_loop {b P N : Nat} (g0 : h.get 0 = some (rowC xs)) (l28 : getL L 28 = some (.int b)) (l75 : getL L 75 = some (.ref P)) (y : LAt h P []) (hb : b < 500) (hN : N ≤ 2) (hn : h.n ≤ 900000) (hP : 0 < P) :
    ∃ L' h' ps, RFo BP (d + 1) ⟨L, C2⟩ h (.loc 166) (.rng 0 N) 0 partB .next ⟨L', C2⟩ h' ∧ (h'.get 0 = some (rowC xs) ∧ KL [166, 167] L L') ∧ LAt h' P ps ∧ ps.length = N ∧ (∀ v, v ∈ ps → partOk v) ∧ Ex (X1 P) (1 * N) h h' :=
  fo_app (M := 900010) (Inv := fun L' h' => h'.get 0 = some (rowC xs) ∧ KL [166, 167] L L') (fun j L1 h1 vs hj i y hl hn => by
    obtain ⟨s, h', v, r, g, y', ov, x⟩ := part_step d (L := setL L1 166 (.int j)) (m := j) i.1 (gs (i.2 28 _ rfl l28) rfl) gs0 (gs (i.2 75 _ rfl l75) rfl) y hb (Nat.lt_of_lt_of_le hj (Nat.le_trans hN (by decide))) (hl ▸ Nat.lt_of_lt_of_le hj (Nat.le_trans hN (by decide))) (Nat.lt_of_le_of_lt hn (by decide)) hP
    exact ⟨_, _, _, h', v, fun _ => rfl, r, ⟨g, (i.2.set _ rfl).set _ rfl⟩, y', ov, x⟩) N 0 L h [] (Nat.zero_add N) ⟨g0, KL.refl _ L⟩ y rfl (fun _ hv => nomatch hv) (by lia)
end
end
section
noncomputable def altOk (v : V) : Prop := ∃ ps e, v = .tup [.tup ps, .str e] ∧ okS e = true ∧ (∀ p, p ∈ ps → partOk p) ∧ ps.length ≤ 2
noncomputable def altB : List St := [.asg (.loc 28) (.bin .Add (.bin .Add (.ci 16) (.bin .Mult (.ci 9) (.cel 163))) (.bin .Mult (.ci 18) (.loc 164))), .asg (.loc 75) (.lst []), .fors (.loc 166) (.call 74 [.call 154 [.cel 18, .loc 28, .ci 3]]) partB, .expr (.mcall (.loc 119) 38 [.tpl [.call 89 [.loc 75], .sub (.lst [.cs [], .cs [97], .cs [39, 43, 39]]) (.call 154 [.cel 18, .bin .Add (.loc 28) (.ci 7), .ci 3])]])]
noncomputable def precsL : List S := [[], [97], [39, 43, 39]]
noncomputable def intC (k : Nat) : O := .cell (some (.int k))
section
variable {xs : List Int} (d : Nat) {L : List (Nat × V)} {h : Hp}
theorem cel1 {k : Nat} (g1 : h.get 1 = some (intC k)) : celOf h 1 = some (.int k) := by
  show (match h.get 1 with | some (.cell (some v)) => some v | _ => none) = _
  rw [g1]
  rfl
theorem alt_ix {k m : Nat} (g1 : h.get 1 = some (intC k)) (l164 : getL L 164 = some (.int m)) (hk : k < 10) (hm : m < 10) : REv BP (d + 1) ⟨L, C2⟩ h (.bin .Add (.bin .Add (.ci 16) (.bin .Mult (.ci 9) (.cel 163))) (.bin .Mult (.ci 18) (.loc 164))) (.int (16 + 9 * k + 18 * m : Nat)) h :=
  ev_px (k := 9) (A := [.v (.int k), .c (.int (9 * k : Nat)) h, .a, .l (.int m), .c (.int (18 * m : Nat)) h, .a]) (by kernel_rfl) (U4 (mul_n h (a := 18) (by decide) (Nat.lt_trans hm (by decide))) l164 (mul_n h (a := 9) (by decide) (Nat.lt_trans hk (by decide))) (cel1 g1))
theorem keep1 {X : Nat → Prop} {c i : Nat} {h' : Hp} {o : Option O} (x : Ex X c h h') (g : h.get i = o) (hi : i < h.n) (n : ¬ X i) : h'.get i = o := (x.keep i hi n).trans g
theorem alt_step {k m A : Nat} {as : List V} (g0 : h.get 0 = some (rowC xs)) (g1 : h.get 1 = some (intC k)) (l164 : getL L 164 = some (.int m)) (l119 : getL L 119 = some (.ref A)) (y : LAt h A as) (hk : k < 10) (hm : m < 10) (has : as.length < 100) (hn : h.n ≤ 800000) (hA : 1 < A) :
    ∃ L' h' v, REx BP (d + 1) ⟨L, C2⟩ h altB .next ⟨L', C2⟩ h' ∧ KL [166, 167, 28, 75] L L' ∧ h'.get 0 = some (rowC xs) ∧ h'.get 1 = some (intC k) ∧ LAt h' A (as ++ [v]) ∧ altOk v ∧ Ex (X1 A) 4 h h' := by
  have h1A : 1 < h.n := Nat.lt_trans hA y.1
  have h0A : 0 < h.n := Nat.lt_trans (by decide) h1A
  have hn0 : h.n < 1000000 := Nat.lt_of_le_of_lt hn (by decide)
  have I0 := alt_ix d g1 l164 hk hm
  have hb : 16 + 9 * k + 18 * m < 300 := by lia
  generalize 16 + 9 * k + 18 * m = b at *
  have N1 := newList_push (h := h) (vs := []) (by decide) hn0
  have x1 := Ex.push X0 (.list []) hn0
  have y1 := LAt.push (h := h) (vs := []) hn0
  generalize h.push (.list []) = h1 at *
  obtain ⟨p, hp, D1⟩ := draw xs d h1 (a := b) (Nat.lt_trans hb (by decide)) (m := 3) (by decide) (by decide)
  have G1 := cel0 (keep1 x1 g0 h0A id)
  have l28 : getL (setL L 28 (.int b)) 28 = some (.int b) := gs0
  have R1 := range_ok h1 (p := p) (Nat.lt_trans hp (by decide))
  obtain ⟨L2, h2, ps, F, ⟨g02, K⟩, y2, hl, ok, x2⟩ := part_loop d (L := setL (setL L 28 (.int b)) 75 (.ref h.n)) (N := p) (keep1 x1 g0 h0A id) (gs l28 rfl) gs0 y1 (Nat.lt_trans hb (by decide)) (Nat.le_of_lt_succ hp) (Nat.le_trans (x1.cap hn) (by decide)) h0A
  have FR : ForR BP (d + 1) ⟨setL (setL L 28 (.int b)) 75 (.ref h.n), C2⟩ h1 (.loc 166) (.rng 0 p) partB .next ⟨L2, C2⟩ h2 := ⟨(rng_can (Nat.lt_trans hp (by decide))).1, (rng_can (Nat.lt_trans hp (by decide))).2, F⟩
  have X2 : Ex X0 3 h h2 := (x1.of0.trans x2 : Ex (X1 h.n) _ h h2).up (by lia) fun i hi q => absurd q (Nat.ne_of_lt hi)
  have n2 := X2.cap hn
  have T := tuple_ok y2 (hl ▸ Nat.lt_trans hp (by decide))
  have N3 := newList_push (h := h2) (vs := precsL.map .str) (by decide) (Nat.lt_of_le_of_lt n2 (by decide))
  have x3 := X2.trans (Ex.push X0 (.list (precsL.map .str)) (Nat.lt_of_le_of_lt n2 (by decide)))
  have I3 := LAt.items (LAt.push (h := h2) (vs := precsL.map .str) (Nat.lt_of_le_of_lt n2 (by decide)))
  generalize h2.push (.list (precsL.map .str)) = h3 at *
  obtain ⟨q, hq, D2⟩ := draw xs d h3 (a := b + 7) (Nat.lt_of_lt_of_le (Nat.add_lt_add_right hb 7) (by decide)) (m := 3) (by decide) (by decide)
  obtain ⟨s, hs, os⟩ := pickS (l := precsL) (by decide) hq
  have S := sub_seq (B := BP) I3 (by decide) hs hq
  have n3 := Nat.le_trans (x3.cap hn) (show 800004 ≤ 1000000 by decide)
  obtain ⟨M, -⟩ := app (B := BP) (y.ex X2 id) (Nat.lt_trans has (by decide)) .none
  obtain ⟨-, W⟩ := app (B := BP) (y.ex x3 id) (Nat.lt_trans has (by decide)) (.tup [.tup ps, .str s])
  have k28 := K 28 _ rfl (gs (y := 75) (u := .ref h.n) l28 rfl)
  have k75 : getL L2 75 = some (.ref h.n) := K 75 _ rfl gs0
  have k119 := K 119 _ rfl (gs (y := 75) (u := .ref h.n) (gs (y := 28) (u := .int b) l119 rfl) rfl)
  have hA0 := Nat.lt_trans y.1 hn0
  have l28b := gs (y := 75) (u := .ref h.n) l28 rfl
  have G3 := cel0 (keep1 x3 g0 h0A id)
  have kk : ∀ {i o}, h.get i = o → i < h.n → i ≠ A → (h3.set A (.list (as ++ [.tup [.tup ps, .str s]]))).get i = o := fun g hi n => keep1 (x3.of0.app hA0 _ n3) g hi n
  exact ⟨L2, _, _, ex_px (k := 20) (A := [.e (.int b) h, .c (.ref h.n) h1, .v (.row ⟨xs, tabOf xs⟩), .l (.int b), .c (.int p) h1, .c (.rng 0 p) h1, .f .next ⟨L2, C2⟩ h2, .l (.ref A), .m none, .l (.ref h.n), .c (.tup ps) h2, .c (.ref h2.n) h3, .v (.row ⟨xs, tabOf xs⟩), .l (.int b), .a, .c (.int q) h3, .v (.str s), .c .none (h3.set A (.list (as ++ [.tup [.tup ps, .str s]])))]) (by kernel_rfl) (cn W <| cn S <| cn D2 <| cn k28 <| cn G3 <| cn N3 <| cn T <| cn k75 <| cn M <| cn k119 <| cn FR <| cn R1 <| cn D1 <| cn l28b <| cn G1 <| cn N1 <| cn I0 trivial), (((KL.refl [166, 167, 28, 75] L).set (y := 28) (.int b) rfl).set (y := 75) (.ref h.n) rfl).trans (K.wide [28, 75]), kk g0 h0A (Nat.ne_of_lt (Nat.lt_trans (by decide) hA)), kk g1 h1A (Nat.ne_of_lt hA), (y.ex x3 id).set, ⟨ps, s, rfl, os, ok, hl ▸ Nat.le_of_lt_succ hp⟩, x3.of0.app hA0 _ n3⟩
end
end
section
noncomputable def ruleOk (v : V) : Prop := ∃ hd ln as, v = .tup [.tup [.str hd, .int ln], .tup as] ∧ okS hd = true ∧ (∀ a, a ∈ as → altOk a) ∧ as.length ≤ 2
noncomputable def ruleB : List St := [.asg (.loc 119) (.lst []), .fors (.loc 164) (.call 74 [.bin .Add (.ci 1) (.call 154 [.cel 18, .bin .Add (.ci 14) (.cel 163), .ci 2])]) altB, .expr (.mcall (.loc 51) 38 [.tpl [.tpl [.sub (.lst [.cs [115], .cs [116]]) (.cel 163), .bin .Add (.ci 1) (.call 154 [.cel 18, .bin .Add (.ci 52) (.cel 163), .ci 40])], .call 89 [.loc 119]]])]
noncomputable def headsL : List S := [[115], [116]]
section
variable {xs : List Int} (d : Nat) {L : List (Nat × V)} {h : Hp}
theorem alt_loop {k A N : Nat} (g0 : h.get 0 = some (rowC xs)) (g1 : h.get 1 = some (intC k)) (l119 : getL L 119 = some (.ref A)) (y : LAt h A []) (hk : k < 10) (hN : N ≤ 2) (hn : h.n ≤ 700000) (hA : 1 < A) :
    ∃ L' h' as, RFo BP (d + 1) ⟨L, C2⟩ h (.loc 164) (.rng 0 N) 0 altB .next ⟨L', C2⟩ h' ∧ (h'.get 0 = some (rowC xs) ∧ h'.get 1 = some (intC k) ∧ KL [166, 167, 28, 75, 164] L L') ∧ LAt h' A as ∧ as.length = N ∧ (∀ v, v ∈ as → altOk v) ∧ Ex (X1 A) (4 * N) h h' :=
  fo_app (M := 700010) (Inv := fun L' h' => h'.get 0 = some (rowC xs) ∧ h'.get 1 = some (intC k) ∧ KL [166, 167, 28, 75, 164] L L') (fun j L1 h1 vs hj i y hl hn => by
    obtain ⟨L', h', v, r, K, g0, g1, y', ov, x⟩ := alt_step d (L := setL L1 164 (.int j)) (m := j) i.1 i.2.1 gs0 (gs (i.2.2 119 _ rfl l119) rfl) y hk (Nat.lt_of_lt_of_le hj (Nat.le_trans hN (by decide))) (hl ▸ Nat.lt_of_lt_of_le hj (Nat.le_trans hN (by decide))) (Nat.le_trans hn (by decide)) hA
    exact ⟨_, _, L', h', v, fun _ => rfl, r, ⟨g0, g1, (i.2.2.set _ rfl).trans (K.wide [164])⟩, y', ov, x⟩) N 0 L h [] (Nat.zero_add N) ⟨g0, g1, KL.refl _ L⟩ y rfl (fun _ hv => nomatch hv) (by lia)
theorem rule_step {k R : Nat} {rs : List V} (g0 : h.get 0 = some (rowC xs)) (g1 : h.get 1 = some (intC k)) (l51 : getL L 51 = some (.ref R)) (y : LAt h R rs) (hk : k < 2) (hrs : rs.length < 100) (hn : h.n ≤ 600000) (hR : 1 < R) :
    ∃ L' h' v, REx BP (d + 1) ⟨L, C2⟩ h ruleB .next ⟨L', C2⟩ h' ∧ KL [166, 167, 28, 75, 164, 119] L L' ∧ h'.get 0 = some (rowC xs) ∧ h'.get 1 = some (intC k) ∧ LAt h' R (rs ++ [v]) ∧ ruleOk v ∧ Ex (X1 R) 10 h h' := by
  have h1R : 1 < h.n := Nat.lt_trans hR y.1
  have h0R : 0 < h.n := Nat.lt_trans (by decide) h1R
  have hn0 : h.n < 1000000 := Nat.lt_of_le_of_lt hn (by decide)
  have N1 := newList_push (h := h) (vs := []) (by decide) hn0
  have x1 := Ex.push X0 (.list []) hn0
  have y1 := LAt.push (h := h) (vs := []) hn0
  generalize h.push (.list []) = h1 at *
  obtain ⟨p, hp, D1⟩ := draw xs d h1 (a := 14 + k) (Nat.lt_trans (Nat.add_lt_add_left hk 14) (by decide)) (m := 2) (by decide) (by decide)
  have G1 := cel0 (keep1 x1 g0 h0R id)
  have I1 := cel1 (keep1 x1 g1 h1R id)
  have hp2 : 1 + p ≤ 2 := Nat.add_le_add_left (Nat.le_of_lt_succ hp) 1
  have R1 := range_ok h1 (p := 1 + p) (Nat.lt_of_le_of_lt hp2 (by decide))
  have RC := rng_can (h := h1) (N := 1 + p) (Nat.lt_of_le_of_lt hp2 (by decide))
  obtain ⟨L2, h2, as, F, ⟨-, -, K⟩, y2, hl, ok, x2⟩ := alt_loop d (L := setL L 119 (.ref h.n)) (N := 1 + p) (keep1 x1 g0 h0R id) (keep1 x1 g1 h1R id) gs0 y1 (Nat.lt_trans hk (by decide)) hp2 (Nat.le_trans (x1.cap hn) (by decide)) h1R
  have FR : ForR BP (d + 1) ⟨setL L 119 (.ref h.n), C2⟩ h1 (.loc 164) (.rng 0 (1 + p : Nat)) altB .next ⟨L2, C2⟩ h2 := ⟨RC.1, RC.2, F⟩
  have X2 : Ex X0 9 h h2 := (x1.of0.trans x2 : Ex (X1 h.n) _ h h2).up (Nat.add_le_add_left (Nat.mul_le_mul_left 4 hp2) 1) fun i hi q => absurd q (Nat.ne_of_lt hi)
  have n2 := Nat.lt_of_le_of_lt (X2.cap hn) (show 600009 < 1000000 by decide)
  have N3 := newList_push (h := h2) (vs := headsL.map .str) (by decide) n2
  have x3 := X2.trans (Ex.push X0 (.list (headsL.map .str)) n2)
  have I3 := LAt.items (LAt.push (h := h2) (vs := headsL.map .str) n2)
  have T := tuple_ok (y2.ex (Ex.push X0 (.list (headsL.map .str)) n2) id) (Nat.lt_of_le_of_lt (hl ▸ hp2) (by decide))
  generalize h2.push (.list (headsL.map .str)) = h3 at *
  obtain ⟨q, hq, D2⟩ := draw xs d h3 (a := 52 + k) (Nat.lt_trans (Nat.add_lt_add_left hk 52) (by decide)) (m := 40) (by decide) (by decide)
  obtain ⟨s, hs, os⟩ := pickS (l := headsL) (by decide) hk
  have S := sub_seq (B := BP) I3 (by decide) hs hk
  have n3 := Nat.le_trans (x3.cap hn) (show 600010 ≤ 1000000 by decide)
  obtain ⟨M, -⟩ := app (B := BP) (y.ex X2 id) (Nat.lt_trans hrs (by decide)) .none
  obtain ⟨-, W⟩ := app (B := BP) (y.ex x3 id) (Nat.lt_trans hrs (by decide)) (.tup [.tup [.str s, .int (1 + q : Nat)], .tup as])
  have k119 : getL L2 119 = some (.ref h.n) := K 119 _ rfl gs0
  have k51 := K 51 _ rfl (gs (y := 119) (u := .ref h.n) l51 rfl)
  have hR0 := Nat.lt_trans y.1 hn0
  have G3 := cel0 (keep1 x3 g0 h0R id)
  have I4 := cel1 (keep1 x3 g1 h1R id)
  have kk : ∀ {i o}, h.get i = o → i < h.n → i ≠ R → (h3.set R (.list (rs ++ [.tup [.tup [.str s, .int (1 + q : Nat)], .tup as]]))).get i = o := fun g hi n => keep1 (x3.of0.app hR0 _ n3) g hi n
  exact ⟨L2, _, _, ex_px (k := 20) (A := [.c (.ref h.n) h1, .v (.row ⟨xs, tabOf xs⟩), .v (.int k), .a, .c (.int p) h1, .a, .c (.rng 0 (1 + p : Nat)) h1, .f .next ⟨L2, C2⟩ h2, .l (.ref R), .m none, .c (.ref h2.n) h3, .v (.int k), .v (.str s), .v (.row ⟨xs, tabOf xs⟩), .v (.int k), .a, .c (.int q) h3, .a, .l (.ref h.n), .c (.tup as) h3, .c .none (h3.set R (.list (rs ++ [.tup [.tup [.str s, .int (1 + q : Nat)], .tup as]])))]) (by kernel_rfl) (cn W <| cn T <| cn k119 <| cn D2 <| cn I4 <| cn G3 <| cn S <| cn I4 <| cn N3 <| cn M <| cn k51 <| cn FR <| cn R1 <| cn D1 <| cn I1 <| cn G1 <| cn N1 trivial), ((KL.refl [166, 167, 28, 75, 164, 119] L).set (y := 119) (.ref h.n) rfl).trans (K.wide [119]), kk g0 h0R (Nat.ne_of_lt (Nat.lt_trans (by decide) hR)), kk g1 h1R (Nat.ne_of_lt hR), (y.ex x3 id).set, ⟨s, _, as, rfl, os, ok, hl ▸ hp2⟩, x3.of0.app hR0 _ n3⟩
end
end
section
theorem set_cell {B : Tb} {d : Nat} {L : List (Nat × V)} {h : Hp} {j : Nat} (g1 : ∃ c, h.get 1 = some (.cell c)) (n : Nat) : asg B (run B n) d ⟨L, C2⟩ h (.cel 163) (.int j) = some (⟨L, C2⟩, h.set 1 (intC j)) := by
  obtain ⟨c, g1⟩ := g1
  show (match h.get 1 with | some o => (match o with | .cell _ => some ((⟨L, C2⟩ : Fm), h.set 1 (.cell (some (.int j)))) | _ => none) | none => none) = _
  rw [g1]
  rfl
noncomputable abbrev X2 (R : Nat) : Nat → Prop := fun i => i = R ∨ i = 1
section
variable {xs : List Int} (d : Nat) {L : List (Nat × V)} {h : Hp}
theorem rule_loop {R N : Nat} (g0 : h.get 0 = some (rowC xs)) (g1 : ∃ c, h.get 1 = some (.cell c)) (l51 : getL L 51 = some (.ref R)) (y : LAt h R []) (hN : N ≤ 2) (hn : h.n ≤ 500000) (hR : 1 < R) :
    ∃ L' h' rs, RFo BP (d + 1) ⟨L, C2⟩ h (.cel 163) (.rng 0 N) 0 ruleB .next ⟨L', C2⟩ h' ∧ (h'.get 0 = some (rowC xs) ∧ (∃ c, h'.get 1 = some (.cell c)) ∧ KL [166, 167, 28, 75, 164, 119] L L') ∧ LAt h' R rs ∧ rs.length = N ∧ (∀ v, v ∈ rs → ruleOk v) ∧ Ex (X2 R) (10 * N) h h' :=
  fo_app (M := 500020) (Inv := fun L' h' => h'.get 0 = some (rowC xs) ∧ (∃ c, h'.get 1 = some (.cell c)) ∧ KL [166, 167, 28, 75, 164, 119] L L') (fun j L1 h1 vs hj i y hl hn => by
    have hj2 := Nat.lt_of_lt_of_le hj hN
    have x := Ex.set (h := h1) (R := 1) (intC j) (by decide) (Nat.le_trans hn (by decide))
    obtain ⟨L', h', v, r, K, g0, g1, y', ov, x'⟩ := rule_step d (L := L1) (h := h1.set 1 (intC j)) (k := j) (R := R) ((Hp.get_ne (h := h1) _ (by decide) (by decide) (by decide)).trans i.1) (Hp.get_same ..) (i.2.2 51 _ rfl l51) (y.ex x (Nat.ne_of_gt hR)) hj2 (hl ▸ Nat.lt_trans hj2 (by decide)) (Nat.le_trans hn (by decide)) hR
    exact ⟨_, _, L', h', v, set_cell i.2.1, r, ⟨g0, ⟨_, g1⟩, i.2.2.trans K⟩, y', ov, (x.up (Nat.le_refl 0) fun _ _ => .inr).trans (x'.up (Nat.le_refl 10) fun _ _ => .inl)⟩) N 0 L h [] (Nat.zero_add N) ⟨g0, g1, KL.refl _ L⟩ y rfl (fun _ hv => nomatch hv) (by lia)
noncomputable def symOk (u : V) : Prop := u = .int 7 ∨ ∃ s, u = .str s ∧ okS s = true
noncomputable def declOk (v : V) : Prop := ∃ w us, v = .tup [.str w, .tup us] ∧ okS w = true ∧ (∀ u, u ∈ us → symOk u) ∧ us.length ≤ 2
noncomputable def symE : E := .sub (.lst [.ci 7, .cs [97], .cs [39, 43, 39]]) (.call 154 [.cel 18, .bin .Add (.bin .Add (.ci 8) (.bin .Mult (.ci 3) (.cel 163))) (.loc 164), .ci 3])
noncomputable def symsL : List V := [.int 7, .str [97], .str [39, 43, 39]]
theorem syms_ok : ∀ u, u ∈ symsL → symOk u := fun u hu => (List.mem_cons.mp hu).elim .inl fun hu => .inr ((List.mem_cons.mp hu).elim (fun e => ⟨_, e, rfl⟩) fun hu => ⟨_, List.mem_singleton.mp hu, rfl⟩)
theorem sym_ev {k j : Nat} (g0 : h.get 0 = some (rowC xs)) (g1 : h.get 1 = some (intC k)) (l164 : getL L 164 = some (.int j)) (hk : k < 10) (hj : j < 10) (hn : h.n < 1000000) (h1 : 1 < h.n) : ∃ u h', REv BP (d + 1) ⟨L, C2⟩ h symE u h' ∧ symOk u ∧ Ex X0 1 h h' := by
  have N1 := newList_push (h := h) (vs := symsL) (by decide) hn
  have x1 := Ex.push X0 (.list symsL) hn
  have I := LAt.items (LAt.push (h := h) (vs := symsL) hn)
  generalize h.push (.list symsL) = h2 at *
  obtain ⟨p, hp, D⟩ := draw xs d h2 (a := 8 + 3 * k + j) (by lia) (m := 3) (by decide) (by decide)
  obtain ⟨u, hu, e⟩ := nth_mem (vs := symsL) hp
  exact ⟨u, h2, ev_px (k := 20) (A := [.c (.ref h.n) h2, .v (.row ⟨xs, tabOf xs⟩), .v (.int k), .c (.int (3 * k : Nat)) h2, .a, .l (.int j), .a, .c (.int p) h2, .v u]) (by kernel_rfl) (cn (sub_seq (B := BP) I (by decide) e hp) <| cn D <| cn l164 <| cn (mul_n h2 (a := 3) (by decide) (Nat.lt_trans hk (by decide))) <| cn (cel1 (keep1 x1 g1 h1 id)) <| cn (cel0 (keep1 x1 g0 (Nat.lt_trans (by decide) h1) id)) <| cn N1 trivial), syms_ok u hu, x1⟩
end
end
section
noncomputable def declB : List St := [.asg (.loc 145) (.comp symE (.loc 164) (.call 74 [.bin .Add (.ci 1) (.call 154 [.cel 18, .bin .Add (.ci 7) (.bin .Mult (.ci 3) (.cel 163)), .ci 2])]) none), .expr (.mcall (.loc 114) 38 [.tpl [.sub (.glob 165) (.call 154 [.cel 18, .bin .Add (.ci 6) (.bin .Mult (.ci 3) (.cel 163)), .ci 7]), .call 89 [.loc 145]]])]
section
variable {xs : List Int} (d : Nat)
theorem syms_co {k N : Nat} (hk : k < 10) (hN : N ≤ 2) : ∀ (n j : Nat) (L : List (Nat × V)) (h : Hp) (acc : List V), j + n = N → h.get 0 = some (rowC xs) → h.get 1 = some (intC k) → 1 < h.n → h.n + n ≤ 900000 → acc.length = j → (∀ u, u ∈ acc → symOk u) → ∃ us h', RCo BP (d + 1) ⟨L, C2⟩ h symE (.loc 164) (.rng 0 N) j none acc us h' ∧ us.length = N ∧ (∀ u, u ∈ us → symOk u) ∧ Ex X0 n h h'
  | 0, j, L, h, acc, e, g0, g1, h1, hn, hl, ok => by
    have e : j = N := e
    subst e
    exact ⟨acc, h, co_end (rng_out h j), hl, ok, Ex.refl X0 h⟩
  | n + 1, j, L, h, acc, e, g0, g1, h1, hn, hl, ok => by
    have hj : j < N := e ▸ Nat.lt_add_of_pos_right (Nat.succ_pos n)
    have hj2 := Nat.lt_of_lt_of_le hj hN
    obtain ⟨u, h2, r, su, x⟩ := sym_ev d (L := setL L 164 (.int j)) g0 g1 gs0 hk (Nat.lt_trans hj2 (by decide)) (Nat.lt_of_le_of_lt (Nat.le_trans (Nat.le_add_right ..) hn) (by decide)) h1
    obtain ⟨us, h3, r3, l3, ok3, x3⟩ := syms_co hk hN n (j + 1) (setL L 164 (.int j)) h2 (acc ++ [u]) ((Nat.add_right_comm j 1 n).trans e) (keep1 x g0 (Nat.lt_trans (by decide) h1) id) (keep1 x g1 h1 id) (Nat.lt_of_lt_of_le h1 x.le) (Nat.le_trans (Nat.add_le_add_right x.lt n) (by rw [Nat.add_assoc, Nat.add_comm 1 n]; exact hn)) (by rw [List.length_append, hl]; rfl) (fun v hv => (List.mem_append.mp hv).elim (ok v) fun hv => List.mem_singleton.mp hv ▸ su)
    exact ⟨us, h3, co_next (rng_in h hj) (fun _ => rfl) r (hl ▸ Nat.lt_trans hj2 (by decide)) r3, l3, ok3, Nat.add_comm 1 n ▸ x.trans x3⟩
variable {L : List (Nat × V)} {h : Hp}
theorem decl_step {k R : Nat} {ds : List V} (g0 : h.get 0 = some (rowC xs)) (g1 : h.get 1 = some (intC k)) (l114 : getL L 114 = some (.ref R)) (y : LAt h R ds) (hk : k < 10) (hds : ds.length < 100) (hn : h.n ≤ 600000) (hR : 1 < R) :
    ∃ L' h' v, REx BP (d + 1) ⟨L, C2⟩ h declB .next ⟨L', C2⟩ h' ∧ KL [145] L L' ∧ h'.get 0 = some (rowC xs) ∧ h'.get 1 = some (intC k) ∧ LAt h' R (ds ++ [v]) ∧ declOk v ∧ Ex (X1 R) 3 h h' := by
  have h1R : 1 < h.n := Nat.lt_trans hR y.1
  have h0R : 0 < h.n := Nat.lt_trans (by decide) h1R
  obtain ⟨p, hp, D1⟩ := draw xs d h (a := 7 + 3 * k) (by lia) (m := 2) (by decide) (by decide)
  have hp2 : 1 + p ≤ 2 := Nat.add_le_add_left (Nat.le_of_lt_succ hp) 1
  have R1 := range_ok h (p := 1 + p) (Nat.lt_of_le_of_lt hp2 (by decide))
  have RC := rng_can (h := h) (N := 1 + p) (Nat.lt_of_le_of_lt hp2 (by decide))
  obtain ⟨us, h1, F, hl, ok, x1⟩ := syms_co d hk hp2 (1 + p) 0 [] h [] (Nat.zero_add _) g0 g1 h1R (Nat.le_trans (Nat.add_le_add hn hp2) (by decide)) rfl (fun _ hu => nomatch hu)
  have x1 := x1.wide hp2
  have n1 := Nat.lt_of_le_of_lt (x1.cap hn) (show 600002 < 1000000 by decide)
  have hul := Nat.lt_of_le_of_lt (hl ▸ hp2) (show 2 < 100000 by decide)
  have CR : ComR BP (d + 1) C2 h symE (.loc 164) (.rng 0 (1 + p : Nat)) none (.ref h1.n) (h1.push (.list us)) := ⟨RC.2, us, h1, F, newList_push hul n1⟩
  have x2 := x1.trans (Ex.push X0 (.list us) n1)
  have T := tuple_ok (LAt.push (h := h1) (vs := us) n1) hul
  generalize h1.push (.list us) = h2 at *
  obtain ⟨q, hq, D2⟩ := draw xs d h2 (a := 6 + 3 * k) (by lia) (m := 7) (by decide) (by decide)
  obtain ⟨s, hs, os⟩ := pickS (l := wordsL) (by decide) hq
  have S := sub_seq (B := BP) (h := h2) (v := .tup (wordsL.map .str)) rfl (by decide) hs hq
  have n2 := Nat.le_trans (x2.cap hn) (show 600003 ≤ 1000000 by decide)
  obtain ⟨M, W⟩ := app (B := BP) (y.ex x2 id) (Nat.lt_trans hds (by decide)) (.tup [.str s, .tup us])
  have l145 : getL (setL L 145 (.ref h1.n)) 145 = some (.ref h1.n) := gs0
  have k114 := gs (y := 145) (u := .ref h1.n) l114 rfl
  have hR0 := Nat.lt_of_lt_of_le y.1 (Nat.le_trans hn (show 600000 ≤ 1000000 by decide))
  have hk3 := Nat.lt_trans hk (show 10 < 1000 by decide)
  have kk : ∀ {i o}, h.get i = o → i < h.n → i ≠ R → (h2.set R (.list (ds ++ [.tup [.str s, .tup us]]))).get i = o := fun g hi n => keep1 (x2.of0.app hR0 _ n2) g hi n
  exact ⟨_, _, _, ex_px (k := 20) (A := [.v (.row ⟨xs, tabOf xs⟩), .v (.int k), .c (.int (3 * k : Nat)) h, .a, .c (.int p) h, .a, .c (.rng 0 (1 + p : Nat)) h, .c (.ref h1.n) h2, .l (.ref R), .m none, .v (.row ⟨xs, tabOf xs⟩), .v (.int k), .c (.int (3 * k : Nat)) h2, .a, .c (.int q) h2, .v (.str s), .l (.ref h1.n), .c (.tup us) h2, .c .none (h2.set R (.list (ds ++ [.tup [.str s, .tup us]])))]) (by kernel_rfl) (cn W <| cn T <| cn l145 <| cn S <| cn D2 <| cn (mul_n h2 (a := 3) (by decide) hk3) <| cn (cel1 (keep1 x2 g1 h1R id)) <| cn (cel0 (keep1 x2 g0 h0R id)) <| cn M <| cn k114 <| cn CR <| cn R1 <| cn D1 <| cn (mul_n h (a := 3) (by decide) hk3) <| cn (cel1 g1) <| cn (cel0 g0) trivial), (KL.refl [145] L).set (y := 145) (.ref h1.n) rfl, kk g0 h0R (Nat.ne_of_lt (Nat.lt_trans (by decide) hR)), kk g1 h1R (Nat.ne_of_lt hR), (y.ex x2 id).set, ⟨s, us, rfl, os, ok, hl ▸ hp2⟩, x2.of0.app hR0 _ n2⟩
theorem decl_loop {R N : Nat} (g0 : h.get 0 = some (rowC xs)) (g1 : ∃ c, h.get 1 = some (.cell c)) (l114 : getL L 114 = some (.ref R)) (y : LAt h R []) (hN : N ≤ 2) (hn : h.n ≤ 500000) (hR : 1 < R) :
    ∃ L' h' ds, RFo BP (d + 1) ⟨L, C2⟩ h (.cel 163) (.rng 0 N) 0 declB .next ⟨L', C2⟩ h' ∧ (h'.get 0 = some (rowC xs) ∧ (∃ c, h'.get 1 = some (.cell c)) ∧ KL [145] L L') ∧ LAt h' R ds ∧ ds.length = N ∧ (∀ v, v ∈ ds → declOk v) ∧ Ex (X2 R) (3 * N) h h' :=
  fo_app (M := 500020) (Inv := fun L' h' => h'.get 0 = some (rowC xs) ∧ (∃ c, h'.get 1 = some (.cell c)) ∧ KL [145] L L') (fun j L1 h1 vs hj i y hl hn => by
    have hj2 := Nat.lt_of_lt_of_le hj hN
    have x := Ex.set (h := h1) (R := 1) (intC j) (by decide) (Nat.le_trans hn (by decide))
    obtain ⟨L', h', v, r, K, g0, g1, y', ov, x'⟩ := decl_step d (L := L1) (h := h1.set 1 (intC j)) (k := j) (R := R) ((Hp.get_ne (h := h1) _ (by decide) (by decide) (by decide)).trans i.1) (Hp.get_same ..) (i.2.2 114 _ rfl l114) (y.ex x (Nat.ne_of_gt hR)) (Nat.lt_trans hj2 (by decide)) (hl ▸ Nat.lt_trans hj2 (by decide)) (Nat.le_trans hn (by decide)) hR
    exact ⟨_, _, L', h', v, set_cell i.2.1, r, ⟨g0, ⟨_, g1⟩, i.2.2.trans K⟩, y', ov, (x.up (Nat.le_refl 0) fun _ _ => .inr).trans (x'.up (Nat.le_refl 3) fun _ _ => .inl)⟩) N 0 L h [] (Nat.zero_add N) ⟨g0, g1, KL.refl _ L⟩ y rfl (fun _ hv => nomatch hv) (by lia)
end
end
section
inductive All2 (P : V → V → Prop) : List V → List V → Prop
  | nil : All2 P [] []
  | cons {v u : V} {vs us : List V} (x : P v u) (r : All2 P vs us) : All2 P (v :: vs) (u :: us)
theorem All2.imp {P Q : V → V → Prop} (f : ∀ v u, P v u → Q v u) {vs us : List V} (x : All2 P vs us) : All2 Q vs us :=
  All2.rec (motive := fun vs us _ => All2 Q vs us) .nil (fun x _ ih => .cons (f _ _ x) ih) x
theorem All2.snoc {P : V → V → Prop} {v u : V} (y : P v u) {vs us : List V} (x : All2 P vs us) : All2 P (vs ++ [v]) (us ++ [u]) :=
  All2.rec (motive := fun vs us _ => All2 P (vs ++ [v]) (us ++ [u])) (.cons y .nil) (fun x _ ih => .cons x ih) x
theorem All2.len {P : V → V → Prop} {vs us : List V} (x : All2 P vs us) : us.length = vs.length :=
  All2.rec (motive := fun vs us _ => us.length = vs.length) rfl (fun _ _ ih => congrArg Nat.succ ih) x
theorem co_map {B : Tb} {d c M : Nat} {elt : E} {t : Tgt} {it : V} {C : List (Nat × Nat)} {h0 : Hp} (P : Hp → V → V → Prop) (mono : ∀ {a : Nat} {h h' : Hp} {v u : V}, Ex X0 a h h' → P h v u → P h' v u)
    (hit : ∀ {a : Nat} {h : Hp} {vs : List V}, Ex X0 a h0 h → itGet h0 it = (fun j => some (nth vs j)) → itGet h it = fun j => some (nth vs j)) {F : List (Nat × V) → Prop}
    {vs : List V} (hv : itGet h0 it = fun j => some (nth vs j))
    (step : ∀ (v : V) (L : List (Nat × V)) (h : Hp) (a : Nat), v ∈ vs → F L → Ex X0 a h0 h → h.n ≤ M → ∃ L1 u h', (∀ n, asg B (run B n) d ⟨L, C⟩ h t v = some (⟨L1, C⟩, h)) ∧ F L1 ∧ REv B d ⟨L1, C⟩ h elt u h' ∧ P h' v u ∧ Ex X0 c h h') :
    ∀ (rs ps us : List V) (L : List (Nat × V)) (h : Hp), vs = ps ++ rs → vs.length < 1000 → F L → Ex X0 (c * ps.length) h0 h → h0.n + c * vs.length ≤ M → All2 (P h) ps us → ∃ us' h', RCo B d ⟨L, C⟩ h elt t it ps.length none us us' h' ∧ All2 (P h') vs us' ∧ Ex X0 (c * vs.length) h0 h'
  | [], ps, us, L, h, e, hl, f, x, hM, a => by
    rw [List.append_nil] at e
    subst e
    exact ⟨us, h, co_end ((congrFun (hit x hv) _).trans (congrArg some (nth_end vs))), a, x⟩
  | v :: rs, ps, us, L, h, e, hl, f, x, hM, a => by
    have hp : ps.length + 1 ≤ vs.length := by rw [e, List.length_append]; exact Nat.add_le_add_left (Nat.succ_pos _) _
    obtain ⟨L1, u, h1, as, f1, r, q, y⟩ := step v L h _ (e ▸ List.mem_append.mpr (.inr (.head _))) f x (Nat.le_trans x.lt (Nat.le_trans (Nat.add_le_add_left (Nat.mul_le_mul_left c (Nat.le_of_succ_le hp)) _) hM))
    have hc : c * ps.length + c = c * (ps ++ [v]).length := by rw [List.length_append]; rfl
    obtain ⟨us', h2, r2, a2, x2⟩ := co_map P mono hit hv step rs (ps ++ [v]) (us ++ [u]) L1 h1 (by rw [List.append_assoc]; exact e) hl f1 (hc ▸ x.trans y) hM ((a.imp fun _ _ => mono y).snoc q)
    rw [List.length_append] at r2
    exact ⟨us', h2, co_next ((congrFun (hit x hv) _).trans (congrArg some (e ▸ nth_mid v rs ps))) as r (a.len ▸ Nat.lt_trans (Nat.lt_of_lt_of_le hp (Nat.le_of_lt hl)) (by decide)) r2, a2, x2⟩
end
section
noncomputable def Its (h : Hp) (it : V) (vs : List V) : Prop := it = .tup vs ∨ ∃ i, it = .ref i ∧ LAt h i vs
section
variable {h h' : Hp} {it : V} {vs : List V}
theorem Its.ex {a : Nat} (x : Ex X0 a h h') : Its h it vs → Its h' it vs
  | .inl e => .inl e
  | .inr ⟨i, e, y⟩ => .inr ⟨i, e, y.ex x id⟩
theorem Its.get : Its h it vs → itGet h it = fun j => some (nth vs j)
  | .inl e => e ▸ rfl
  | .inr ⟨i, e, y⟩ => e ▸ funext fun j => by
    show (match h.get i with | some (.list vs) => some (nth vs j) | _ => none) = _
    rw [y.2]
theorem Its.can (I : Its h it vs) : canIter h it = true := by
  unfold canIter
  rw [I.get]
  rcases I with e | ⟨i, e, y⟩ <;> rw [e]
theorem comp_all {B : Tb} {d c : Nat} {elt : E} {t : Tgt} {C : List (Nat × Nat)} {h0 : Hp} (P : Hp → V → V → Prop) (mono : ∀ {a : Nat} {h h' : Hp} {v u : V}, Ex X0 a h h' → P h v u → P h' v u) {F : List (Nat × V) → Prop} (f0 : F []) {M : Nat} (hM : M ≤ 900000) (I : Its h0 it vs) (hl : vs.length ≤ 2) (hn : h0.n + c * 2 ≤ M)
    (step : ∀ (v : V) (L : List (Nat × V)) (h : Hp) (a : Nat), v ∈ vs → F L → Ex X0 a h0 h → h.n ≤ M → ∃ L1 u h', (∀ n, asg B (run B n) d ⟨L, C⟩ h t v = some (⟨L1, C⟩, h)) ∧ F L1 ∧ REv B d ⟨L1, C⟩ h elt u h' ∧ P h' v u ∧ Ex X0 c h h') :
    ∃ i us h', ComR B d C h0 elt t it none (.ref i) h' ∧ LAt h' i us ∧ (h0.n ≤ i ∧ i < 1000000) ∧ All2 (P h') vs us ∧ us.length ≤ 2 ∧ Ex X0 (c * 2 + 1) h0 h' := by
  obtain ⟨us, h1, R, a, x⟩ := co_map (M := M) P mono (hit := fun {a h us} x e => by rw [(I.ex x).get]; exact I.get.symm.trans e) I.get step vs [] [] [] h0 rfl (Nat.lt_of_le_of_lt hl (by decide)) f0 (Ex.refl X0 h0) (Nat.le_trans (Nat.add_le_add_left (Nat.mul_le_mul_left c hl) _) hn) .nil
  have x := x.wide (Nat.mul_le_mul_left c hl)
  have n1 : h1.n < 1000000 := Nat.lt_of_le_of_lt (Nat.le_trans x.lt (Nat.le_trans hn hM)) (by decide)
  have hu : us.length ≤ 2 := a.len ▸ hl
  exact ⟨h1.n, us, h1.push (.list us), ⟨I.can, us, h1, R, newList_push (Nat.lt_of_le_of_lt hu (by decide)) n1⟩, LAt.push n1, ⟨x.le, n1⟩, a.imp fun _ _ => mono (Ex.push X0 _ n1), hu, x.trans (Ex.push X0 _ n1)⟩
end
noncomputable def F1 (x : Nat) (L : List (Nat × V)) : Prop := L = [] ∨ ∃ a, L = [(x, a)]
noncomputable def F2 (x y : Nat) (L : List (Nat × V)) : Prop := L = [] ∨ ∃ a b, L = [(x, a), (y, b)]
end
section
theorem list_tup {h : Hp} {us : List V} (hl : us.length < 100000) (hn : h.n < 1000000) : callT h 3 [.tup us] = some (.ref h.n, h.push (.list us)) := newList_push hl hn
noncomputable def DeclAt (h : Hp) (v u : V) : Prop := ∃ w us i, v = .tup [.str w, .tup us] ∧ u = .tup [.str w, .ref i] ∧ LAt h i us ∧ okS w = true ∧ (∀ x, x ∈ us → symOk x) ∧ us.length ≤ 2
theorem DeclAt.mono {a : Nat} {h h' : Hp} {v u : V} (x : Ex X0 a h h') : DeclAt h v u → DeclAt h' v u := fun ⟨w, us, i, a, b, c, d⟩ => ⟨w, us, i, a, b, c.ex x id, d⟩
section
variable (d : Nat) {C : List (Nat × Nat)} {it : V} {h0 : Hp}
theorem decls_comp {ds : List V} (hd : ∀ v, v ∈ ds → declOk v) (hl : ds.length ≤ 2) (I : Its h0 it ds) (hn : h0.n ≤ 500000) :
    ∃ i us h', ComR BP (d + 1) C h0 (.tpl [.loc 10, .call 86 [.loc 145]]) (.tup [10, 145]) it none (.ref i) h' ∧ LAt h' i us ∧ (h0.n ≤ i ∧ i < 1000000) ∧ All2 (DeclAt h') ds us ∧ us.length ≤ 2 ∧ Ex X0 3 h0 h' :=
  comp_all (c := 1) DeclAt DeclAt.mono (F := F2 10 145) (.inl rfl) (M := 900000) (by decide) I hl (Nat.le_trans (Nat.add_le_add_right hn 2) (by decide)) fun v L h a hv f x hn => by
    obtain ⟨w, us, rfl, hw, hu, hul⟩ := hd v hv
    have hn := Nat.lt_of_le_of_lt hn (show 900000 < 1000000 by decide)
    have hus := Nat.lt_of_le_of_lt hul (show 2 < 100000 by decide)
    exact ⟨[(10, .str w), (145, .tup us)], .tup [.str w, .ref h.n], h.push (.list us), fun n => by rcases f with rfl | ⟨a, b, rfl⟩ <;> rfl, .inr ⟨_, _, rfl⟩, ev_px (k := 9) (A := [.c (.ref h.n) (h.push (.list us))]) (by kernel_rfl) (U1 (list_tup hus hn)), ⟨w, us, h.n, rfl, rfl, LAt.push hn, hw, hu, hul⟩, Ex.push X0 _ hn⟩
noncomputable def partE : E := .tpl [.sub (.loc 120) (.ci 0), .sub (.loc 120) (.ci 1)]
theorem all2_eq {vs us : List V} (x : All2 (fun v u => u = v) vs us) : us = vs := by
  induction x with
  | nil => rfl
  | cons x _ ih => rw [x, ih]
theorem parts_comp {ps : List V} (hp : ∀ v, v ∈ ps → partOk v) (hl : ps.length ≤ 2) (I : Its h0 it ps) (hn : h0.n ≤ 900000) :
    ∃ i h', ComR BP (d + 1) C h0 partE (.loc 120) it none (.ref i) h' ∧ LAt h' i ps ∧ (h0.n ≤ i ∧ i < 1000000) ∧ Ex X0 1 h0 h' := by
  obtain ⟨i, us, h', R, y, fr, a, -, x⟩ := comp_all (B := BP) (d := d + 1) (elt := partE) (t := .loc 120) (C := C) (c := 0) (fun _ v u => u = v) (fun _ y => y) (F := F1 120) (.inl rfl) (M := 900000) (by decide) I hl (Nat.le_trans hn (by decide)) fun v L h a hv f x hn => by
    obtain ⟨a, b, rfl, ha, hb⟩ := hp v hv
    exact ⟨[(120, .tup [.str a, .str b])], .tup [.str a, .str b], h, fun n => by rcases f with rfl | ⟨a, rfl⟩ <;> rfl, .inr ⟨_, rfl⟩, ev_px (k := 9) (A := [.a, .a]) (by kernel_rfl) trivial, rfl, Ex.refl X0 h⟩
  exact ⟨i, h', R, all2_eq a ▸ y, fr, x⟩
end
end
section
noncomputable def AltAt (R : Nat) (h : Hp) (v u : V) : Prop := ∃ ps e i, v = .tup [.tup ps, .str e] ∧ u = .tup [.ref i, .str e] ∧ LAt h i ps ∧ i ≠ R ∧ okS e = true ∧ (∀ p, p ∈ ps → partOk p) ∧ ps.length ≤ 2
theorem AltAt.mono {R a : Nat} {h h' : Hp} {v u : V} (x : Ex (X1 R) a h h') : AltAt R h v u → AltAt R h' v u := fun ⟨ps, e, i, a, b, c, n, d⟩ => ⟨ps, e, i, a, b, c.ex x n, n, d⟩
noncomputable def RuleAt (R : Nat) (h : Hp) (v u : V) : Prop := ∃ hd ln as i ts, v = .tup [.tup [.str hd, .int ln], .tup as] ∧ u = .tup [.tup [.str hd, .int ln], .ref i] ∧ LAt h i ts ∧ i ≠ R ∧ All2 (AltAt R h) as ts ∧ okS hd = true ∧ as.length ≤ 2
theorem RuleAt.mono {R a : Nat} {h h' : Hp} {v u : V} (x : Ex (X1 R) a h h') : RuleAt R h v u → RuleAt R h' v u := fun ⟨hd, ln, as, i, ts, a, b, c, n, d, e⟩ => ⟨hd, ln, as, i, ts, a, b, c.ex x n, n, d.imp fun _ _ => AltAt.mono x, e⟩
noncomputable def altE1 : E := .tpl [.comp partE (.loc 120) (.loc 75) none, .loc 64]
noncomputable def altE2 : E := .tpl [.call 86 [.loc 75], .loc 64]
section
variable (d : Nat) {C : List (Nat × Nat)} {it : V} {h0 : Hp} {R : Nat} (hR : ∀ i, h0.n ≤ i → i < 1000000 → i ≠ R)
include hR
theorem alts_comp1 {as : List V} (ha : ∀ v, v ∈ as → altOk v) (hl : as.length ≤ 2) (I : Its h0 it as) (hn : h0.n ≤ 800000) :
    ∃ i us h', ComR BP (d + 1) C h0 altE1 (.tup [75, 64]) it none (.ref i) h' ∧ LAt h' i us ∧ (h0.n ≤ i ∧ i < 1000000) ∧ All2 (AltAt R h') as us ∧ us.length ≤ 2 ∧ Ex X0 3 h0 h' :=
  comp_all (c := 1) (AltAt R) (fun x => AltAt.mono x.of0) (F := F2 75 64) (.inl rfl) (M := 900000) (by decide) I hl (Nat.le_trans (Nat.add_le_add_right hn 2) (by decide)) fun v L h a hv f x hn => by
    obtain ⟨ps, e, rfl, he, hp, hpl⟩ := ha v hv
    obtain ⟨i, h', K, y, fr, x'⟩ := parts_comp d (C := C) hp hpl (.inl rfl) hn
    exact ⟨[(75, .tup ps), (64, .str e)], .tup [.ref i, .str e], h', fun n => by rcases f with rfl | ⟨a, b, rfl⟩ <;> rfl, .inr ⟨_, _, rfl⟩, ev_px (k := 9) (A := [.c (.ref i) h']) (by kernel_rfl) (U1 K), ⟨ps, e, i, rfl, rfl, y, hR _ (Nat.le_trans x.le fr.1) fr.2, he, hp, hpl⟩, x'⟩
theorem alts_comp2 {as : List V} (ha : ∀ v, v ∈ as → altOk v) (hl : as.length ≤ 2) (I : Its h0 it as) (hn : h0.n ≤ 800000) :
    ∃ i us h', ComR BP (d + 1) C h0 altE2 (.tup [75, 64]) it none (.ref i) h' ∧ LAt h' i us ∧ (h0.n ≤ i ∧ i < 1000000) ∧ All2 (AltAt R h') as us ∧ us.length ≤ 2 ∧ Ex X0 3 h0 h' :=
  comp_all (c := 1) (AltAt R) (fun x => AltAt.mono x.of0) (F := F2 75 64) (.inl rfl) (M := 900000) (by decide) I hl (Nat.le_trans (Nat.add_le_add_right hn 2) (by decide)) fun v L h a hv f x hn9 => by
    obtain ⟨ps, e, rfl, he, hp, hpl⟩ := ha v hv
    have hn := Nat.lt_of_le_of_lt hn9 (show 900000 < 1000000 by decide)
    exact ⟨[(75, .tup ps), (64, .str e)], .tup [.ref h.n, .str e], h.push (.list ps), fun n => by rcases f with rfl | ⟨a, b, rfl⟩ <;> rfl, .inr ⟨_, _, rfl⟩, ev_px (k := 9) (A := [.c (.ref h.n) (h.push (.list ps))]) (by kernel_rfl) (U1 (list_tup (Nat.lt_of_le_of_lt hpl (by decide)) hn)), ⟨ps, e, h.n, rfl, rfl, LAt.push hn, hR _ x.le hn, he, hp, hpl⟩, Ex.push X0 _ hn⟩
end
end
section
section
variable (d : Nat) {C : List (Nat × Nat)} {it : V} {h0 : Hp} {R : Nat} (hR : ∀ i, h0.n ≤ i → i < 1000000 → i ≠ R)
include hR
theorem rules_comp {rs : List V} (hr : ∀ v, v ∈ rs → ruleOk v) (hl : rs.length ≤ 2) (I : Its h0 it rs) (hn : h0.n ≤ 300000) :
    ∃ i us h', ComR BP (d + 1) C h0 (.tpl [.loc 116, .comp altE2 (.tup [75, 64]) (.loc 119) none]) (.tup [116, 119]) it none (.ref i) h' ∧ LAt h' i us ∧ (h0.n ≤ i ∧ i < 1000000) ∧ All2 (RuleAt R h') rs us ∧ us.length ≤ 2 ∧ Ex X0 7 h0 h' :=
  comp_all (c := 3) (RuleAt R) (fun x => RuleAt.mono x.of0) (F := F2 116 119) (.inl rfl) (M := 800000) (by decide) I hl (Nat.le_trans (Nat.add_le_add_right hn 6) (by decide)) fun v L h a hv f x hn => by
    obtain ⟨hd, ln, as, rfl, ho, has, hal⟩ := hr v hv
    obtain ⟨i, ts, h', K, y, fr, a2, -, x'⟩ := alts_comp2 d (C := C) (fun i hi => hR i (Nat.le_trans x.le hi)) has hal (.inl rfl) hn
    exact ⟨[(116, .tup [.str hd, .int ln]), (119, .tup as)], .tup [.tup [.str hd, .int ln], .ref i], h', fun n => by rcases f with rfl | ⟨a, b, rfl⟩ <;> rfl, .inr ⟨_, _, rfl⟩, ev_px (k := 9) (A := [.c (.ref i) h']) (by kernel_rfl) (U1 K), ⟨hd, ln, as, i, ts, rfl, rfl, y, hR _ (Nat.le_trans x.le fr.1) fr.2, a2, ho, hal⟩, x'⟩
end
end
section
theorem fo_map {B : Tb} {d c M R : Nat} {b : List St} {t : Tgt} {C : List (Nat × Nat)} (P : Hp → V → V → Prop) (mono : ∀ {a : Nat} {h h' : Hp} {v u : V}, Ex (X1 R) a h h' → P h v u → P h' v u) {Inv : List (Nat × V) → Prop} {vs : List V} {h0 : Hp}
    (step : ∀ (v : V) (L : List (Nat × V)) (h : Hp) (us : List V) (a : Nat), v ∈ vs → Inv L → LAt h R us → us.length < vs.length → Ex (X1 R) a h0 h → h.n ≤ M → ∃ L1 L' h' u, (∀ n, asg B (run B n) d ⟨L, C⟩ h t v = some (⟨L1, C⟩, h)) ∧ REx B d ⟨L1, C⟩ h b .next ⟨L', C⟩ h' ∧ Inv L' ∧ LAt h' R (us ++ [u]) ∧ P h' v u ∧ Ex (X1 R) c h h') :
    ∀ (rs ps us : List V) (L : List (Nat × V)) (h : Hp), vs = ps ++ rs → Inv L → LAt h R us → All2 (P h) ps us → Ex (X1 R) (c * ps.length) h0 h → h0.n + c * vs.length ≤ M → ∃ L' h' us', RFo B d ⟨L, C⟩ h t (.tup vs) ps.length b .next ⟨L', C⟩ h' ∧ Inv L' ∧ LAt h' R us' ∧ All2 (P h') vs us' ∧ Ex (X1 R) (c * vs.length) h0 h'
  | [], ps, us, L, h, e, i, y, a, x, hM => by
    rw [List.append_nil] at e
    subst e
    exact ⟨L, h, us, fo_end (congrArg some (nth_end vs)), i, y, a, x⟩
  | v :: rs, ps, us, L, h, e, i, y, a, x, hM => by
    have hp : ps.length + 1 ≤ vs.length := by rw [e, List.length_append]; exact Nat.add_le_add_left (Nat.succ_pos _) _
    obtain ⟨L1, L2, h1, u, as, r, i1, y1, q, x1⟩ := step v L h us _ (e ▸ List.mem_append.mpr (.inr (.head _))) i y (a.len ▸ hp) x (Nat.le_trans x.lt (Nat.le_trans (Nat.add_le_add_left (Nat.mul_le_mul_left c (Nat.le_of_succ_le hp)) _) hM))
    have hc : c * ps.length + c = c * (ps ++ [v]).length := by rw [List.length_append]; rfl
    obtain ⟨L3, h3, us', r3, i3, y3, a3, x3⟩ := fo_map P mono step rs (ps ++ [v]) (us ++ [u]) L2 h1 (by rw [List.append_assoc]; exact e) i1 y1 ((a.imp fun _ _ => mono x1).snoc q) (hc ▸ x.trans x1) hM
    rw [List.length_append] at r3
    exact ⟨L3, h3, us', fo_next (congrArg some (e ▸ nth_mid v rs ps)) as r r3, i3, y3, a3, x3⟩
noncomputable def treeB : List St := [.asg (.loc 147) (.comp altE1 (.tup [75, 64]) (.loc 119) none), .expr (.mcall (.loc 51) 38 [.tpl [.tpl [.sub (.loc 116) (.ci 0), .sub (.loc 116) (.ci 1)], .loc 147]])]
noncomputable def trF (a b c : V) (o : Option (V × V × V)) : List (Nat × V) := (146, a) :: (114, b) :: (51, c) :: match o with
  | some (x, y, z) => [(116, x), (119, y), (147, z)]
  | none => []
end
section
theorem tree_loop (d : Nat) {h : Hp} {R : Nat} {rs : List V} (a b : V) (hr : ∀ v, v ∈ rs → ruleOk v) (hl : rs.length ≤ 2) (y : LAt h R []) (hn : h.n ≤ 100000) :
    ∃ L' h' us, RFo BP (d + 1) ⟨trF a b (.ref R) none, []⟩ h (.tup [116, 119]) (.tup rs) 0 treeB .next ⟨L', []⟩ h' ∧ (∃ o, L' = trF a b (.ref R) o) ∧ LAt h' R us ∧ All2 (RuleAt R h') rs us ∧ Ex (X1 R) 6 h h' := by
  obtain ⟨L', h', us, F, i, y', a', x⟩ := fo_map (B := BP) (d := d + 1) (c := 3) (M := 200000) (R := R) (b := treeB) (t := .tup [116, 119]) (C := []) (RuleAt R) RuleAt.mono (Inv := fun L => ∃ o, L = trF a b (.ref R) o) (vs := rs) (h0 := h) (fun v L h1 us c hv i y1 hu x hn => by
    obtain ⟨hd, ln, as, rfl, ho, has, hal⟩ := hr v hv
    obtain ⟨o, rfl⟩ := i
    obtain ⟨j, ts, h2, K, yj, fr, a2, -, x2⟩ := alts_comp1 d (C := []) (R := R) (h0 := h1) (fun i hi _ => Nat.ne_of_gt (Nat.lt_of_lt_of_le y1.1 hi)) has hal (.inl rfl) (Nat.le_trans hn (by decide))
    have y2 := y1.ex x2 id
    obtain ⟨M, W⟩ := app (B := BP) y2 (Nat.lt_of_lt_of_le hu (Nat.le_trans hl (by decide))) (.tup [.tup [.str hd, .int ln], .ref j])
    have hR := Nat.lt_of_lt_of_le y1.1 (Nat.le_trans hn (show 200000 ≤ 1000000 by decide))
    have X := x2.of0.app hR (.list (us ++ [.tup [.tup [.str hd, .int ln], .ref j]])) (Nat.le_trans (x2.cap hn) (by decide))
    have nj : j ≠ R := Nat.ne_of_gt (Nat.lt_of_lt_of_le y1.1 fr.1)
    have XS := Ex.set (h := h2) (R := R) (.list (us ++ [.tup [.tup [.str hd, .int ln], .ref j]])) hR (Nat.le_trans (x2.cap hn) (by decide))
    refine ⟨setL (setL (trF a b (.ref R) o) 116 (.tup [.str hd, .int ln])) 119 (.tup as), trF a b (.ref R) (some (.tup [.str hd, .int ln], .tup as, .ref j)), h2.set R (.list (us ++ [.tup [.tup [.str hd, .int ln], .ref j]])), _, fun n => rfl, ?_, ⟨_, rfl⟩, y2.set, ⟨hd, ln, as, j, ts, rfl, rfl, yj.ex XS nj, nj, a2.imp fun _ _ => AltAt.mono XS, ho, hal⟩, X⟩
    cases o <;> exact ex_px (k := 20) (A := [.c (.ref j) h2, .m none, .a, .a, .c .none (h2.set R (.list (us ++ [.tup [.tup [.str hd, .int ln], .ref j]])))]) (by kernel_rfl) (U3 W M K)) rs [] [] _ h rfl ⟨none, rfl⟩ y .nil (Ex.refl _ h) (Nat.le_trans (Nat.add_le_add hn (Nat.mul_le_mul_left 3 hl)) (by decide))
  exact ⟨L', h', us, F, i, y', a', x.wide (Nat.mul_le_mul_left 3 hl)⟩
end
section
theorem gt_new (d : Nat) (a b : V) {h : Hp} (hn : h.n + 2 ≤ 1000000) : RCl BP (d + 2) 649 [a, b] h (.ref (h.n + 1)) (newH h 649 [(114, a), (51, b)]) :=
  cls_px hn rfl rfl rfl rfl (cl_px (fn := ⟨[0, 114, 51], [], [], b641⟩) rfl rfl (k := 20) (A := [.s ⟨[(51, b), (114, a), (0, .ref (h.n + 1))], []⟩ (newH h 649 [(114, a)]), .s ⟨[(51, b), (114, a), (0, .ref (h.n + 1))], []⟩ (newH h 649 [(114, a), (51, b)])]) (by kernel_rfl)
    (U2 (putA_new (c := 649) (fs := [(114, a)]) ⟨[(51, b), (114, a), (0, .ref (h.n + 1))], []⟩ b hn (a := 51) rfl rfl) (putA_new (c := 649) (fs := []) ⟨[(51, b), (114, a), (0, .ref (h.n + 1))], []⟩ a hn (a := 114) rfl rfl)))
theorem tree_run (d : Nat) {h : Hp} {ds rs : List V} (hd : ∀ v, v ∈ ds → declOk v) (hdl : ds.length ≤ 2) (hr : ∀ v, v ∈ rs → ruleOk v) (hrl : rs.length ≤ 2) (hn : h.n ≤ 90000) :
    ∃ h' t td D R ud ur, RCl BP (d + 3) 774 [.tup [.tup ds, .tup rs]] h (.ref t) h' ∧ h'.get t = some (.inst 649 td) ∧ h'.get td = some (.flds [(114, .ref D), (51, .ref R)]) ∧ t < h'.n ∧ td < h'.n ∧ LAt h' D ud ∧ All2 (DeclAt h') ds ud ∧ LAt h' R ur ∧ All2 (RuleAt R h') rs ur ∧ Ex X0 12 h h' := by
  obtain ⟨D, ud, h1, K, yD, -, aD, -, x1⟩ := decls_comp (d + 1) (C := []) (it := .tup ds) hd hdl (.inl rfl) (Nat.le_trans hn (by decide))
  have n1 := x1.cap hn
  have n1' := Nat.lt_of_le_of_lt n1 (show 90003 < 1000000 by decide)
  have N := newList_push (h := h1) (vs := []) (by decide) n1'
  have yR := LAt.push (h := h1) (vs := []) n1'
  have x2 := Ex.push X0 (.list []) n1'
  have hR : (h1.push (.list [])).n = h1.n + 1 := rfl
  generalize h1.push (.list []) = h2 at *
  obtain ⟨L', h3, ur, F, ⟨o, rfl⟩, yR3, aR, x3⟩ := tree_loop (d + 1) (.tup [.tup ds, .tup rs]) (.ref D) hr hrl yR (Nat.le_trans (Nat.le_of_eq hR) (Nat.le_trans (Nat.succ_le_succ n1) (by decide)))
  have X3 : Ex X0 7 h1 h3 := (x2.of0.trans x3 : Ex (X1 h1.n) _ h1 h3).up (by decide) fun i hi q => absurd q (Nat.ne_of_lt hi)
  have n3 : h3.n + 2 ≤ 1000000 := Nat.le_trans (Nat.add_le_add_right (X3.cap n1) 2) (by decide)
  have G := gt_new d (.ref D) (.ref h1.n) (h := h3) n3
  have FR : ForR BP (d + 2) ⟨trF (.tup [.tup ds, .tup rs]) (.ref D) (.ref h1.n) none, []⟩ h2 (.tup [116, 119]) (.tup rs) treeB .next ⟨trF (.tup [.tup ds, .tup rs]) (.ref D) (.ref h1.n) o, []⟩ h3 := ⟨rfl, rfl, F⟩
  have x4 : ∀ X, Ex X 2 h3 (newH h3 649 [(114, .ref D), (51, .ref h1.n)]) := fun X => (Ex.push X _ (Nat.lt_of_succ_lt n3)).trans (Ex.push X (h := h3.push (.flds _)) _ n3)
  have x13 := X3.trans (x4 X0)
  exact ⟨_, h3.n + 1, h3.n, D, h1.n, ud, ur, cl_px (fn := ⟨[146], [], [], b774⟩) rfl rfl (k := 20) (A := [.a, .c (.ref D) h1, .c (.ref h1.n) h2, .a, .f .next ⟨trF (.tup [.tup ds, .tup rs]) (.ref D) (.ref h1.n) o, []⟩ h3, .c (.ref (h3.n + 1)) (newH h3 649 [(114, .ref D), (51, .ref h1.n)])]) (by kernel_rfl) (U4 G FR N K), get_n1 _ _ n3, get_n0 _ _ n3, Nat.lt_succ_self _, Nat.lt_succ_of_lt (Nat.lt_succ_self _), yD.ex x13 id, aD.imp fun _ _ => DeclAt.mono x13, yR3.ex (x4 X0) id, aR.imp fun _ _ => RuleAt.mono (x4 _), x1.trans x13⟩
end
section
noncomputable def fD (v : V) : V := match v with
  | .tup [w, .tup us] => .tup [w, .rol us]
  | v => v
noncomputable def fA (v : V) : V := match v with
  | .tup [.tup ps, e] => .tup [.rol ps, e]
  | v => v
noncomputable def fR (v : V) : V := match v with
  | .tup [hd, .tup as] => .tup [hd, .rol (as.map fA)]
  | v => v
theorem frz_tup {f : Nat} {h : Hp} {vs us : List V} (e : mapO (frz f h) vs = some us) : frz (f + 1) h (.tup vs) = some (.tup us) := by
  show (match mapO (frz f h) vs with | some us => some (V.tup us) | none => none) = _
  rw [e]
theorem sym_frz {f : Nat} {h : Hp} {u : V} (s : symOk u) : frz (f + 1) h u = some u ∧ dataV u = true := by
  rcases s with rfl | ⟨t, rfl, ht⟩
  · exact ⟨rfl, rfl⟩
  · exact ⟨rfl, ht⟩
theorem part_frz {f : Nat} {h : Hp} {u : V} (s : partOk u) : frz (f + 2) h u = some u ∧ dataV u = true := by
  obtain ⟨a, b, rfl, ha, hb⟩ := s
  exact ⟨rfl, Bool.and_eq_true_iff.mpr ⟨ha, Bool.and_eq_true_iff.mpr ⟨hb, rfl⟩⟩⟩
theorem data2 {a b : V} (ha : dataV a = true) (hb : dataV b = true) : dataV (.tup [a, b]) = true := Bool.and_eq_true_iff.mpr ⟨ha, Bool.and_eq_true_iff.mpr ⟨hb, rfl⟩⟩
theorem decl_frz {h : Hp} {v u : V} (x : DeclAt h v u) : frz 11 h u = some (fD v) ∧ dataV (fD v) = true := by
  obtain ⟨w, us, i, rfl, rfl, g, hw, hu, _⟩ := x
  exact ⟨frz_tup (mapO_cons rfl (mapO_cons (frz_list g.2 (mapO_id fun u hx => (sym_frz (hu u hx)).1)) rfl)), data2 hw (datas_of fun u hx => (sym_frz (f := 0) (h := h) (hu u hx)).2)⟩
theorem alt_frz {R : Nat} {h : Hp} {v u : V} (x : AltAt R h v u) : frz 9 h u = some (fA v) ∧ dataV (fA v) = true := by
  obtain ⟨ps, e, i, rfl, rfl, g, _, he, hp, _⟩ := x
  exact ⟨frz_tup (mapO_cons (frz_list g.2 (mapO_id fun u hx => (part_frz (hp u hx)).1)) (mapO_cons rfl rfl)), data2 (datas_of fun u hx => (part_frz (f := 0) (h := h) (hp u hx)).2) he⟩
theorem mapO_all2 {P : V → V → Prop} {g : V → Option V} {G : V → V} (hg : ∀ v u, P v u → g u = some (G v)) {vs us : List V} (x : All2 P vs us) : mapO g us = some (vs.map G) :=
  All2.rec (motive := fun vs us _ => mapO g us = some (vs.map G)) rfl (fun x _ ih => mapO_cons (hg _ _ x) ih) x
theorem all2_data {P : V → V → Prop} {G : V → V} (hg : ∀ v u, P v u → dataV (G v) = true) {vs us : List V} (x : All2 P vs us) : dataVs (vs.map G) = true :=
  All2.rec (motive := fun vs us _ => dataVs (vs.map G) = true) rfl (fun x _ ih => Bool.and_eq_true_iff.mpr ⟨hg _ _ x, ih⟩) x
theorem rule_frz {R : Nat} {h : Hp} {v u : V} (x : RuleAt R h v u) : frz 11 h u = some (fR v) ∧ dataV (fR v) = true := by
  obtain ⟨hd, ln, as, i, ts, rfl, rfl, g, _, a, ho, _⟩ := x
  exact ⟨frz_tup (mapO_cons rfl (mapO_cons (frz_list g.2 (mapO_all2 (P := AltAt R h) (g := frz 9 h) (G := fA) (fun _ _ y => (alt_frz y).1) a)) rfl)), data2 (data2 ho rfl) (all2_data (P := AltAt R h) (G := fA) (fun _ _ y => (alt_frz y).2) a)⟩
theorem decls_frz {h : Hp} {D : Nat} {ds ud : List V} (g : LAt h D ud) (a : All2 (DeclAt h) ds ud) : frz 12 h (.ref D) = some (.rol (ds.map fD)) ∧ dataV (.rol (ds.map fD)) = true := ⟨frz_list g.2 (mapO_all2 (P := DeclAt h) (g := frz 11 h) (G := fD) (fun _ _ y => (decl_frz y).1) a), all2_data (P := DeclAt h) (G := fD) (fun _ _ y => (decl_frz y).2) a⟩
theorem rules_frz {R : Nat} {h : Hp} {D : Nat} {rs ur : List V} (g : LAt h D ur) (a : All2 (RuleAt R h) rs ur) : frz 12 h (.ref D) = some (.rol (rs.map fR)) ∧ dataV (.rol (rs.map fR)) = true := ⟨frz_list g.2 (mapO_all2 (P := RuleAt R h) (g := frz 11 h) (G := fR) (fun _ _ y => (rule_frz y).1) a), all2_data (P := RuleAt R h) (G := fR) (fun _ _ y => (rule_frz y).2) a⟩
end
section
theorem all2_right {P : V → V → Prop} {vs us : List V} (x : All2 P vs us) : ∀ u, u ∈ us → ∃ v, v ∈ vs ∧ P v u := by
  induction x with
  | nil => exact fun v hv => nomatch hv
  | cons x _ ih => exact fun v hv => (List.mem_cons.mp hv).elim (fun e => ⟨_, .head _, e ▸ x⟩) fun hv => (ih v hv).imp fun _ z => ⟨.tail _ z.1, z.2⟩
noncomputable def A2I (P : V → V → Prop) (us : List V) : List V → Prop
  | [] => us = []
  | v :: vs => ∃ u r, us = u :: r ∧ P v u ∧ All2 P vs r
theorem All2.inv {P : V → V → Prop} {vs us : List V} (x : All2 P vs us) : A2I P us vs :=
  All2.casesOn (motive := fun vs us _ => A2I P us vs) x rfl fun x r => ⟨_, _, rfl, x, r⟩
theorem all2_back {P : V → V → Prop} {G : V → V} {vs us : List V} (a : All2 P vs us) : ∀ (outs : List V), All2 (fun u o => ∀ v, P v u → o = G v) us outs → outs = vs.map G :=
  All2.rec (motive := fun vs us _ => ∀ (outs : List V), All2 (fun u o => ∀ v, P v u → o = G v) us outs → outs = vs.map G) (fun _ b => b.inv) (fun x _ ih _ b => by
    obtain ⟨u, r, e, y, t⟩ := b.inv
    rw [e, y _ x, ih _ t]
    rfl) a
theorem tup2 {a b c e : V} (h : V.tup [a, b] = .tup [c, e]) : a = c ∧ b = e := by
  injection h with h
  injection h with h1 h
  injection h with h2
  exact ⟨h1, h2⟩
theorem lat_eq {h : Hp} {i : Nat} {us vs : List V} (x : LAt h i us) (y : LAt h i vs) : us = vs := by
  have := x.2.symm.trans y.2
  injection this with e
  injection e
theorem decl_one {h : Hp} {v v' u : V} (x : DeclAt h v u) (y : DeclAt h v' u) : v = v' := by
  obtain ⟨w, us, i, rfl, rfl, g, _⟩ := x
  obtain ⟨w2, us2, i2, rfl, e, g2, _⟩ := y
  obtain ⟨e1, e2⟩ := tup2 e
  injection e2 with e2
  subst e2
  rw [e1, lat_eq g g2]
theorem alt_one {R : Nat} {h : Hp} {v v' u : V} (x : AltAt R h v u) (y : AltAt R h v' u) : v = v' := by
  obtain ⟨w, us, i, rfl, rfl, g, _⟩ := x
  obtain ⟨w2, us2, i2, rfl, e, g2, _⟩ := y
  obtain ⟨e2, e1⟩ := tup2 e
  injection e2 with e2
  subst e2
  rw [e1, lat_eq g g2]
noncomputable def A2J (P : V → V → Prop) (vs : List V) : List V → Prop
  | [] => vs = []
  | u :: us => ∃ v r, vs = v :: r ∧ P v u ∧ All2 P r us
theorem All2.jnv {P : V → V → Prop} {vs us : List V} (x : All2 P vs us) : A2J P vs us :=
  All2.casesOn (motive := fun vs us _ => A2J P vs us) x rfl fun x r => ⟨_, _, rfl, x, r⟩
theorem all2_one {P : V → V → Prop} (k : ∀ v v' u, P v u → P v' u → v = v') {us vs vs' : List V} (a : All2 P vs us) (b : All2 P vs' us) : vs = vs' :=
  All2.rec (motive := fun vs us _ => ∀ (vs' : List V), All2 P vs' us → vs = vs') (fun _ b => b.jnv.symm) (fun x _ ih _ b => by
    obtain ⟨u, r, e, y, t⟩ := b.jnv
    rw [e, k _ _ _ x y, ih _ t]) a _ b
noncomputable def fT (v : V) : V := match v with
  | .tup [.tup [hd, _], as] => .tup [hd, as]
  | v => v
theorem rule_one {R : Nat} {h : Hp} {v v' u : V} (x : RuleAt R h v u) (y : RuleAt R h v' u) : v = v' := by
  obtain ⟨hd, ln, as, i, ts, rfl, rfl, g, _, a, _⟩ := x
  obtain ⟨hd2, ln2, as2, i2, ts2, rfl, e, g2, _, a2, _⟩ := y
  obtain ⟨e1, e2⟩ := tup2 e
  injection e2 with e2
  subst e2
  have e3 : as = as2 := all2_one (P := AltAt R h) (fun _ _ _ => alt_one) a (lat_eq g g2 ▸ a2)
  rw [e1, e3]
end
section
section
variable (d : Nat) {C : List (Nat × Nat)} {h0 : Hp}
theorem told_decls {ds ud : List V} {D : Nat} (y : LAt h0 D ud) (a : All2 (DeclAt h0) ds ud) (hl : ud.length ≤ 2) (hn : h0.n ≤ 500000) :
    ∃ i h', ComR BP (d + 1) C h0 (.tpl [.loc 10, .call 89 [.loc 115]]) (.tup [10, 115]) (.ref D) none (.ref i) h' ∧ LAt h' i ds ∧ Ex X0 1 h0 h' := by
  obtain ⟨i, us, h', R, yi, -, b, -, x⟩ := comp_all (B := BP) (d := d + 1) (elt := .tpl [.loc 10, .call 89 [.loc 115]]) (t := .tup [10, 115]) (C := C) (c := 0) (fun _ u o => ∀ v, DeclAt h0 v u → o = v) (fun _ y => y) (F := F2 10 115) (.inl rfl) (M := 900000) (by decide) (.inr ⟨D, rfl, y⟩) hl (Nat.le_trans hn (by decide)) fun u L h e hu f x hn => by
    obtain ⟨v, hv, q⟩ := all2_right a u hu
    have q0 := q
    obtain ⟨w, us, i, rfl, rfl, g, hw, hs, hul⟩ := q
    exact ⟨[(10, .str w), (115, .ref i)], .tup [.str w, .tup us], h, fun n => by rcases f with rfl | ⟨a, b, rfl⟩ <;> rfl, .inr ⟨_, _, rfl⟩, ev_px (k := 9) (A := [.c (.tup us) h]) (by kernel_rfl) (U1 (tuple_ok (g.ex x id) (Nat.lt_of_le_of_lt hul (by decide)))), fun v' q' => decl_one q0 q', Ex.refl X0 h⟩
  have e := all2_back (G := fun v => v) a _ b
  rw [List.map_id'] at e
  exact ⟨i, h', R, e ▸ yi, x⟩
end
end
section
theorem all2_map {f : V → V} {vs us : List V} (x : All2 (fun v u => u = f v) vs us) : us = vs.map f :=
  All2.rec (motive := fun vs us _ => us = vs.map f) rfl (fun x _ ih => by rw [x, ih]; rfl) x
section
variable (d : Nat) {C : List (Nat × Nat)} {h h0 : Hp} {R : Nat}
theorem told_alt {v u : V} (x : AltAt R h v u) (hn : h.n ≤ 900000) : ∃ h', RCl BP (d + 2) 658 [u] h v h' ∧ Ex X0 1 h h' := by
  obtain ⟨ps, e, i, rfl, rfl, g, _, he, hp, hl⟩ := x
  obtain ⟨j, h1, K, y, fr, x1⟩ := parts_comp d (C := []) hp hl (.inr ⟨i, rfl, g⟩) hn
  exact ⟨h1, cl_px (fn := ⟨[118], [], [], b658⟩) rfl rfl (k := 20) (A := [.c (.ref j) h1, .c (.tup ps) h1]) (by kernel_rfl) (U2 (tuple_ok y (Nat.lt_of_le_of_lt hl (by decide))) K), x1⟩
theorem told_alts {as ts : List V} {i : Nat} (y : LAt h0 i ts) (a : All2 (AltAt R h0) as ts) (hl : ts.length ≤ 2) (hn : h0.n ≤ 800000) :
    ∃ j h', ComR BP (d + 2) C h0 (.call 117 [.loc 118]) (.loc 118) (.ref i) none (.ref j) h' ∧ LAt h' j as ∧ Ex X0 3 h0 h' := by
  obtain ⟨j, us, h', K, yj, -, b, -, x⟩ := comp_all (B := BP) (d := d + 2) (elt := .call 117 [.loc 118]) (t := .loc 118) (C := C) (c := 1) (fun _ u o => ∀ v, AltAt R h0 v u → o = v) (fun _ y => y) (F := F1 118) (.inl rfl) (M := 900000) (by decide) (.inr ⟨i, rfl, y⟩) hl (Nat.le_trans (Nat.add_le_add_right hn 2) (by decide)) fun u L h e hu f x hn => by
    obtain ⟨v, hv, q⟩ := all2_right a u hu
    obtain ⟨h1, r, x1⟩ := told_alt d (q.mono x.of0) hn
    exact ⟨[(118, u)], v, h1, fun n => by rcases f with rfl | ⟨a, rfl⟩ <;> rfl, .inr ⟨_, rfl⟩, ev_px (k := 9) (A := [.c v h1]) (by kernel_rfl) (U1 r), fun v' q' => alt_one q q', x1⟩
  have e := all2_back (G := fun v => v) a _ b
  rw [List.map_id'] at e
  exact ⟨j, h', K, e ▸ yj, x⟩
theorem told_rules {rs ur : List V} {D : Nat} (y : LAt h0 D ur) (a : All2 (RuleAt R h0) rs ur) (hl : ur.length ≤ 2) (hn : h0.n ≤ 700000) :
    ∃ j h', ComR BP (d + 2) C h0 (.tpl [.sub (.loc 116) (.ci 0), .call 89 [.comp (.call 117 [.loc 118]) (.loc 118) (.loc 119) none]]) (.tup [116, 119]) (.ref D) none (.ref j) h' ∧ LAt h' j (rs.map fT) ∧ Ex X0 7 h0 h' := by
  obtain ⟨j, us, h', K, yj, -, b, -, x⟩ := comp_all (B := BP) (d := d + 2) (elt := .tpl [.sub (.loc 116) (.ci 0), .call 89 [.comp (.call 117 [.loc 118]) (.loc 118) (.loc 119) none]]) (t := .tup [116, 119]) (C := C) (c := 3) (fun _ u o => ∀ v, RuleAt R h0 v u → o = fT v) (fun _ y => y) (F := F2 116 119) (.inl rfl) (M := 800000) (by decide) (.inr ⟨D, rfl, y⟩) hl (Nat.le_trans (Nat.add_le_add_right hn 6) (by decide)) fun u L h e hu f x hn => by
    obtain ⟨v, hv, q⟩ := all2_right a u hu
    have q0 := q
    obtain ⟨hd, ln, as, i, ts, rfl, rfl, g, _, aa, ho, hal⟩ := q
    obtain ⟨k, h1, r, yk, x1⟩ := told_alts d (C := C) (R := R) (g.ex x id) (aa.imp fun _ _ => AltAt.mono x.of0) (aa.len ▸ hal) hn
    exact ⟨[(116, .tup [.str hd, .int ln]), (119, .ref i)], .tup [.str hd, .tup as], h1, fun n => by rcases f with rfl | ⟨a, b, rfl⟩ <;> rfl, .inr ⟨_, _, rfl⟩, ev_px (k := 9) (A := [.a, .c (.ref k) h1, .c (.tup as) h1]) (by kernel_rfl) (U2 (tuple_ok yk (Nat.lt_of_le_of_lt hal (by decide))) r), fun v' q' => rule_one q0 q' ▸ rfl, x1⟩
  exact ⟨j, h', K, all2_back (G := fT) a _ b ▸ yj, x⟩
theorem all2_two {P : V → V → Prop} {vs us : List V} (x : All2 P vs us) (h : vs.length ≤ 2) : us.length ≤ 2 := x.len ▸ h
theorem map_two {f : V → V} {vs : List V} (h : vs.length ≤ 2) : (vs.map f).length < 100000 := Nat.lt_of_le_of_lt ((List.length_map f).symm ▸ h) (by decide)
theorem tree_at {t td D Q : Nat} (gt : h.get t = some (.inst 649 td)) (gd : h.get td = some (.flds [(114, .ref D), (51, .ref Q)])) : attrOf BP h (.ref t) 114 = some (.ref D) ∧ attrOf BP h (.ref t) 51 = some (.ref Q) := by
  have e : ∀ a, attrOf BP h (.ref t) a = match isFld BP 649 a with
    | true => getL [(114, .ref D), (51, .ref Q)] a
    | false => none := fun a => by
    unfold attrOf
    dsimp only
    rw [gt]
    dsimp only
    rw [gd]
    all_goals rfl
  exact ⟨e 114, e 51⟩
theorem told_run {ds ud rs ur : List V} {t td D Q : Nat} (gt : h.get t = some (.inst 649 td)) (gd : h.get td = some (.flds [(114, .ref D), (51, .ref Q)])) (lt : t < h.n) (ld : td < h.n) (gD : LAt h D ud) (a : All2 (DeclAt h) ds ud) (gR : LAt h Q ur) (b : All2 (RuleAt R h) rs ur) (hdl : ds.length ≤ 2) (hrl : rs.length ≤ 2) (hn : h.n ≤ 400000) :
    ∃ h', RCl BP (d + 3) 646 [.ref t] h (.tup [.tup ds, .tup (rs.map fT)]) h' ∧ Ex X0 8 h h' := by
  obtain ⟨i, h1, K1, y1, x1⟩ := told_decls (d + 1) (C := []) gD a (all2_two a hdl) (Nat.le_trans hn (by decide))
  obtain ⟨j, h2, K2, y2, x2⟩ := told_rules d (C := []) (R := R) (gR.ex x1 id) (b.imp fun _ _ => RuleAt.mono x1.of0) (all2_two b hrl) (Nat.le_trans (x1.cap hn) (by decide))
  exact ⟨h2, cl_px (fn := ⟨[0], [], [], b646⟩) rfl rfl (k := 20) (A := [.v (.ref D), .c (.ref i) h1, .c (.tup ds) h1, .v (.ref Q), .c (.ref j) h2, .c (.tup (rs.map fT)) h2]) (by kernel_rfl) (U6 (tuple_ok y2 (map_two hrl)) K2 (tree_at (h := h1) ((x1.keep _ lt id).trans gt) ((x1.keep _ ld id).trans gd)).2 (tuple_ok y1 (Nat.lt_of_le_of_lt hdl (by decide))) K1 (tree_at gt gd).1), x1.trans x2⟩
theorem heads_comp {rs : List V} (hr : ∀ v, v ∈ rs → ruleOk v) (y : LAt h0 R rs) (hl : rs.length ≤ 2) (hn : h0.n ≤ 800000) :
    ∃ j h', ComR BP (d + 1) C h0 (.tpl [.sub (.loc 116) (.ci 0), .loc 119]) (.tup [116, 119]) (.ref R) none (.ref j) h' ∧ LAt h' j (rs.map fT) ∧ Ex X0 1 h0 h' := by
  obtain ⟨j, us, h', K, yj, -, b, -, x⟩ := comp_all (B := BP) (d := d + 1) (elt := .tpl [.sub (.loc 116) (.ci 0), .loc 119]) (t := .tup [116, 119]) (C := C) (c := 0) (fun _ v o => o = fT v) (fun _ y => y) (F := F2 116 119) (.inl rfl) (M := 800000) (by decide) (.inr ⟨R, rfl, y⟩) hl (Nat.le_trans hn (by decide)) fun v L h e hv f x hn => by
    obtain ⟨hd, ln, as, rfl, ho, has, hal⟩ := hr v hv
    exact ⟨[(116, .tup [.str hd, .int ln]), (119, .tup as)], .tup [.str hd, .tup as], h, fun n => by rcases f with rfl | ⟨a, b, rfl⟩ <;> rfl, .inr ⟨_, _, rfl⟩, ev_px (k := 9) (A := [.a]) (by kernel_rfl) trivial, rfl, Ex.refl X0 h⟩
  exact ⟨j, h', K, all2_map b ▸ yj, x⟩
end
end
section
section
variable {h : Hp} {f : Nat}
theorem decl_self {v : V} (x : declOk v) : frz (f + 4) h v = some v ∧ dataV v = true := by
  obtain ⟨w, us, rfl, hw, hu, _⟩ := x
  exact ⟨frz_tup (mapO_cons rfl (mapO_cons (frz_tup (mapO_id fun u hx => (sym_frz (hu u hx)).1)) rfl)), data2 hw (datas_of fun u hx => (sym_frz (f := 0) (h := h) (hu u hx)).2)⟩
theorem alt_self {v : V} (x : altOk v) : frz (f + 4) h v = some v ∧ dataV v = true := by
  obtain ⟨ps, e, rfl, he, hp, _⟩ := x
  exact ⟨frz_tup (mapO_cons (frz_tup (mapO_id fun u hx => (part_frz (hp u hx)).1)) (mapO_cons rfl rfl)), data2 (datas_of fun u hx => (part_frz (f := 0) (h := h) (hp u hx)).2) he⟩
theorem rule_self {v : V} (x : ruleOk v) : frz (f + 6) h (fT v) = some (fT v) ∧ dataV (fT v) = true := by
  obtain ⟨hd, ln, as, rfl, ho, ha, _⟩ := x
  exact ⟨frz_tup (mapO_cons rfl (mapO_cons (frz_tup (mapO_id fun u hx => (alt_self (ha u hx)).1)) rfl)), data2 ho (datas_of fun u hx => (alt_self (f := 0) (h := h) (ha u hx)).2)⟩
theorem mem_map {P : V → Prop} {g : V → V} {vs : List V} (k : ∀ v, v ∈ vs → P (g v)) : ∀ u, u ∈ vs.map g → P u := fun u hu => by
  obtain ⟨v, hv, rfl⟩ := List.mem_map.mp hu
  exact k v hv
theorem cmp_self {sd : Nat → Option (List (S × V))} {a b : V} (ea : frz 12 h (.tup [a, b]) = some (.tup [a, b])) (dx : dataV (.tup [a, b]) = true) : cmpV sd h .Eq (.tup [a, b]) (.tup [a, b]) = some true := by
  have D : deepEq h .Eq (.tup [a, b]) (.tup [a, b]) = some true := by
    unfold deepEq
    rw [ea]
    dsimp only
    rw [dx]
    show some (eqV _ _) = _
    rw [eqV_refl dx]
  exact D
theorem told_same {sd : Nat → Option (List (S × V))} {ds rs : List V} (hd : ∀ v, v ∈ ds → declOk v) (hr : ∀ v, v ∈ rs → ruleOk v) : cmpV sd h .Eq (.tup [.tup ds, .tup (rs.map fT)]) (.tup [.tup ds, .tup (rs.map fT)]) = some true :=
  cmp_self (frz_tup (mapO_cons (frz_tup (mapO_id fun u hu => (decl_self (hd u hu)).1)) (mapO_cons (frz_tup (mapO_id (mem_map (P := fun u => frz 10 h u = some u) fun v hv => (rule_self (hr v hv)).1))) rfl))) (data2 (datas_of fun u hu => (decl_self (f := 0) (h := h) (hd u hu)).2) (datas_of (mem_map (P := fun u => dataV u = true) fun v hv => (rule_self (f := 0) (h := h) (hr v hv)).2)))
end
theorem cmp_ne {sd : Nat → Option (List (S × V))} {h : Hp} {i j : Nat} {vs : List V} {x : V} (y : LAt h i vs) (ea : frz 12 h (.ref i) = some x ∧ dataV x = true) (eb : frz 12 h (.ref j) = some x ∧ dataV x = true) : cmpV sd h .NotEq (.ref i) (.ref j) = some false :=
  (cmp_refs y.2 ea.1 eb.1 ea.2 ea.2).2.trans (congrArg (fun b => some (!b)) (eqV_refl ea.2))
end
section
theorem two_len {vs : List V} {n : Nat} (e : vs.length = n) (h : n ≤ 2) : vs.length ≤ 2 := e ▸ h
theorem two_big {n : Nat} (h : n ≤ 2) : n < 100000 := Nat.lt_of_le_of_lt h (by decide)
theorem body835 (xs : List Int) (d : Nat) {h0 : Hp} (g0 : h0.get 0 = some (rowC xs)) (g1 : h0.get 1 = some (.cell none)) (hn : h0.n = 2) : ∃ L' h', REx BP (d + 3) ⟨[], C2⟩ h0 b835 (.ret (.bool true)) ⟨L', C2⟩ h' := by
  have h0n : h0.n < 1000000 := hn ▸ by decide
  have k0 : 0 < h0.n := hn ▸ by decide
  have k1 : 1 < h0.n := hn ▸ by decide
  have N1 := newList_push (h := h0) (vs := []) (by decide) h0n
  have y1 := LAt.push (h := h0) (vs := []) h0n
  have x1 := Ex.push X0 (.list []) h0n
  have c1 := x1.cap (Nat.le_of_eq hn)
  generalize h0.push (.list []) = h1 at *
  obtain ⟨p, hp, D1⟩ := draw xs (d + 2) h1 (a := 2) (m := 3) (by decide) (by decide) (by decide)
  have hp2 : p ≤ 2 := Nat.le_of_lt_succ hp
  have R1 := range_ok h1 (two_big hp2)
  have Q1 := rng_can (h := h1) (N := p) (Nat.lt_trans (two_big hp2) (by decide))
  obtain ⟨L2, h2, ds, F1, ⟨G0, G1, K1⟩, yd, ld, od, x2⟩ := decl_loop (d + 2) (xs := xs) (L := [(114, .ref h0.n)]) (h := h1) (N := p) (keep1 x1 g0 k0 id) ⟨none, keep1 x1 g1 k1 id⟩ rfl y1 hp2 (Nat.le_trans c1 (by decide)) k1
  have c2 := (x2.wide (Nat.mul_le_mul_left 3 hp2)).cap c1
  have ld := two_len ld hp2
  have h2n := Nat.lt_of_le_of_lt c2 (show 9 < 1000000 by decide)
  have N2 := newList_push (h := h2) (vs := []) (by decide) h2n
  have y2 := LAt.push (h := h2) (vs := []) h2n
  have x3 := Ex.push X0 (.list []) h2n
  have c3 := x3.cap c2
  generalize h2.push (.list []) = h3 at *
  obtain ⟨q, hq, D2⟩ := draw xs (d + 2) h3 (a := 3) (m := 2) (by decide) (by decide) (by decide)
  have hq2 : 1 + q ≤ 2 := Nat.add_le_add_left (Nat.le_of_lt_succ hq) 1
  have R2 := range_ok h3 (two_big hq2)
  have Q2 := rng_can (h := h3) (N := 1 + q) (Nat.lt_trans (two_big hq2) (by decide))
  have j1 : 1 < h2.n := Nat.lt_trans k1 yd.1
  obtain ⟨cc, G1⟩ := G1
  obtain ⟨L4, h4, rs, F2, ⟨_, _, K2⟩, yr, lr, hr, x4⟩ := rule_loop (d + 2) (xs := xs) (L := setL L2 51 (.ref h2.n)) (h := h3) (N := 1 + q) (keep1 x3 G0 (Nat.lt_trans (by decide) j1) id) ⟨cc, keep1 x3 G1 j1 id⟩ gs0 y2 hq2 (Nat.le_trans c3 (by decide)) j1
  have c4 := (x4.wide (Nat.mul_le_mul_left 10 hq2)).cap c3
  have lr := two_len lr hq2
  have yd := (yd.ex x3 id).ex x4 fun z => z.elim (Nat.ne_of_lt yd.1) (Nat.ne_of_gt k1)
  have l114 : getL L4 114 = some (.ref h0.n) := K2 114 _ rfl (gs (K1 114 _ rfl rfl) rfl)
  have l51 : getL L4 51 = some (.ref h2.n) := K2 51 _ rfl gs0
  have T1 := tuple_ok yd (two_big ld)
  have T2 := tuple_ok yr (two_big lr)
  obtain ⟨h5, t, td, D, R, ud, ur, TR, t1, t2, lt, ltd, yD, aD, yR, aR, x5⟩ := tree_run d od ld hr lr (Nat.le_trans c4 (by decide))
  have c5 := x5.cap c4
  have yd := yd.ex x5 id
  have yr := yr.ex x5 id
  have m139 : getL (setL L4 139 (.ref t)) 139 = some (.ref t) := gs0
  have m114 := gs (y := 139) (u := .ref t) l114 rfl
  have m51 := gs (y := 139) (u := .ref t) l51 rfl
  obtain ⟨i, us, h6, E6, y6, -, a6, -, x6⟩ := decls_comp (d + 2) (C := C2) od ld (.inr ⟨_, rfl, yd⟩) (Nat.le_trans c5 (by decide))
  have c6 := x6.cap c5
  have C6 := cmp_ne (sd := BP.sd) y6 (decls_frz y6 a6) (decls_frz (yD.ex x6 id) (aD.imp fun _ _ => DeclAt.mono x6))
  obtain ⟨j, vs, h7, E7, y7, -, a7, -, x7⟩ := rules_comp (d + 2) (C := C2) (R := 0) (fun i hi _ => Nat.ne_of_gt (Nat.lt_of_lt_of_le (Nat.zero_lt_of_lt (yr.ex x6 id).1) hi)) hr lr (.inr ⟨_, rfl, yr.ex x6 id⟩) (Nat.le_trans c6 (by decide))
  have c7 := x7.cap c6
  have x67 := x6.trans x7
  have C7 := cmp_ne (sd := BP.sd) y7 (rules_frz y7 a7) (rules_frz (yR.ex x67 id) (aR.imp fun _ _ => RuleAt.mono x67.of0))
  have u1 := keep1 x67 t1 lt id
  have u2 := keep1 x67 t2 ltd id
  obtain ⟨h8, E8, x8⟩ := told_run d (R := R) u1 u2 (Nat.lt_of_lt_of_le lt x67.le) (Nat.lt_of_lt_of_le ltd x67.le) (yD.ex x67 id) (aD.imp fun _ _ => DeclAt.mono x67) (yR.ex x67 id) (aR.imp fun _ _ => RuleAt.mono x67.of0) ld lr (Nat.le_trans c7 (by decide))
  have c8 := x8.cap c7
  have x68 := x67.trans x8
  have T3 := tuple_ok (yd.ex x68 id) (two_big ld)
  obtain ⟨k, h9, E9, y9, x9⟩ := heads_comp (d + 2) (C := C2) hr (yr.ex x68 id) lr (Nat.le_trans c8 (by decide))
  have T4 := tuple_ok y9 (map_two lr)
  have M : methOf BP h7 (.ref t) 147 = some (some 646) := by
    unfold methOf
    dsimp only
    rw [u1]
    dsimp only
    rw [u2]
    rfl
  exact ⟨setL L4 139 (.ref t), h9, ex_px (k := 20) (A := [.c (.ref h0.n) h1, .v (.row ⟨xs, tabOf xs⟩), .c (.int p) h1, .c (.rng 0 p) h1, .f .next ⟨L2, C2⟩ h2, .c (.ref h2.n) h3, .v (.row ⟨xs, tabOf xs⟩), .c (.int q) h3, .a, .c (.rng 0 (1 + q : Nat)) h3, .f .next ⟨L4, C2⟩ h4,
    .l (.ref h0.n), .c (.tup ds) h4, .l (.ref h2.n), .c (.tup rs) h4, .c (.ref t) h5, .l (.ref h0.n), .c (.ref i) h6, .l (.ref t), .v (.ref D), .b false, .l (.ref h2.n), .c (.ref j) h7, .l (.ref t), .v (.ref R), .b false, .l (.ref t), .m (some 646), .c (.tup [.tup ds, .tup (rs.map fT)]) h8, .l (.ref h0.n), .c (.tup ds) h8, .l (.ref h2.n), .c (.ref k) h9, .c (.tup (rs.map fT)) h9, .b true]) (by kernel_rfl)
    (cn (told_same (sd := BP.sd) (h := h9) od hr) <| cn T4 <| cn E9 <| cn m51 <| cn T3 <| cn m114 <| cn E8 <| cn M <| cn m139 <| cn C7 <| cn (tree_at (keep1 x67 t1 lt id) (keep1 x67 t2 ltd id)).2 <| cn m139 <| cn E7 <| cn m51 <| cn C6 <| cn (tree_at (keep1 x6 t1 lt id) (keep1 x6 t2 ltd id)).1 <| cn m139 <| cn E6 <| cn m114 <| cn TR <| cn T2 <| cn l51 <| cn T1 <| cn l114 <| cn (cn Q2.1 (cn Q2.2 F2)) <| cn R2 <| cn D2 <| cn (cel0 (keep1 x3 G0 (Nat.lt_trans (by decide) j1) id)) <| cn N2 <| cn (cn Q1.1 (cn Q1.2 F1)) <| cn R1 <| cn D1 <| cn (cel0 (keep1 x1 g0 k0 id)) <| cn N1 trivial)⟩
theorem does835 {prog : Program} {K : World → Frag} {xs : List Int} (h : goodRow xs = true) : Does prog K 835 xs := by
  obtain ⟨L', h', e⟩ := body835 xs 46 (h0 := (hN.push (rowC xs)).push (.cell none)) (by kernel_rfl) (by kernel_rfl) rfl
  have r : RCl BP 50 835 [.row ⟨xs, tabOf xs⟩] hN (.bool true) h' := cl_px (fn := ⟨[18], [18, 163], [], b835⟩) rfl rfl (k := 1) (A := [.x (.ret (.bool true)) ⟨L', C2⟩ h']) (by kernel_rfl) (U1 e)
  exact ⟨orcR F0, h', _, goodP prog K, rowOk_of h, r.get⟩
end
section
open PySem (Sem)
section
variable {prog : Program} {w : World} {A : Around} {E : Value → Shared → Prop} {h : Heap} {g : Array GenState} {d : Drawn} {t : Nat} {os : OsState}
variable {nm q : Str} {C N : Addr} {bs bm : List Value} {hdct : Bool} {sn : List Str} {sub : List Value} {ab : Bool} {col : Option Bool} {dd : Option Addr} {k0 k1 k2 k3 k5 : Option Value} {K : Frag} {fI : Addr}
structure ExT (bm : List Value) : Prop where
  exc : bm.contains (.type "Exception") = true
  base : bm.contains (.type "BaseException") = true
  noAttr : bm.contains (.type "AttributeError") = false
  noName : bm.contains (.type "NameError") = false
theorem ex_check_new {M : Model} (T : ExT bm) {rest : List Value} {Q : Unit → Shared → Prop} (hC : h.get? C = some (excClassObj nm q C N bs bm hdct sn sub ab col dd k0 k1 k2 k3 k5 "Exception.__new__"))
    (hq : Q () ⟨h, g, d, t, os⟩) : wpAny M A (checkBuiltinCall "Exception.__new__" ⟨.ref C :: rest, []⟩) Q E ⟨h, g, d, t, os⟩ := by
  have Fn := PySem.F.excBase_Exception
  have hcont : (Value.ref C :: bm).contains (.type "Exception") = true := by rw [List.contains_cons, T.exc, Bool.or_true]
  have hstar := Fn.noStar
  simp only [checkBuiltinCall, Fn.newKind, Fn.newSplit, Fn.newRow]
  repeat (first | refine wpAny_loadPart_at hC ?_ | (refine wpAny_isSubtype_exc hC ?_; rw [hcont]) | refine wpAny_staticBase_exc hC ?_ | refine wpAny_madeBy_exc hC ?_ | simp only [bne_self_eq_false, Bool.false_eq_true, if_false] | wp_step)
  exact hq
theorem ex_new {R : Result → Shared → Prop} (T : ExT bm) {rest : List Value} (hC : h.get? C = some (excClassObj nm q C N bs bm hdct sn sub ab col dd k0 k1 k2 k3 k5 "Exception.__new__"))
    (hq : R (.ok (.ret (.ref (h.objs.size + 1)))) ⟨(h.push { cls := .type "tuple", data := .seq rest.toArray }).push { cls := .ref C, data := .fields #[.ref h.objs.size, .none, .none, .none, .bool false, .none] }, g, d, t, os⟩) (hrest : rest.length ≤ sizeLine) :
    codeAny (model prog w) A (.builtin "Exception.__new__" ⟨.ref C :: rest, []⟩) R ⟨h, g, d, t, os⟩ := by
  have Fn := PySem.F.excBase_Exception
  have hends := Fn.ends
  have hcB : (Value.ref C :: bm).contains (.type "Exception") = true := by rw [List.contains_cons, T.exc, Bool.or_true]
  have hcA : (Value.ref C :: bm).contains (.type "AttributeError") = false := by rw [List.contains_cons, T.noAttr]; rfl
  have hcN : (Value.ref C :: bm).contains (.type "NameError") = false := by rw [List.contains_cons, T.noName]; rfl
  refine codeAny_builtinAt Fn.entry ?_
  unfold Builtin.«BaseException.__new__»
  refine PySem.wpAt_bind ?_
  show PySem.wpAt _ _ _ (stack >>= _) _ _ _
  refine PySem.wpAt_bind (PySem.wpAt_stack fun p below => PySem.wpAt_of_wpAny ?_)
  wp_walk
  refine PySem.wpAt_of_wpAny ?_
  rw [Fn.owner]
  repeat (first | with_reducible refine wpAny_madeHere_exc Fn.canon hC ?_ | with_reducible refine wpAny_loadPart_at hC ?_ | (with_reducible refine wpAny_isSubtype_exc hC ?_; first | rw [hcB] | rw [hcA] | rw [hcN]) | wp_step)
  show R _ _
  rw [Heap.size_push]
  exact hq
theorem ex_type_call (T : ExT bm) {rest : List Value} {Q : Fin → Shared → Prop} (X : K.In h)
    (hC : h.get? C = some (excClassObj nm q C N bs bm hdct sn sub ab col dd k0 k1 k2 k3 k5 "Exception.__new__")) (hi : findIn K (.ref C) "__init__" = some (some (.ref fI))) (hf : typeIn K (.ref fI) = some (.type "function"))
    (hq : ∀ h' e, Heap.MadeExcOf h h' e (.ref C) rest → wpAny (model prog w) A (call (.ref fI) (.ref e :: rest)) (fun r s' => r = .none ∧ Q (.done (.ret (.ref e))) s') E ⟨h', g, d, t, os⟩) (hrest : rest.length ≤ sizeLine) :
    wpAny (model prog w) A (Builtin.«type.__call__» ⟨.ref C :: rest, []⟩) Q E ⟨h, g, d, t, os⟩ := by
  repeat (first | with_reducible refine wpAny_loadPart_at hC ?_ | with_reducible refine wpAny_madeBy_exc hC ?_ | wp_step)
  refine codeAny_call_builtin_code (Code.quiet_builtin _ (by decide +kernel)) (ex_check_new T hC ?_)
  refine ex_new T hC ?_ hrest
  show wpAny _ _ _ _ _ _
  have hk : ∀ b o, h.get? b = some o → ((h.push { cls := .type "tuple", data := .seq rest.toArray }).push { cls := .ref C, data := .fields #[.ref h.objs.size, .none, .none, .none, .bool false, .none] }).get? b = some o := fun b o e => Heap.get?_push_of_some _ (Heap.get?_push_of_some _ e)
  have hC₁ := hk _ _ hC
  have X₁ := X.keeps hk
  have hget : ((h.push { cls := .type "tuple", data := .seq rest.toArray }).push
      { cls := .ref C, data := .fields #[.ref h.objs.size, .none, .none, .none, .bool false, .none] }).get? (h.objs.size + 1) = some
      { cls := .ref C, data := .fields #[.ref h.objs.size, .none, .none, .none, .bool false, .none] } := by heap_get
  have hcC : (Value.ref C :: bm).contains (.ref C) = true := by simp
  unfold isInstance
  repeat (first | with_reducible refine wpAny_loadPart_at hget ?_ | (with_reducible refine wpAny_isSubtype_exc hC₁ ?_; rw [hcC]) | wp_step)
  show wpAny _ _ (typeLookup (.ref C) _) _ _ _
  refine (looks_findIn X₁ hi).here ?_
  refine wpAny_holding (wpAny_bind ?_)
  unfold bindSpecial
  refine wpAny_bind ((looks_typeIn X₁ hf).here ?_)
  rw [if_pos (by decide)]
  refine wpAny_pure (wpAny_bind (wpAny_mono (hq _ (h.objs.size + 1) ⟨hk, Heap.get?_none_of_le (Nat.le_succ _), h.objs.size, hget, Heap.get?_none_of_le (Nat.le_refl _), ?_⟩) (fun r s' hr => ?_) fun _ _ x => x))
  · exact Heap.get?_push_of_some _ (Heap.get?_push_at rfl rfl)
  · obtain ⟨rfl, hQ⟩ := hr
    wp_walk
    exact hQ
theorem ex_call (T : ExT bm) {rest : List Value} {Q : Value → Shared → Prop} (X : K.In h)
    (hC : h.get? C = some (excClassObj nm q C N bs bm hdct sn sub ab col dd k0 k1 k2 k3 k5 "Exception.__new__")) (hi : findIn K (.ref C) "__init__" = some (some (.ref fI))) (hf : typeIn K (.ref fI) = some (.type "function"))
    (hq : ∀ h' e, Heap.MadeExcOf h h' e (.ref C) rest → wpAny (model prog w) (A.under (.builtin "type.__call__" ⟨.ref C :: rest, []⟩)) (call (.ref fI) (.ref e :: rest)) (fun r s' => r = .none ∧ Q (.ref e) s') E ⟨h', g, d, t, os⟩) (hrest : rest.length ≤ sizeLine) :
    wpAny (model prog w) A (call (.ref C) rest) Q E ⟨h, g, d, t, os⟩ := by
  have f1 := tc_lookup
  have f2 := tc_bind (.ref C)
  have hT : (⟨h, g, d, t, os⟩ : Shared).TypeIs (.ref C) "type" := ⟨_, hC, rfl⟩
  refine wpAny_call (codeAny_of_tree ?_)
  show wpAny _ _ (callAny (.ref C) _) _ _ _
  repeat (any_goals (first | assumption | with_reducible refine wpAny_loadPart_at hC ?_ | wp_step))
  refine ⟨rfl, ?_⟩
  refine codeAny_call_builtin_at (Code.quiet_builtin _ (by decide +kernel)) entry_typeCall (wpAny_check_type_call_sub hC (ex_type_call T X hC hi hf (fun h' e hm => ?_) hrest))
  exact hq h' e hm
end
end
section
open PySem (Sem)
open Builtin Builtin.ObjectAttr
section
variable {prog : Program} {w : World} {A : Around} {E : Value → Shared → Prop} {h : Heap} {g : Array GenState} {d : Drawn} {t : Nat} {os : OsState}
variable {nm q : Str} {C N T x : Addr} {bs : List Value} {sn : List Str} {sub : List Value} {ab : Bool} {col : Option Bool} {dd : Option Addr} {k0 k1 k2 k3 k5 : Option Value} {K : Frag} {mA : Str → Option Value} {name : Str} {v : Value}
noncomputable abbrev gObj (nm q : Str) (C N T : Addr) (bs : List Value) (sn : List Str) (sub : List Value) (ab : Bool) (col : Option Bool) (dd : Option Addr) (k0 k1 k2 k3 k5 : Option Value) : Obj :=
  excClassObj nm q C N bs [.ref T, .type "Exception", .type "BaseException", .type "object"] true sn sub ab col dd k0 k1 k2 k3 k5 "Exception.__new__"
theorem ext_of (T : Addr) : ExT [.ref T, .type "Exception", .type "BaseException", .type "object"] := by
  refine ⟨?_, ?_, ?_, ?_⟩ <;> (rw [List.contains_cons]; simp)
theorem ex_check_sa {M : Model} {o : Obj} {nameV : Value} {Q : Unit → Shared → Prop}
    (hC : h.get? C = some (gObj nm q C N T bs sn sub ab col dd k0 k1 k2 k3 k5)) (hx : h.get? x = some o) (hc : o.cls = .ref C) (hq : Q () ⟨h, g, d, t, os⟩) :
    wpAny M A (checkBuiltinCall "object.__setattr__" ⟨[.ref x, nameV, v], []⟩) Q E ⟨h, g, d, t, os⟩ := by
  have SF := PySem.F.store_Exception
  obtain ⟨sa, hsa⟩ : ∃ sa, sa = "object.__setattr__" := ⟨_, rfl⟩
  rw [← hsa] at SF ⊢
  have hcB : (Value.ref C :: [.ref T, .type "Exception", .type "BaseException", .type "object"]).contains (.type "object") = true := by simp
  have ha := SF.args (.ref x) nameV v
  simp only [checkBuiltinCall, SF.kind, SF.split]
  refine wpAny_bind ?_
  · unfold isInstance
    repeat (first | (with_reducible refine wpAny_loadPart_at hx ?_; rw [hc]) | (with_reducible refine wpAny_isSubtype_exc hC ?_; rw [hcB]) | wp_step)
    cases hsig : Manifest.signature? sa with
    | none => exact wpAny_pure hq
    | some sig =>
      simp only [argsOk, hsig] at ha
      have h2 : Bind.checkArgs sa sig ⟨[.ref x, nameV, v], []⟩ = pure () := ha
      show wpAny M A (Bind.checkArgs sa sig ⟨[.ref x, nameV, v], []⟩) Q E _
      rw [h2]; exact wpAny_pure hq
theorem ex_store_entry {tk : Tok} {Q : Fin → Shared → Prop} {ns : List Str} (X : K.In h)
    (hC : h.get? C = some (gObj nm q C N T bs sn sub ab col dd k0 k1 k2 k3 k5)) (hna : findIn K (.ref C) name = some none) (I : h.Inst x C mA)
    (hq : ∀ h' tk', h'.Inst x C (fun y => if y = name then some v else mA y) →
      (∀ b o, b ≠ x → (∀ o₀ dx, h.get? x = some o₀ → o₀.dict = some dx → b ≠ dx) → h.get? b = some o → h'.get? b = some o) →
      (∀ o₀, h.get? x = some o₀ → ∃ o₁, h'.get? x = some o₁ ∧ o₁.cls = o₀.cls ∧ o₁.data = o₀.data ∧ o₁.slots = o₀.slots ∧ (∀ dx, o₀.dict = some dx → o₁.dict = some dx) ∧ ∀ dx, o₁.dict = some dx → o₀.dict = some dx ∨ h.get? dx = none) → Q (.done (.ret .none)) ⟨h', g, d, tk', os⟩) (hw : Within mA ns) (hsz : ns.length ≤ 20) :
    wpAny (model prog w) A (Builtin.«object.__setattr__» ⟨[.ref x, .str name tk, v], []⟩) Q E ⟨h, g, d, t, os⟩ := by
  have SF := PySem.F.store_Exception
  obtain ⟨o, hx, hc, hnc, hd⟩ := I
  have hpass := SF.passes (.ref x)
  have hsz : ns.length + 2 ≤ sizeLine := by rw [sizeLine_eq]; lia
  have hl : ∀ {Q : Option Value → Shared → Prop} {E : Value → Shared → Prop} {t : Nat}, Q none ⟨h, g, d, t, os⟩ → wpAny (model prog w) A (typeLookup (.ref C) name) Q E ⟨h, g, d, t, os⟩ := fun q => (looks_findIn X hna).here q
  unfold Builtin.«object.__setattr__»
  repeat (first | rw [refuse_eq] | (rw [refuseLoop_ref, refuseLoop_ref, hpass]) | (with_reducible refine wpAny_loadPart_at hx ?_; rw [hc]) | with_reducible refine wpAny_mroOf_exc hC ?_ | (with_reducible refine hl ?_) | wp_step)
  rcases hd with ⟨hdn, hmA⟩ | ⟨dx, hdx, hne, hns⟩
  ·
    rw [hdn, if_neg (by simp [typeHasDict])]
    split
    · rename_i hcd
      cases hcd
    split
    · rename_i c hcd
      exact absurd hcd (hnc c)
    · have hx₁ : (h.push { cls := .type "dict", data := .dict #[] }).get? x = some o := Heap.get?_push_of_some _ hx
      have hxs : x ≠ h.objs.size := Nat.ne_of_lt (Heap.lt_size hx)
      refine wpAny_bind (wpAny_alloc' ?_)
      refine wpAny_bind (wpAny_update' hx₁ ?_)
      refine wpAny_pure ?_
      have hgd : ((h.push { cls := .type "dict", data := .dict #[] }).update x fun o => { cls := o.cls, dict := some h.objs.size, data := o.data, slots := o.slots }).get? h.objs.size
          = some { cls := .type "dict", data := .dict #[] } :=
        (Heap.get?_update_ne _ _ _ _ hxs.symm).trans (Heap.get?_push_at rfl rfl)
      have hnd : ((h.push { cls := .type "dict", data := .dict #[] }).update x fun o => { cls := o.cls, dict := some h.objs.size, data := o.data, slots := o.slots }).Ns h.objs.size (fun _ => none) :=
        ⟨_, #[], _, hgd, rfl, fun e he => absurd he (by simp), fun _ => rfl⟩
      show wpAny _ _ (storeInDict h.objs.size (.str name tk) name v) _ _ _
      unfold storeInDict newKeyGuard
      refine wpAny_bind (wpAny_pure (wpAny_bind (wpAny_nsSet1 (Heap.Ns1.of_empty hnd) fun h' hn' hs => ?_)))
      obtain ⟨oD, esD, epD, hoD, hdD, hcD⟩ := hn'.count (Within.cons name v Within.nil)
      refine wpAny_bind (wpAny_lookBehind hoD (by rw [hdD]; exact pastItsLine_dict (Nat.le_trans hcD (by rw [List.length_cons, List.length_nil, sizeLine_eq]; lia))) ?_)
      wp_walk
      have hx' : h'.get? x = some { cls := o.cls, dict := some h.objs.size, data := o.data, slots := o.slots } := ?_
      refine hq h' _ ⟨{ cls := o.cls, dict := some h.objs.size, data := o.data, slots := o.slots }, hx', hc, hnc, .inr ⟨h.objs.size, rfl, hxs.symm, ?_⟩⟩ (fun b ob hbx _ hb => ?_)
        (fun o₀ h₀ => by obtain rfl : o = o₀ := Option.some.inj (hx.symm.trans h₀); exact ⟨_, hx', rfl, rfl, rfl, fun dx e => (by rw [hdn] at e; cases e), fun dx e => .inr (by cases e; exact fresh_none h)⟩)
      · obtain ⟨o', es, ep, e1, e2, e3, eu, e4⟩ := hn'
        exact ⟨o', es, ep, e1, e2, e3, eu, fun y => by rw [e4 y]; by_cases hy : y = name <;> simp [hy, hmA]⟩
      · exact (hs.2 b (Nat.ne_of_lt (Heap.lt_size hb))).trans ((Heap.get?_update_ne _ _ _ _ hbx).trans (Heap.get?_push_of_some _ hb))
      · refine (hs.2 x hxs).trans (Heap.get?_update_self _ hx₁ ?_)
        have hfr := (Heap.get?_some_iff.mp hx).2
        obtain ⟨oc, od, odt, osl⟩ := o
        cases odt <;> first | rfl | exact hfr
  ·
    rw [hdx]
    refine wpAny_pure ?_
    show wpAny _ _ (storeInDict dx (.str name tk) name v) _ _ _
    unfold storeInDict newKeyGuard
    refine wpAny_bind (wpAny_pure (wpAny_bind (wpAny_nsSet1 hns fun h' hn' hs => ?_)))
    obtain ⟨oD, esD, epD, hoD, hdD, hcD⟩ := hn'.count (Within.cons name v hw)
    refine wpAny_bind (wpAny_lookBehind hoD (by rw [hdD]; exact pastItsLine_dict (Nat.le_trans hcD (by rw [List.length_cons]; lia))) ?_)
    wp_walk
    refine hq h' _ ⟨o, (hs.2 x hne.symm).trans hx, hc, hnc, .inr ⟨dx, hdx, hne, hn'⟩⟩ (fun b ob _ hbd hb => ?_)
      (fun o₀ h₀ => ⟨o₀, (hs.2 x hne.symm).trans h₀, rfl, rfl, rfl, (fun _ e => e), fun _ e => .inl e⟩)
    exact (hs.2 b (hbd o dx hx hdx)).trans hb
theorem ex_store {Q : Unit → Shared → Prop} {ns : List Str} (X : K.In h)
    (hC : h.get? C = some (gObj nm q C N T bs sn sub ab col dd k0 k1 k2 k3 k5)) (hs : findIn K (.ref C) "__setattr__" = some (some (.builtin "object.__setattr__"))) (hna : findIn K (.ref C) name = some none) (I : h.Inst x C mA)
    (hq : ∀ h' tk', h'.Inst x C (fun y => if y = name then some v else mA y) →
      (∀ b o, b ≠ x → (∀ o₀ dx, h.get? x = some o₀ → o₀.dict = some dx → b ≠ dx) → h.get? b = some o → h'.get? b = some o) →
      (∀ o₀, h.get? x = some o₀ → ∃ o₁, h'.get? x = some o₁ ∧ o₁.cls = o₀.cls ∧ o₁.data = o₀.data ∧ o₁.slots = o₀.slots ∧ (∀ dx, o₀.dict = some dx → o₁.dict = some dx) ∧ ∀ dx, o₁.dict = some dx → o₀.dict = some dx ∨ h.get? dx = none) → Q () ⟨h', g, d, tk', os⟩) (hw : Within mA ns) (hsz : ns.length ≤ 20) :
    wpAny (model prog w) A (setAttr (.ref x) name v) Q E ⟨h, g, d, t, os⟩ := by
  have SF := PySem.F.store_Exception
  obtain ⟨o, hx, hc, _⟩ := id I
  have f3 := SF.slot.bind (.ref x)
  have hl : ∀ {Q : Option Value → Shared → Prop} {E : Value → Shared → Prop} {t : Nat}, Q (some (.builtin "object.__setattr__")) ⟨h, g, d, t, os⟩ → wpAny (model prog w) A (typeLookup (.ref C) "__setattr__") Q E ⟨h, g, d, t, os⟩ := fun q => (looks_findIn X hs).here q
  unfold setAttr callSpecial? specialOf
  repeat (any_goals (first | assumption | (with_reducible refine wpAny_loadPart_at hx ?_; rw [hc]) | (with_reducible refine hl ?_) | wp_step))
  refine codeAny_call_builtin SF.slot.plain SF.entry (ex_check_sa hC hx hc (ex_store_entry X hC hna I (fun h' tk' I' hk hsame => ?_) hw hsz))
  repeat (any_goals (first | assumption | wp_step))
  exact hq h' tk' I' hk hsame
theorem ex_check_init {M : Model} {e : Addr} {oe : Obj} {rest : List Value} {Q : Unit → Shared → Prop}
    (hC : h.get? C = some (gObj nm q C N T bs sn sub ab col dd k0 k1 k2 k3 k5)) (he : h.get? e = some oe) (hcls : oe.cls = .ref C) (hq : Q () ⟨h, g, d, t, os⟩) :
    wpAny M A (checkBuiltinCall "Exception.__init__" ⟨.ref e :: rest, []⟩) Q E ⟨h, g, d, t, os⟩ := by
  have F := PySem.F.excBase_Exception
  have hcB : (Value.ref C :: [.ref T, .type "Exception", .type "BaseException", .type "object"]).contains (.type "Exception") = true := by simp
  have hshort := F.noStar
  simp only [checkBuiltinCall, F.initKind, F.initSplit, F.initRow]
  repeat (first | (with_reducible refine wpAny_loadPart_at he ?_; rw [hcls]) | with_reducible refine wpAny_loadPart_at hC ?_ | (with_reducible refine wpAny_isSubtype_exc hC ?_; rw [hcB]) | wp_step)
  refine wpAny_onRaise ?_
  rw [show ∀ (a b : String) (n : Nat), Bind.check ⟨.positional, "*", "Exception", .self, [⟨"args", .varPos, false⟩]⟩ a b n (List.map (fun x => x.fst) ({ pos := Value.ref e :: rest } : Args).kw) = pure () from
    fun a b n => check_star_args _ _ _ _ _ _]
  exact wpAny_pure hq
theorem ex_init {e t0 : Addr} {oe : Obj} {vs : Array Value} {rest : List Value} {Q : Value → Shared → Prop}
    (hC : h.get? C = some (gObj nm q C N T bs sn sub ab col dd k0 k1 k2 k3 k5)) (he : h.get? e = some oe) (hcls : oe.cls = .ref C) (hd : oe.data = .fields vs) (h0 : vs[0]? = some (.ref t0))
    (hq : Q .none ⟨(h.push { cls := .type "tuple", data := .seq rest.toArray }).update e (Obj.mapFields (·.setIfInBounds 0 (.ref h.objs.size))), g, d, t, os⟩) (hrest : rest.length ≤ sizeLine) :
    wpAny (model prog w) A (call (.builtin "Exception.__init__") (.ref e :: rest)) Q E ⟨h, g, d, t, os⟩ := by
  have F := PySem.F.excBase_Exception
  refine wpAny_call (codeAny_call_builtin F.init.plain F.initEntry (ex_check_init hC he hcls ?_))
  unfold Builtin.«BaseException.__init__»
  dsimp only
  rw [if_neg (by simp)]
  unfold newTuple Builtin.BaseException.bexcPut
  have hsz : 0 < vs.size := (Array.getElem?_eq_some_iff.mp h0).1
  have he₁ := Heap.get?_push_of_some (h := h) { cls := .type "tuple", data := .seq rest.toArray } he
  refine wpAny_bind (wpAny_newObj_type (wpAny_bind (wpAny_bind (wpAny_field he₁ hd h0 (wpAny_bind (wpAny_setField he₁ hd hsz ?_))))) (by show rest.toArray.size ≤ sizeLine; rw [List.size_toArray]; exact hrest))
  exact wpAny_letGo (wpAny_pure hq)
end
end
section
open PySem (Sem)
theorem dict_mapF (f : Array Value → Array Value) (o : Obj) : (Obj.mapFields f o).dict = o.dict := by
  obtain ⟨c, d, dt, sl⟩ := o
  cases dt <;> rfl
noncomputable def TrD (base h : Heap) (e : Addr) (cls : Value) (dd : Option Addr) (fl : Value) : Prop :=
  ∃ oe vs T oT ts, h.get? e = some oe ∧ (oe.cls = cls ∧ oe.dict = dd) ∧ oe.data = .fields vs ∧ vs[1]? = some (.ref T) ∧ base.get? T = none ∧ T ≠ e ∧ h.get? T = some oT ∧ oT.data = .fields ts ∧ ts[3]? = some fl
structure NoD (base : Heap) (l : List Env) (h h' : Heap) : Prop where
  stays : base.StaysIn h'
  frames : h'.FunFrames base l
  up : h.UpToSlots h'
  same : ∀ b o, h.get? b = some o → (∀ vs, o.data ≠ .fields vs) → b ∉ l.filterMap (·.frame) → h'.get? b = some o
theorem NoD.then {base h h1 h2 : Heap} {l : List Env} (x : NoD base l h h1) (y : NoD base l h1 h2) : NoD base l h h2 :=
  ⟨y.stays, y.frames, x.up.trans y.up, fun b o e n z => y.same b o (x.same b o e n z) n z⟩
section
variable {M : Model} {A : Around} {E : Value → Shared → Prop} {s : Shared} {base : Heap} {env : Env} {outer l : List Env} {L e : Addr} {oe : Obj} {vs : Array Value} {head cls fl : Value} {dd : Option Addr} {hadNext : Bool} {Q : Unit → Shared → Prop}
theorem d_entry (hfr : A.frames = some (env :: outer)) (hl : s.heap.FunFrames base (env :: outer)) (hf : env.frame = some L)
    (he : s.heap.get? e = some oe) (hkb : base.StaysIn s.heap) (hen : base.get? e = none) (hd : oe.data = .fields vs) (hsz : 1 < vs.size)
    (h : ∀ h', NoD base (env :: outer) s.heap h' → TrD base h' e oe.cls oe.dict (rawInt L) → Q () { s with heap := h' }) :
    wpAny M A (do let a ← frameOf env; let pl ← entryPlaceOf L hadNext; let b ← EntryCells.newEntry head a .none (rawInt L) .none pl; setField (.ref e) 1 b) Q E s := by
  have hene : e ∉ (env :: outer).filterMap (·.frame) := fun hm => by
    obtain ⟨_, o, ho, hnf⟩ := hl.mem hm
    rw [he] at ho; injection ho with ho; subst ho; exact hnf vs hd
  refine wpAny_bind (wpAny_frameOf_fun hfr hl hf fun h₁ hs₁ => ?_)
  refine wpAny_bind (wpAny_entryPlaceOf fun pl hpl => ?_)
  unfold EntryCells.newEntry newFields
  refine wpAny_bind (wpAny_newObj_type ?_ (hpl.sizeOk5 _ _ _ _ _))
  have he₁ : h₁.get? e = some oe := (hs₁.2.1 e hene).trans he
  have kb₁ : base.StaysIn h₁ := fun b o hbo => (hs₁.2.1 b fun hm => by rw [(hl.mem hm).1] at hbo; cases hbo).trans (hkb b o hbo)
  have he₂ := Heap.get?_push_of_some (h := h₁) { cls := .type "traceback", dict := none, data := .fields ([head, .ref L, .none, rawInt L, .none] ++ (if pl.isEmpty then List.replicate 6 Value.none else pl)).toArray } he₁
  refine wpAny_setField he₂ hd hsz ?_
  have hTe : h₁.objs.size ≠ e := Nat.ne_of_gt (Heap.lt_size he₁)
  have hd₃ := Obj.data_mapFields hd (·.setIfInBounds 1 (Value.ref h₁.objs.size))
  have he₃ := Heap.get?_update_self (Obj.mapFields (·.setIfInBounds 1 (Value.ref h₁.objs.size))) he₂ (Obj.isFreed_of_fields hd₃)
  have hT₃ := (Heap.get?_update_other (h₁.push { cls := .type "traceback", dict := none, data := .fields ([head, .ref L, .none, rawInt L, .none] ++ (if pl.isEmpty then List.replicate 6 Value.none else pl)).toArray })
    (Obj.mapFields (·.setIfInBounds 1 (Value.ref h₁.objs.size))) (Ne.symm hTe)).trans (Heap.get?_push_size h₁ rfl)
  have keep : ∀ b o, b ≠ e → h₁.get? b = some o →
      ((h₁.push { cls := .type "traceback", dict := none, data := .fields ([head, .ref L, .none, rawInt L, .none] ++ (if pl.isEmpty then List.replicate 6 Value.none else pl)).toArray }).update e (Obj.mapFields (·.setIfInBounds 1 (Value.ref h₁.objs.size)))).get? b = some o :=
    fun b o hbe hb => by
      rw [Heap.get?_update_other _ _ (Ne.symm hbe)]
      exact Heap.get?_push_of_some _ hb
  have noRecord : ∀ b o, s.heap.get? b = some o → (∀ vs, o.data ≠ .fields vs) → b ≠ e := fun b o hb hnf q => by
    rw [q, he] at hb; injection hb with hb; subst hb; exact hnf vs hd
  refine h _ ⟨fun b o hbo => keep b o (fun q => by rw [q, hen] at hbo; cases hbo) (kb₁ b o hbo), hl.of_keeps fun b o hb hnf => ?_, fun b o hb hnf => ?_, fun b o hb hnf hb2 => ?_⟩ ?_
  · obtain ⟨sl, hs⟩ := hs₁.2.2 b o hb
    exact ⟨_, keep b _ (noRecord b o hb hnf) hs, rfl⟩
  · obtain ⟨sl, hs⟩ := hs₁.2.2 b o hb
    exact ⟨sl, keep b _ (noRecord b o hb hnf) hs⟩
  · exact keep b _ (noRecord b o hb hnf) ((hs₁.2.1 b hb2).trans hb)
  · exact ⟨_, _, h₁.objs.size, _, _, he₃, ⟨Obj.cls_mapFields _ _, dict_mapF _ _⟩, hd₃, by simp [hsz], kb₁.fresh, hTe, hT₃, rfl, by first | (simp; done) | (rcases hpl with rfl | ⟨_, _, _, _, _, _, _, rfl⟩ <;> simp)⟩
theorem d_note1 (hfr : A.frames = some (env :: outer)) (hl : s.heap.FunFrames base (env :: outer)) (hf : env.frame = some L)
    (he : s.heap.get? e = some oe) (hkb : base.StaysIn s.heap) (hen : base.get? e = none) (hd : oe.data = .fields vs) (h1 : vs[1]? = some .none)
    (h : ∀ h', NoD base (env :: outer) s.heap h' → TrD base h' e oe.cls oe.dict (rawInt L) → Q () { s with heap := h' }) : wpAny M A (noteFrame (.ref e) env) Q E s := by
  unfold noteFrame
  simp only [hf]
  refine wpAny_bind (wpAny_field he hd h1 ?_)
  rw [if_neg (by decide)]
  exact d_entry hfr hl hf he hkb hen hd (Array.getElem?_eq_some_iff.mp h1).1 h
theorem d_note (hfr : A.frames = some (env :: outer)) (hl : s.heap.FunFrames base (env :: outer)) (hf : env.frame = some L) (ht : TrD base s.heap e cls dd .none) (hkb : base.StaysIn s.heap) (hen : base.get? e = none)
    (h : ∀ h', NoD base (env :: outer) s.heap h' → TrD base h' e cls dd (rawInt L) → Q () { s with heap := h' }) : wpAny M A (noteFrame (.ref e) env) Q E s := by
  obtain ⟨oe, vs, T, oT, ts, he, ⟨rfl, rfl⟩, hd, h1, hnT, hTe, hT, hdT, h3⟩ := ht
  unfold noteFrame
  simp only [hf]
  refine wpAny_bind (wpAny_field he hd h1 ?_)
  rw [if_pos (show (Value.ref T != Value.none) = true from by simp)]
  refine wpAny_bind (wpAny_field hT hdT h3 ?_)
  rw [if_neg (show ¬ ((Value.none == rawInt L) = true) from by simp [rawInt])]
  refine wpAny_bind (wpAny_setField hT hdT (Array.getElem?_eq_some_iff.mp h3).1 ?_)
  have other : ∀ b, b ≠ T → (s.heap.update T (Obj.mapFields (·.setIfInBounds 3 Value.none))).get? b = s.heap.get? b := fun b hb => Heap.get?_update_other _ _ (Ne.symm hb)
  have noRecord : ∀ b o, s.heap.get? b = some o → (∀ vs, o.data ≠ .fields vs) → b ≠ T := fun b o hb hnf q => by
    rw [q, hT] at hb; injection hb with hb; subst hb; exact hnf ts hdT
  refine d_entry hfr (hl.of_keeps fun b o hb hnf => ⟨o, (other b (noRecord b o hb hnf)).trans hb, rfl⟩) hf ((other e (Ne.symm hTe)).trans he)
    (fun b o hbo => (other b fun q => by rw [q, hnT] at hbo; cases hbo).trans (hkb b o hbo)) hen hd (Array.getElem?_eq_some_iff.mp h1).1
    fun h' ⟨x1, x2, x4, x5⟩ x3 => h h' ⟨x1, x2, (fun b o hb hnf => x4 b o ((other b (noRecord b o hb hnf)).trans hb) hnf), fun b o hb hnf => x5 b o ((other b (noRecord b o hb hnf)).trans hb) hnf⟩ x3
theorem d_land (hkb : base.StaysIn s.heap) (hl : s.heap.FunFrames base l) (ht : TrD base s.heap e cls dd fl)
    (h : ∀ h', NoD base l s.heap h' → TrD base h' e cls dd .none → Q () { s with heap := h' }) :
    wpAny M A (setFlight (.ref e) none) Q E s := by
  obtain ⟨oe, vs, T, oT, ts, he, hcls, hd, h1, hnT, hTe, hT, hdT, h3⟩ := ht
  have hsz3 : 3 < ts.size := (Array.getElem?_eq_some_iff.mp h3).1
  have other : ∀ b, b ≠ T → (s.heap.update T (Obj.mapFields (·.setIfInBounds 3 ((none : Option Addr).elim Value.none fun f => rawInt f)))).get? b = s.heap.get? b :=
    fun b hb => Heap.get?_update_other _ _ (Ne.symm hb)
  have noRecord : ∀ b o, s.heap.get? b = some o → (∀ vs, o.data ≠ .fields vs) → b ≠ T := fun b o hb hnf q => by
    rw [q, hT] at hb; injection hb with hb; subst hb; exact hnf ts hdT
  unfold setFlight
  refine wpAny_bind (wpAny_field he hd h1 ?_)
  rw [if_pos (show (Value.ref T != Value.none) = true from by simp)]
  refine wpAny_setField hT hdT hsz3 (h _ ⟨fun b o hbo => (other b fun q => by rw [q, hnT] at hbo; cases hbo).trans (hkb b o hbo),
    hl.of_keeps fun b o hb hnf => ⟨o, (other b (noRecord b o hb hnf)).trans hb, rfl⟩, fun b o hb hnf => ⟨o.slots, (other b (noRecord b o hb hnf)).trans hb⟩, fun b o hb hnf _ => (other b (noRecord b o hb hnf)).trans hb⟩ ?_)
  exact ⟨oe, vs, T, _, _, (other e (Ne.symm hTe)).trans he, hcls, hd, h1, hnT, hTe, Heap.get?_update_self _ hT (Obj.isFreed_of_fields (Obj.data_mapFields hdT _)), Obj.data_mapFields hdT _, by simp [hsz3]⟩
theorem d_leave1 (hfr : A.frames = some (env :: outer)) (hl : s.heap.FunFrames base (env :: outer)) (hf : env.frame = some L)
    (he : s.heap.get? e = some oe) (hkb : base.StaysIn s.heap) (hen : base.get? e = none) (hd : oe.data = .fields vs) (h1 : vs[1]? = some .none)
    (h : ∀ h', NoD base (env :: outer) s.heap h' → TrD base h' e oe.cls oe.dict .none → Q () { s with heap := h' }) : wpAny M A (leaving env (.ref e)) Q E s := by
  unfold leaving
  refine wpAny_bind (d_note1 hfr hl hf he hkb hen hd h1 fun g N1 T1 => ?_)
  exact d_land N1.stays N1.frames T1 fun h' N2 T2 => h h' (N1.then N2) T2
end
end
section
open PySem (Sem)
structure ExW (K : Frag) (mg mb : Str → Option Value) : Prop where
  cls : ∃ nm q N T bs sn sub ab col dd k0 k1 k2 k3 k5, K.lookup 95 = some (gObj nm q 95 N T bs sn sub ab col dd k0 k1 k2 k3 k5)
  init : findIn K (.ref 95) "__init__" = some (some (.ref 72))
  initF : typeIn K (.ref 72) = some (.type "function")
  set : findIn K (.ref 95) "__setattr__" = some (some (.builtin "object.__setattr__"))
  what : findIn K (.ref 95) (nm 206) = some none
  at_ : findIn K (.ref 95) (nm 6) = some none
  told : findIn K (.ref 95) (nm 147) = some (some (.ref 79))
  toldF : typeIn K (.ref 79) = some (.type "function")
  toldK : keepIn K (.ref 79) = true
  ga : findIn K (.ref 95) "__getattribute__" = some (some (.builtin "BaseException.__getattribute__"))
  gn : findIn K (.ref 95) "__getattr__" = some none
  keep : keepIn K (.ref 95) = true
  f72 : FnOk K 72 ⟨[0, 206, 6], [], [.none], b72⟩
  f79 : FnOk K 79 ⟨[0], [], [], b79⟩
  gGE : mg (nm 203) = some (.ref 95)
  gEx : mg (nm 208) = none
  bEx : mb (nm 208) = some (.type "Exception")
  ini : findCls K (.type "Exception") (.type "type") (nm 181) = some (.val (.builtin "Exception.__init__"))
noncomputable abbrev errO (t : Addr) (D : Option Addr) : Obj := { cls := .ref 95, dict := D, data := .fields #[.ref t, .none, .none, .none, .bool false, .none] }
section
variable {prog : Program} {w : World} {K : Frag} {mg mb : Str → Option Value} {A : Around} {env : Env} {s : Shared} {Er : Value → Shared → Prop} {m : Str → Option Value}
theorem loc_l {y : Nat} {x : Expr} {cv : Value} {Q : Value → Shared → Prop} (hx : isE env.kindOf (.loc y) x = true) (hf : env.scope.kind = .function) (hn : s.heap.Ns env.locals m) (hv : m (nm y) = some cv) (q : Q cv s) : wpAny (model prog w) A (eval x env) Q Er s :=
  iName (P := WE prog w A env Q Er s) hx fun _ hy hk => wpAny_Name (wpAny_loadName_local hf hk hn hv q) (nm_facts hy).1
theorem glb_g {y : Nat} {x : Expr} {v : Value} {Q : Value → Shared → Prop} (hx : isE env.kindOf (.glob y) x = true) (hf : env.scope.kind = .function) (hg : env.globals = mainGlobals) (g : s.heap.Ns mainGlobals mg) (e : mg (nm y) = some v) (q : Q v s) : wpAny (model prog w) A (eval x env) Q Er s :=
  iName (P := WE prog w A env Q Er s) hx fun _ hy hk => Calls.Name_function_global hf hk (Calls.loadGlobal_global (hg ▸ g) e q) (nm_facts hy).1
theorem glb_b {y : Nat} {x : Expr} {v : Value} {Q : Value → Shared → Prop} (hx : isE env.kindOf (.glob y) x = true) (hf : env.scope.kind = .function) (hg : env.globals = mainGlobals) (hb : env.builtins = builtinsNs) (g : s.heap.Ns mainGlobals mg) (b : s.heap.Ns builtinsNs mb) (e : mg (nm y) = none) (e' : mb (nm y) = some v) (q : Q v s) : wpAny (model prog w) A (eval x env) Q Er s :=
  iName (P := WE prog w A env Q Er s) hx fun _ hy hk => Calls.Name_function_global hf hk (Calls.loadGlobal_builtin (hg ▸ g) e (hb ▸ b) e' q) (nm_facts hy).1
theorem st_set {a y : Nat} {x : Stmt} {o : Addr} {cv : Value} {Q : Flow → Shared → Prop} (hx : isS env.kindOf (.asg (.attr (.loc 0) a) (.loc y)) x = true) (hf : env.scope.kind = .function) (hn : s.heap.Ns env.locals m) (ho : m (nm 0) = some (.ref o)) (hv : m (nm y) = some cv)
    (q : wpAny (model prog w) A (setAttr (.ref o) (nm a) cv) (fun _ s' => Q .next s') Er s) : wpAny (model prog w) A (exec x env) Q Er s := by
  refine iAsg (P := fun x => wpAny (model prog w) A (exec x env) Q Er s) hx fun tg v p ht hv' hs => ?_
  have T := tshape ht
  rw [exec_Assign, T.1]
  refine wpAny_bind (wpAny_standAt ?_)
  show wpAny _ _ (swapsWith v (some tg) p.line env >>= _) _ _ _
  rw [no_comp hv' rfl]
  refine wpAny_bind (wpAny_pure ?_)
  show wpAny _ _ (eval v env >>= fun v1 => swappedStores [tg] v env >>= fun sw => assignStores env v1 sw [assign tg env]) _ _ _
  rw [no_swap T hv' hs]
  refine wpAny_bind (loc_l hv' hf hn hv (wpAny_bind (wpAny_pure ?_)))
  show wpAny _ _ (assign tg env cv >>= fun _ => pure Flow.next) _ _ _
  refine iTattr (P := fun tg => wpAny (model prog w) A (assign tg env cv >>= fun _ => pure Flow.next) Q Er s) ht fun ov pp ha h0 => ?_
  rw [assign_Attribute]
  refine wpAny_bind (wpAny_bind (wpAny_holding (loc_l h0 hf hn ho ?_)))
  exact wpAny_bind (wpAny_standAt (wpAny_bind (wpAny_holding (wpAny_mono q (fun _ s' z => wpAny_release (wpAny_pure z)) fun _ _ z => z))))
theorem method_ty {T : String} {name : Str} {v : Value} {pl : Sem Bool} {Q : Value × List Value → Shared → Prop} (X : K.In s.heap) (ht : typeOf (.type T) = pure (.type "type")) (hs : Manifest.isStub T = false)
    (e : findCls K (.type T) (.type "type") name = some (.val v)) (hh : handedIn v = true) (h : Q (v, []) { s with toks := s.toks + 1 }) : wpAny (model prog w) A (getMethod (.type T) name pl) Q Er s := by
  have hstub : opaqueClassAbove (.type T) = pure none := by unfold opaqueClassAbove; dsimp only; rw [hs]; rfl
  have L0 : Looks (model prog w) s.heap (typeOf (.type T)) (.type "type") := Looks.of_pure ht
  have hg : findIn K (.type "type") "__getattribute__" = some (some (.builtin "type.__getattribute__")) := type_tga
  unfold getMethod specialOf
  refine wpAny_bind (wpAny_bind (L0.here ((looks_findIn X hg).here ?_)))
  dsimp only
  rw [if_pos canon_tga]
  refine wpAny_bind (wpAny_mono (Q := fun v => Q (v, [])) (E := Er) ?_ (fun _ _ z => wpAny_pure z) fun _ _ z => z)
  have LO : Looks (model prog w) s.heap (opaqueClassAbove (.type T)) none := Looks.of_pure hstub
  refine cls_open X LO L0 hg (looks_hook X (r := none) (by rfl)) (by show subIn K _ _ = _; rfl) e
    (wpAny_pure (by show wpAny _ _ (handedOut v) _ _ _; rw [handedOut_of hh]; exact wpAny_pure h))
theorem meth_call {o : E} {mm : Nat} {args : List E} {x : Expr} {Q : Value → Shared → Prop} (hx : isE env.kindOf (.mcall o mm args) x = true)
    (h : ∀ ov, isE env.kindOf o ov = true → wpAny (model prog w) A (eval ov env) (fun cu s1 => ∀ pl : Sem Bool, wpAny (model prog w) A (getMethod cu (nm mm) pl) (fun fx s2 => ∀ as pos, isEs env.kindOf args as = true → wpAny (model prog w) A (callWith pos fx.1 fx.2 (backTo pos (starEach as env)) []) Q Er s2) Er s1) Er s) : wpAny (model prog w) A (eval x env) Q Er s := by
  refine iMcall (P := WE prog w A env Q Er s) hx fun ov ap as pos hm hlen ho has hline => ?_
  have hform : methodCallForm (as.length + ([] : List Keyword).length) (backTo pos (starEach as env)) (backToKw pos (keywordEach [] env)) = true :=
    Bool.and_eq_true_iff.mpr ⟨Bool.and_eq_true_iff.mpr ⟨(plain_trees has).2, rfl⟩, decide_eq_true (Nat.lt_of_lt_of_le hlen (by decide))⟩
  refine wpAny_bind (ab_any (no_super ho) (wpAny_mono (h ov ho) (fun cu s1 h1 => wpAny_bind (wpAny_standAt ?_)) fun _ _ z => z))
  unfold methodCall
  rw [hform]
  refine wpAny_bind (wpAny_holding (wpAny_mono (h1 _) (fun fx s2 h2 => ?_) fun _ _ z => z))
  show wpAny _ _ (methodCallPos true ov env ap pos >>= _) _ _ _
  rw [show methodCallPos true ov env ap pos = pure pos from if_pos hline]
  exact wpAny_bind (wpAny_pure (h2 as pos has))
theorem st_init {x : Stmt} {o t : Addr} {cv : Value} {Q : Flow → Shared → Prop} (Y : ExW K mg mb) (hx : isS env.kindOf (.raw 2) x = true) (hf : env.scope.kind = .function) (hg : env.globals = mainGlobals) (hb : env.builtins = builtinsNs)
    (X : K.In s.heap) (g : s.heap.Ns mainGlobals mg) (b : s.heap.Ns builtinsNs mb) (hn : s.heap.Ns env.locals m) (ho : m (nm 0) = some (.ref o)) (hv : m (nm 206) = some cv) (he : s.heap.get? o = some (errO t none))
    (q : ∀ tk, Q .next ⟨(s.heap.push { cls := .type "tuple", data := .seq [cv].toArray }).update o (Obj.mapFields (·.setIfInBounds 0 (.ref s.heap.objs.size))), s.gens, s.drawn, tk, s.os⟩) :
    wpAny (model prog w) A (exec x env) Q Er s := by
  obtain ⟨cn, cq, cN, cT, cbs, csn, csub, cab, ccol, cdd, ck0, ck1, ck2, ck3, ck5, hC⟩ := Y.cls
  refine oExp_e (P := fun x => wpAny (model prog w) A (exec x env) Q Er s) hx fun v p hv0 => ?_
  refine wpAny_Expr_any ?_ (by unfold interactive; rw [hf]; rfl) (congrFun (congrFun (congrFun (no_comp hv0 rfl) _) _) _)
  refine meth_call hv0 fun ov ho' => glb_b ho' hf hg hb g b Y.gEx Y.bEx fun pl => ?_
  refine method_ty X rfl (by decide +kernel) Y.ini (by decide +kernel) fun as pos has => ?_
  refine Calls.callWith_builtin (plain_trees has).1 (evalArgs_any (plain_trees has).1 ?_)
  refine iEs (Q := fun as => wpAny (model prog w) A (spliced (backTo pos (starEach as env))) _ Er _) has fun y ys hs hy hys => wpAny_items_cons (loc_l hy hf hn ho ?_) (starEach_cons hs)
  refine iEs (Q := fun as => wpAny (model prog w) A (spliced (backTo pos (starEach as env))) _ Er _) hys fun y ys hs hy hys => wpAny_items_cons (loc_l hy hf hn hv ?_) (starEach_cons hs)
  refine iEs0 (Q := fun as => wpAny (model prog w) A (spliced (backTo pos (starEach as env))) _ Er _) hys (wpAny_items_nil ?_)
  exact ex_init (X _ _ hC) he rfl rfl rfl (q _) (show 1 ≤ sizeLine by decide +kernel)
end
end
section
open PySem (Sem)
theorem ss_cons {kd : Kd} {e : St} {r : List St} {xs : List Stmt} (h : isSs kd (e :: r) xs = true) : ∃ y t, xs = y :: t ∧ isS kd e y = true ∧ isSs kd r t = true := iSs (Q := fun xs => ∃ y t, xs = y :: t ∧ isS kd e y = true ∧ isSs kd r t = true) h fun y t a b => ⟨y, t, rfl, a, b⟩
theorem ss_nil {kd : Kd} {xs : List Stmt} (h : isSs kd [] xs = true) : xs = [] := iSs0 (Q := fun xs => xs = []) h rfl
theorem ns_keep {h h' : Heap} {a : Addr} {m : Str → Option Value} (n : h.Ns a m) (k : ∀ o, h.get? a = some o → h'.get? a = some o) : h'.Ns a m := n.imp fun _ n => n.imp fun _ n => n.imp fun _ n => ⟨k _ n.1, n.2⟩
theorem apart {h : Heap} {a b : Addr} {o : Obj} (e1 : h.get? a = some o) (e2 : h.get? b = none) : a ≠ b := fun z => nos (e2.symm.trans (z ▸ e1))
theorem none_of {h h' : Heap} {a : Addr} (k : ∀ b o, h.get? b = some o → h'.get? b = some o) (e : h'.get? a = none) : h.get? a = none := Option.eq_none_iff_forall_ne_some.mpr fun o z => nos (e.symm.trans (k _ _ z))
structure ErrAt (h : Heap) (e D t pa : Addr) : Prop where
  obj : h.get? e = some (errO t (some D))
  ne : D ≠ e
  dict : ∃ m, h.Ns1 D m ∧ m (nm 6) = some (.ref pa) ∧ ∀ y, y ≠ nm 206 → y ≠ nm 6 → m y = none
theorem err_inst0 {h : Heap} {e t : Addr} (he : h.get? e = some (errO t none)) : h.Inst e 95 (fun _ => none) := ⟨_, he, rfl, (fun _ z => nomatch z), .inl ⟨rfl, fun _ => rfl⟩⟩
section
variable {prog : Program} {w : World} {K : Frag} {h₀ : Heap} {mg mb : Str → Option Value} {B : Tb} {hp : Hp} {A : Around} {R : List Addr} {ρ : Nat → Addr} {s : Shared} {Er : Value → Shared → Prop}
theorem inst_dict {h : Heap} {e : Addr} {o : Obj} {mA : Str → Option Value} {y : Str} {v : Value} (I : h.Inst e 95 mA) (he : h.get? e = some o) (hv : mA y = some v) : ∃ D, o.dict = some D ∧ D ≠ e ∧ h.Ns1 D mA := by
  obtain ⟨o', a1, _, _, a2⟩ := I
  cases Option.some.inj (he.symm.trans a1)
  exact a2.elim (fun z => nos ((z.2 y).symm.trans hv)) id
theorem tool_init (W : Wd prog w K h₀ mg mb B) (Y : ExW K mg mb) {e t i : Nat} {cw : Value} {u : V} {Q : Value → Shared → Prop}
    (he : s.heap.get? e = some (errO t none)) (he0 : h₀.get? e = none) (hdep : A.depth < 1000) (rv : Resv h₀ R s.heap) (P : Rep prog w h₀ R ρ hp s.heap) (r1 : VRel R ρ hp.n s.heap u cw) (hi : i < hp.n)
    (q : ∀ h' tk D t', (∀ b o, b ≠ e → s.heap.get? b = some o → h'.get? b = some o) → s.heap.get? D = none → ErrAt h' e D t' (ρ i) → Q .none ⟨h', s.gens, s.drawn, tk, s.os⟩) :
    wpAny (model prog w) A (call (.ref 72) [.ref e, cw, .ref (ρ i)]) Q Er s := by
  refine wpAny_call (Y.f72.elim fun D72 hD => enter_fn W hD (args := [.glb e, u, .ref i]) (vs := [.glb e, u, .ref i]) (C := []) (h1 := hp) rfl rfl hdep rv P (.cons (.glb e) (.cons r1 (.cons (.ref i hi) .nil))) fun env ρ₁ H tk hbody hfr hLn hk rv₁ P₁ G₁ M₁ => codeAny_func ?_)
  generalize D72.body = body at hbody ⊢
  obtain ⟨x1, b1, rfl, s1, hbody⟩ := ss_cons hbody
  obtain ⟨x2, b2, rfl, s2, hbody⟩ := ss_cons hbody
  obtain ⟨x3, b3, rfl, s3, hbody⟩ := ss_cons hbody
  cases ss_nil hbody
  obtain ⟨m, hn, hl⟩ := M₁.locs
  obtain ⟨_, cv, a0, r0⟩ := hl 0 (.glb e) rfl
  have m0 : m (nm 0) = some (.ref e) := a0.trans (r0.inv (P := fun cv => some cv = some (.ref e)) rfl)
  obtain ⟨_, cw', mw, -⟩ := hl 206 u rfl
  obtain ⟨_, cv6, a6, r6⟩ := hl 6 (.ref i) rfl
  have m6 : m (nm 6) = some (.ref (ρ i)) := a6.trans (r6.inv (P := fun cv => some cv = some (.ref (ρ i))) fun _ => congrArg (fun z => some (Value.ref z)) (G₁.same i hi))
  have heL := apart he hLn
  have X0 := W.X.keeps P₁.keep
  have e0 := hk _ _ he
  obtain ⟨cn, cq, cN, cT, cbs, csn, csub, cab, ccol, cdd, ck0, ck1, ck2, ck3, ck5, hC⟩ := Y.cls
  have ne0 : ∀ {a o}, K.lookup a = some o → a ≠ e := fun ho => apart (W.X _ _ ho) he0
  refine wpAny_execs_cons (st_init (s := ⟨H, s.gens, s.drawn, tk, s.os⟩) Y s1 M₁.kind M₁.glob M₁.blt X0 (W.g.keeps P₁.keep) (W.b.keeps P₁.keep) hn m0 mw e0 fun tk1 => ?_)
  dsimp only
  have E1 : ((H.push { cls := .type "tuple", data := .seq [cw'].toArray }).update e (Obj.mapFields (·.setIfInBounds 0 (.ref H.objs.size)))).get? e = some (errO H.objs.size none) := Heap.get?_update_self _ (Heap.get?_push_of_some _ e0) rfl
  have K1 : ∀ b o, b ≠ e → H.get? b = some o → ((H.push { cls := .type "tuple", data := .seq [cw'].toArray }).update e (Obj.mapFields (·.setIfInBounds 0 (.ref H.objs.size)))).get? b = some o := fun b o hb hq => (Heap.get?_update_other _ _ (Ne.symm hb)).trans (Heap.get?_push_of_some _ hq)
  generalize ((H.push { cls := .type "tuple", data := .seq [cw'].toArray }).update e (Obj.mapFields (·.setIfInBounds 0 (.ref H.objs.size)))) = H1 at *
  have X1 : K.In H1 := fun a o ho => K1 _ _ (ne0 ho) (X0 _ _ ho)
  have n1 := ns_keep hn (fun o => K1 _ o (Ne.symm heL))
  refine wpAny_execs_cons (st_set (s := ⟨H1, s.gens, s.drawn, tk1, s.os⟩) s2 M₁.kind n1 m0 mw (ex_store X1 (X1 _ _ hC) Y.set Y.what (err_inst0 E1) (fun h2 tk2 I2 K2 D2 => ?_) Within.nil (by decide)))
  dsimp only
  have K2' : ∀ b o, b ≠ e → H1.get? b = some o → h2.get? b = some o := fun b o hb hq => K2 b o hb (fun o₀ dx h1 h2 => by cases Option.some.inj (E1.symm.trans h1); cases h2) hq
  obtain ⟨o1, E2, oc, od, os1, odi, odj⟩ := D2 _ E1
  have X2 : K.In h2 := fun a o ho => K2' _ _ (ne0 ho) (X1 _ _ ho)
  have n2 := ns_keep n1 (fun o => K2' _ o (Ne.symm heL))
  obtain ⟨D, hD, hDe, hDN⟩ := inst_dict I2 E2 (if_pos rfl)
  have hDn : H1.get? D = none := (odj D hD).elim nos id
  refine wpAny_execs_cons (st_set (s := ⟨h2, s.gens, s.drawn, tk2, s.os⟩) s3 M₁.kind n2 m0 m6 (ex_store X2 (X2 _ _ hC) Y.set Y.at_ I2 (fun h3 tk3 I3 K3 D3 => ?_) (Within.cons (nm 206) cw' Within.nil) (by decide)))
  refine wpAny_execs_nil ?_
  obtain ⟨o2, E3, pc, pd, ps, pdi, pdj⟩ := D3 _ E2
  obtain ⟨D', a3, a4, hD3⟩ := inst_dict I3 E3 (if_pos rfl)
  cases Option.some.inj ((pdi _ hD).symm.trans a3)
  have up : ∀ b o, b ≠ e → s.heap.get? b = some o → H1.get? b = some o := fun b o hb z => K1 _ _ hb (hk _ _ z)
  refine q h3 tk3 D H.objs.size (fun b o hb hq => K3 b o hb (fun o₀ dx h1 h2 z => ?_) (K2' _ _ hb (up _ _ hb hq))) (Option.eq_none_iff_forall_ne_some.mpr fun o z => nos (hDn.symm.trans (up _ _ hDe z))) ⟨?_, hDe, _, hD3, if_pos rfl, fun y y1 y2 => (if_neg y2).trans (if_neg y1)⟩
  · cases Option.some.inj (E2.symm.trans h1)
    cases Option.some.inj (hD.symm.trans h2)
    exact nos (hDn.symm.trans (z ▸ up _ _ hb hq))
  · rw [E3]
    obtain ⟨c2, d2, dt2, sl2⟩ := o2
    obtain ⟨c1, d1, dt1, sl1⟩ := o1
    dsimp only at *
    subst oc od os1 pc pd ps
    rw [pdi _ hD]
end
end
section
open PySem (Sem)
section
variable {M : Model} {A : Around} {E : Value → Shared → Prop} {env : Env}
variable {nm q : Str} {C N T : Addr} {bs : List Value} {sn : List Str} {sub : List Value} {ab : Bool} {col : Option Bool} {dd : Option Addr} {k0 k1 k2 k3 k5 : Option Value}
theorem ex_raiseStmt {s : Shared} {x : Sem Value} {Q : Flow → Shared → Prop} (hh : A.handled = none)
    (h : wpAny M A x (fun v s₁ => ∃ e D t, v = .ref e ∧ s₁.heap.get? C = some (gObj nm q C N T bs sn sub ab col dd k0 k1 k2 k3 k5) ∧
      s₁.heap.get? e = some { cls := .ref C, dict := some D, data := .fields #[.ref t, .none, .none, .none, .bool false, .none] } ∧ E (.ref e) s₁) E s) :
    wpAny M A (raiseStmt env (some x) none) Q E s := by
  have hcB : (Value.ref C :: [.ref T, .type "Exception", .type "BaseException", .type "object"]).contains (.type "BaseException") = true := by simp
  unfold raiseStmt
  refine wpAny_bind (wpAny_mono h (fun v s₁ h₁ => ?_) fun _ _ x => x)
  obtain ⟨e, D, t, rfl, hC, he, hE⟩ := h₁
  obtain ⟨hp, g, d, tk, os⟩ := s₁
  repeat (first | with_reducible refine wpAny_loadPart_at he ?_ | with_reducible refine wpAny_loadPart_at hC ?_ | (with_reducible refine wpAny_isSubtype_exc hC ?_; rw [hcB]) | wp_step)
  exact wpAny_raiseNew_none hh hE
end
theorem two_rel {R : List Addr} {ρ : Nat → Addr} {n : Nat} {h : Heap} {u : V} {i : Nat} {cvs : List Value} (r : VRels R ρ n h [u, .ref i] cvs) : ∃ c, cvs = [c, .ref (ρ i)] ∧ VRel R ρ n h u c ∧ i < n :=
  r.inv (P := fun cvs => ∃ c, cvs = [c, .ref (ρ i)] ∧ VRel R ρ n h u c ∧ i < n) fun c1 cs x r => r.inv (P := fun cs => ∃ c, c1 :: cs = [c, .ref (ρ i)] ∧ VRel R ρ n h u c ∧ i < n) fun c2 cs y r => r.inv (P := fun cs => ∃ c, c1 :: c2 :: cs = [c, .ref (ρ i)] ∧ VRel R ρ n h u c ∧ i < n) (y.inv (P := fun c2 => ∃ c, [c1, c2] = [c, .ref (ρ i)] ∧ VRel R ρ n h u c ∧ i < n) fun hi => ⟨c1, rfl, x, hi⟩)
section
variable {prog : Program} {w : World} {K : Frag} {h₀ : Heap} {mg mb : Str → Option Value} {B : Tb} {F : Fns} {d : Nat} {fm : Fm} {hp h1 : Hp} {A : Around} {env : Env} {R : List Addr} {ρ : Nat → Addr} {s : Shared} {Er : Value → Shared → Prop}
theorem st_raise (W : Wd prog w K h₀ mg mb B) (Y : ExW K mg mb) (I : Snd prog w K h₀ F) {es : List E} {x : Stmt} {c : S} {i : Nat} {Q : Flow → Shared → Prop} (hx : (oRai x fun c z _ => z.isNone && oO c fun c => isE env.kindOf (.call 203 es) c) = true) (hs : evs F (d + 1) fm es hp = some ([.str c, .ref i], h1))
    (rm : Room A (d + 1)) (rv : Resv h₀ R s.heap) (P : Rep prog w h₀ R ρ hp s.heap) (M : FmRel h₀ R fm env ρ hp.n s.heap)
    (q : ∀ ρ₁ g₁ h' tk e D t, Rep prog w h₀ R ρ₁ h1 g₁ → Grow [] ρ hp.n s.heap ρ₁ h1.n g₁ → i < h1.n → g₁.get? e = none → g₁.get? D = none → (∀ b o, g₁.get? b = some o → h'.get? b = some o) → ErrAt h' e D t (ρ₁ i) → Er (.ref e) ⟨h', s.gens, s.drawn, tk, s.os⟩) :
    wpAny (model prog w) A (exec x env) Q Er s := by
  obtain ⟨cn, cq, cN, cT, cbs, csn, csub, cab, ccol, cdd, ck0, ck1, ck2, ck3, ck5, hC⟩ := Y.cls
  refine oRai_e (P := fun x => wpAny (model prog w) A (exec x env) Q Er s) hx fun c z pos h => and2 h fun hz hc => oNo_e (P := fun z => wpAny (model prog w) A (exec (.Raise c z pos) env) Q Er s) hz (oO_e (P := fun c => wpAny (model prog w) A (exec (.Raise c none pos) env) Q Er s) hc fun c hc => iCall (P := fun c => wpAny (model prog w) A (exec (.Raise (some c) none pos) env) Q Er s) hc fun np as cpos hy hk hlen has => ?_)
  rw [arm_exec_Raise]
  refine wpAny_bind (wpAny_standAt (ex_raiseStmt (C := 95) (nm := cn) (q := cq) (N := cN) (T := cT) (bs := cbs) (sn := csn) (sub := csub) (ab := cab) (col := ccol) (dd := cdd) (k0 := ck0) (k1 := ck1) (k2 := ck2) (k3 := ck3) (k5 := ck5) rm.handled (wpAny_bind (wpAny_mono (Q := fun v s₁ => ∃ e D t, v = .ref e ∧ s₁.heap.get? 95 = some (gObj cn cq 95 cN cT cbs csn csub cab ccol cdd ck0 ck1 ck2 ck3 ck5) ∧
      s₁.heap.get? e = some { cls := .ref 95, dict := some D, data := .fields #[.ref t, .none, .none, .none, .bool false, .none] } ∧ Er (.ref e) s₁) (wpAny_Call_ofName ?_) (fun v s₃ h₃ => wpAny_bind (wpAny_standAt (wpAny_pure h₃))) fun _ _ x => x))))
  refine Calls.Name_function_global M.kind hk (Calls.loadGlobal_global (M.glob ▸ W.g.keeps P.keep) Y.gGE ?_) (nm_facts hy).1
  refine args_any I W.X (keeps_K Y.keep) hs has rm rv P M fun ρ₁ g₁ tk₁ cvs P₁ G₁ r₁ => ?_
  obtain ⟨c1, rfl, r1, hi⟩ := two_rel r₁
  have X := W.X.keeps P₁.keep
  refine ex_call (ext_of cT) X (X _ _ hC) Y.init Y.initF (fun h' e hm => ?_) (show 2 ≤ sizeLine by decide +kernel)
  obtain ⟨t, he, htn, htt⟩ := hm.there
  have rv₁ := rv.mono P P₁ G₁
  have he0 := none_of P₁.keep hm.new
  have hR : ∀ b, b ∈ e :: R → b ∈ R ∨ g₁.get? b = none := List.forall_mem_cons.mpr ⟨.inr hm.new, fun _ => .inl⟩
  obtain ⟨P₂, G₂⟩ := (P₁.resv hR).keeps [] hm.keeps
  have rv₂ : Resv h₀ (e :: R) h' := ⟨List.forall_mem_cons.mpr ⟨he0, rv.base⟩, List.forall_mem_cons.mpr ⟨Option.isSome_iff_exists.mpr ⟨_, he⟩, fun a ha => P₂.live G₂ (rv₁.live a ha)⟩⟩
  refine tool_init W Y (s := ⟨h', s.gens, s.drawn, tk₁, s.os⟩) he he0 (Nat.lt_of_le_of_lt (Nat.le_trans (Nat.le_add_right _ _) (rm.under _ 95).depth) (by decide)) rv₂ P₂ ((r1.resv hR).mono G₂ (fun b z => nomatch z)) hi (fun h'' tk D t' k1 k2 k3 => ⟨rfl, e, D, t', rfl, ?_, k3.1, ?_⟩)
  · exact k1 _ _ (apart (X _ _ hC) hm.new) (hm.keeps _ _ (X _ _ hC))
  · exact q ρ₁ g₁ h'' tk e D t' P₁ G₁ hi hm.new (none_of hm.keeps k2) (fun b o ho => k1 _ _ (apart ho hm.new) (hm.keeps _ _ ho)) k3
end
theorem look_of_ns {h : Heap} {D : Addr} {m : Str → Option Value} (n : h.Ns D m) : ∃ o, h.get? D = some o ∧ (∀ vs, o.data ≠ .fields vs) ∧ ∀ name, lookIn name o = some (m name) := by
  obtain ⟨o, es, ep, ho, hd, hk, hf⟩ := n
  refine ⟨o, ho, (fun vs z => nomatch (hd.symm.trans z)), fun name => ?_⟩
  unfold lookIn
  rw [hd]
  dsimp only
  have hf := hf name
  unfold nsFind findBy at hf
  rw [← Array.find?_toList] at hf
  cases z : es.toList.find? (·.key.isStr name) with
  | some en =>
    rw [z] at hf
    rw [← hf]
    rfl
  | none =>
    rw [z] at hf
    rw [← hf]
    have hr : es.toList.any (·.refKey) = false := by
      rw [List.any_eq_false]
      intro e he
      obtain ⟨n, t, q⟩ := hk e (Array.mem_toList_iff.mp he)
      simp [DictEntry.refKey, q]
    simp only [hr]
    rfl
section
variable {prog : Program} {w : World} {K : Frag} {mg mb : Str → Option Value} {A : Around} {s : Shared} {Er : Value → Shared → Prop} {e D : Addr} {oe oD : Obj} {vs : Array Value}
theorem err_inst (he : s.heap.get? e = some oe) (hc : oe.cls = .ref 95) (hd : oe.data = .fields vs) (hdd : oe.dict = some D) (hD : s.heap.get? D = some oD) : InstAt s.heap e oe 95 (some oD) :=
  ⟨he, hc, by unfold notCls; rw [hd], by rw [hdd]; exact hD⟩
theorem any_cls (Y : ExW K mg mb) : ∃ cd, clsIn K 95 = some cd ∧ cd.hasDict = true ∧ cd.mro.contains (.type "BaseException") = true ∧ cd.mro.isEmpty = false := by
  obtain ⟨cn, cq, cN, cT, cbs, csn, csub, cab, ccol, cdd, ck0, ck1, ck2, ck3, ck5, hC⟩ := Y.cls
  refine ⟨_, by unfold clsIn; rw [hC], rfl, ?_, rfl⟩
  simp
theorem ex_get {a : Str} {ex : Bool} {v : Value} {Q : Value → Shared → Prop} (Y : ExW K mg mb) (X : K.In s.heap) (hc : findIn K (.ref 95) a = some none) (I : InstAt s.heap e oe 95 (some oD)) (hl : lookIn a oD = some (some v)) (hh : handedIn v = true) (q : Q v { s with toks := s.toks + 1 }) : wpAny (model prog w) A (getAttr (.ref e) a ex) Q Er s := by
  obtain ⟨cd, hcd, hdict, hbase, hne⟩ := any_cls Y
  have hf : findObj K 95 (some oD) a = some (.value v) := by
    unfold findObj
    rw [hcd, hc]
    simp only [Option.bind_some]
    unfold W.ownOf
    rw [hdict, if_pos rfl]
    dsimp only
    rw [hl]
    rfl
  obtain ⟨hh', g, d, t, os⟩ := s
  have L0 := I.type (M := model prog w)
  have L1 := looks_findIn (M := model prog w) X Y.ga
  have L2 := looks_findIn (M := model prog w) X Y.gn
  have L3 := looks_find (M := model prog w) X I hf
  have FB := PySem.F.attrBase_Exception
  unfold getAttr getAttrBy
  refine wpAny_bind (wpAny_mkText (wpAny_holding (wpAny_bind (L0.at (wpAny_bind (L1.at ?_))))))
  dsimp only
  rw [show (onTheHeap (.ref 95) && (Value.builtin "BaseException.__getattribute__" == Value.builtin "object.__getattribute__")) = false by decide +kernel]
  rw [if_neg Bool.false_ne_true]
  unfold getAttrByItsOwn hookBefore
  refine wpAny_bind ?_
  show wpAny _ _ (typeLookup (.ref 95) "__getattr__") _ _ _
  refine L2.at ?_
  unfold callGetattribute
  rw [show (ex && onTheHeap (.builtin "BaseException.__getattribute__")) = false by cases ex <;> rfl]
  rw [if_neg Bool.false_ne_true]
  unfold boundAndCalled
  refine wpAny_bind (wpAny_attempt (wpAny_holding (wpAny_bind (wpAny_of_eq (FB.ga.bind (.ref e)) ?_))))
  have hk : builtinKind "BaseException.__getattribute__" = some .slot := by decide +kernel
  have hs : splitId "BaseException.__getattribute__" = some ("BaseException", "__getattribute__") := by decide +kernel
  have hi : Looks (model prog w) hh' (isInstance (.ref e) (.type "BaseException")) true := L0.andThen (looks_mroIn X (by unfold mroIn; rw [hcd, Option.bind_some, if_neg (by rw [hne]; decide), hbase]))
  have ha : argsOk "BaseException.__getattribute__" ⟨[.ref e, .str a t], []⟩ := PySem.F.args_bexc_ga _ _
  show wpAny _ _ (call (.builtin "BaseException.__getattribute__") [.ref e, .str a t]) _ _ _
  refine wpAny_call ?_
  refine codeAny_call_builtin FB.ga.plain PySem.F.entry_bexc_ga ?_
  refine @check_slot (model prog w) _ _ ⟨hh', g, d, t + 1, os⟩ "BaseException.__getattribute__" "BaseException" "__getattribute__" (.ref e) [.str a t] [] _ hk hs hi ha ?_
  refine wpAny_bind (wpAny_pure (wpAny_bind (wpAny_pure (wpAny_bind (L0.at (wpAny_bind (L3.at ?_)))))))
  refine wpAny_pure ?_
  show wpAny _ _ (handedOut v) _ _ _
  rw [handedOut_of hh]
  exact wpAny_pure q
theorem ex_method {a : Str} {f : Addr} {pl : Sem Bool} {Q : Value × List Value → Shared → Prop} (Y : ExW K mg mb) (X : K.In s.heap) (hc : findIn K (.ref 95) a = some (some (.ref f))) (ht : typeIn K (.ref f) = some (.type "function")) (I : InstAt s.heap e oe 95 (some oD)) (hdd : oe.dict = some D) (hl : lookIn a oD = some none) (q : Q (.ref f, [.ref e]) s) : wpAny (model prog w) A (getMethod (.ref e) a pl) Q Er s := by
  have hcan : (Manifest.canonical "BaseException.__getattribute__" != "object.__getattribute__") = false := by decide +kernel
  unfold getMethod specialOf
  refine wpAny_bind (wpAny_bind (I.type.here ((looks_findIn X Y.ga).here ?_)))
  dsimp only
  rw [hcan, if_neg (by decide)]
  refine wpAny_bind (wpAny_bind (I.type.here ((looks_findIn X Y.gn).here ?_)))
  refine wpAny_bind (wpAny_bind (I.type.here ((looks_findIn X hc).here (wpAny_bind ((looks_typeIn X ht).here ?_)))))
  rw [if_neg (by decide +kernel)]
  refine wpAny_bind (wpAny_loadPart I.at_ ?_)
  have hd := I.dict
  rw [hdd] at hd ⊢
  dsimp only at hd
  refine wpAny_bind (wpAny_bind (wpAny_loadPart hd ?_))
  rw [nsLook_of hl]
  refine wpAny_pure ?_
  exact wpAny_bind (wpAny_rule (wpAny_pure q))
end
end
section
open PySem (Sem)
section
variable {prog : Program} {w : World} {h₀ h h' : Heap} {R R' : List Addr} {ρ ρ' : Nat → Addr} {n n' : Nat}
theorem rep_zero (k : ∀ b o, h₀.get? b = some o → h.get? b = some o) : Rep prog w h₀ R ρ hN h :=
  ⟨k, fun i hi => absurd hi (Nat.not_lt_zero i), fun i j hi => absurd hi (Nat.not_lt_zero i), fun i hi => absurd hi (Nat.not_lt_zero i), Nat.zero_le _⟩
theorem grow0 (G : Grow [] ρ 0 h ρ' n' h') : ∀ b o, h.get? b = some o → h'.get? b = some o := fun b o e => G.keep b o e (fun x => nomatch x) (fun i hi => absurd hi (Nat.not_lt_zero i))
theorem vrel0 {v : V} {cv : Value} (r : VRel R ρ 0 h v cv) (k : ∀ b o, h.get? b = some o → h'.get? b = some o) : VRel [] ρ' 0 h' v cv := r.map (Nat.le_refl 0) (fun i hi => absurd hi (Nat.not_lt_zero i)) fun b o e _ => ⟨k b o e, fun i hi => absurd hi (Nat.not_lt_zero i), List.not_mem_nil⟩
theorem rep_up (P : Rep prog w h₀ R ρ hN h) : Rep prog w h₀ R ρ' hN h := rep_zero P.keep
noncomputable abbrev intF (p : Nat × Int) : Nat × V := (p.1, .int p.2)
theorem ints_fld : ∀ {fs : List (Nat × Int)} {es : List DictEntry}, DRel R ρ n h (fs.map intF) es → DRel R' ρ' n' h' (fs.map intF) es
  | [], _, D => D.inv (P := fun es => DRel R' ρ' n' h' [] es) .nil
  | p :: fs, _, D => D.inv (P := fun es => DRel R' ρ' n' h' (intF p :: fs.map intF) es) fun cv es hs t hx y r => y.inv (P := fun cv => DRel R' ρ' n' h' (intF p :: fs.map intF) (⟨hs, .str (nm p.1) t, cv⟩ :: es)) fun tk => .cons hx (.int _ _) (ints_fld r)
noncomputable abbrev ptF (o l c : Int) : List (Nat × V) := [(1, o), (2, l), (3, c)].map intF
noncomputable def PtAt (h : Heap) (p dx : Addr) (o l c : Int) : Prop := h.get? p = some (instObj 46 dx) ∧ ∃ es k, h.get? dx = some (dictOf es k) ∧ DRel [] (fun _ => 0) 0 h (ptF o l c) es
variable {p dx : Addr} {o l c : Int}
theorem PtAt.keep (x : PtAt h p dx o l c) (k : ∀ b o, b = p ∨ b = dx → h.get? b = some o → (∀ vs, o.data ≠ .fields vs) → h'.get? b = some o) : PtAt h' p dx o l c :=
  ⟨k _ _ (.inl rfl) x.1 (fun _ z => nomatch z), x.2.imp fun es y => y.imp fun kk y => ⟨k _ _ (.inr rfl) y.1 (fun _ z => nomatch z), ints_fld y.2⟩⟩
theorem PtAt.rel (x : PtAt h p dx o l c) (hp : p ∉ R) (hd : dx ∉ R) : VRel R ρ 0 h (.rin 46 (ptF o l c)) (.ref p) :=
  x.2.elim fun es y => y.elim fun k y => .rin x.1 y.1 ⟨fun i hi => absurd hi (Nat.not_lt_zero i), hp⟩ ⟨fun i hi => absurd hi (Nat.not_lt_zero i), hd⟩ (ints_fld y.2)
noncomputable def ErrIn (h : Heap) (e D : Addr) (oD : Obj) : Prop := ∃ oe, h.get? e = some oe ∧ oe.cls = .ref 95 ∧ (∃ vs, oe.data = .fields vs) ∧ oe.dict = some D ∧ h.get? D = some oD
theorem ErrIn.inst {e D : Addr} {oD : Obj} (x : ErrIn h e D oD) : ∃ oe, InstAt h e oe 95 (some oD) ∧ oe.dict = some D := by
  obtain ⟨oe, he, hc, ⟨vs, hd⟩, hdd, hD⟩ := x
  exact ⟨oe, ⟨he, hc, by unfold notCls; rw [hd], by rw [hdd]; exact hD⟩, hdd⟩
theorem ErrIn.keep {e D : Addr} {oD : Obj} (x : ErrIn h e D oD) (k : ∀ b o, h.get? b = some o → h'.get? b = some o) : ErrIn h' e D oD := x.imp fun _ y => ⟨k _ _ y.1, y.2.1, y.2.2.1, y.2.2.2.1, k _ _ y.2.2.2.2⟩
end
section
variable {prog : Program} {w : World} {K : Frag} {base : Heap} {mg mb : Str → Option Value} {A : Around} {env : Env} {s : Shared} {Er : Value → Shared → Prop} {m : Str → Option Value} {e D p dx : Addr} {oD : Obj} {o l c : Int}
theorem self_at (Y : ExW K mg mb) {x : Expr} {Q : Value → Shared → Prop} (hx : isE env.kindOf (.attr (.loc 0) 6) x = true) (hf : env.scope.kind = .function) (X : K.In s.heap) (hn : s.heap.Ns env.locals m) (hm : m (nm 0) = some (.ref e))
    (I : ErrIn s.heap e D oD) (hl : lookIn (nm 6) oD = some (some (.ref p))) (q : Q (.ref p) { s with toks := s.toks + 1 }) : wpAny (model prog w) A (eval x env) Q Er s := by
  obtain ⟨oe, I, _⟩ := I.inst
  refine iAttr (P := WE prog w A env Q Er s) hx fun v pp ha h0 => ?_
  refine wpAny_bind (ab_any (no_super h0) (loc_l h0 hf hn hm ?_))
  refine wpAny_bind (wpAny_standAt (wpAny_bind (wpAny_holding ?_)))
  exact ex_get Y X Y.at_ I hl rfl (wpAny_bind (wpAny_letTemporaryGo (wpAny_pure q)))
theorem args_nil {f : Value} {first : List Value} {as : List Expr} {pos : Pos} {Q : Value → Shared → Prop} (X : K.In s.heap) (hf : ∀ h, K.In h → Kept (model prog w) h f) (hx : isEs env.kindOf [] as = true) (k : wpAny (model prog w) A (call f (first ++ [])) Q Er s) : wpAny (model prog w) A (callWith pos f first (backTo pos (starEach as env)) []) Q Er s :=
  have t := (plain_trees (pos := pos) (env := env) hx).1
  callWith_of ((Bool.or_false _).trans t) hf (evalArgs_any t (iEs0 (Q := fun as => wpAny (model prog w) A (spliced (backTo pos (starEach as env))) _ Er s) hx (wpAny_items_nil ⟨X, k⟩)))
variable (W : Wd prog w K base mg mb BP)
include W
theorem pos_fld {a : Nat} {x : Expr} {v : V} {R : List Addr} {ρ : Nat → Addr} {Q : Value → Shared → Prop} (hx : isE env.kindOf (.attr (.loc 0) a) x = true) (he : attrOf BP hN (.rin 46 (ptF o l c)) a = some v) (hf : env.scope.kind = .function) (hn : s.heap.Ns env.locals m) (hm : m (nm 0) = some (.ref p)) (P : Rep prog w base R ρ hN s.heap) (r : VRel R ρ 0 s.heap (.rin 46 (ptF o l c)) (.ref p)) (k : KV prog w base R ρ hN s v hN Q) : wpAny (model prog w) A (eval x env) Q Er s :=
  iAttr (P := WE prog w A env Q Er s) hx fun _ _ ha h0 => wpAny_bind (ab_any (no_super h0) (loc_l h0 hf hn hm (wpAny_bind (wpAny_standAt (wpAny_bind (wpAny_holding (attr_any W ha he P r fun ρ' h' t' cv P' G' r' => wpAny_bind (wpAny_letTemporaryGo (wpAny_pure (k _ _ _ _ P' G' r'))))))))))
noncomputable abbrev KT (s : Shared) (l c : Int) (Q : Value → Shared → Prop) : Prop := ∀ h' tk cv, (∀ b o, s.heap.get? b = some o → h'.get? b = some o) → VRel [] (fun _ => 0) 0 h' (.tup [.int l, .int c]) cv → Q cv ⟨h', s.gens, s.drawn, tk, s.os⟩
theorem pos_told {Q : Value → Shared → Prop} (hk : ∀ b o, base.get? b = some o → s.heap.get? b = some o) (hdep : A.depth < 1000) (HP : PtAt s.heap p dx o l c) (q : KT s l c Q) : wpAny (model prog w) A (call (.ref 43) [.ref p]) Q Er s := by
  refine wpAny_call ((W.fn 43 ⟨[0], [], [], b43⟩ rfl).elim fun D43 hD => enter_fn W hD (R := []) (ρ := fun _ => 0) (hp := hN) (args := [.rin 46 (ptF o l c)]) (vs := [.rin 46 (ptF o l c)]) (C := []) (h1 := hN) rfl rfl hdep ⟨(fun _ x => nomatch x), (fun _ x => nomatch x)⟩ (rep_zero hk) (.cons (HP.rel (fun x => nomatch x) (fun x => nomatch x)) .nil) fun env ρ₁ H tk hbody hfr hLn hks rv₁ P₁ G₁ M₁ => codeAny_func ?_)
  generalize D43.body = body at hbody ⊢
  obtain ⟨x1, b1, rfl, s1, hbody⟩ := ss_cons hbody
  cases ss_nil hbody
  obtain ⟨m, hn, hl'⟩ := M₁.locs
  obtain ⟨_, cv, a0, r0⟩ := hl' 0 (.rin 46 (ptF o l c)) rfl
  obtain ⟨p', rfl⟩ : ∃ p', cv = .ref p' := r0.inv (P := fun cv => ∃ p', cv = .ref p') fun _ a _ _ _ _ _ _ _ => ⟨a, rfl⟩
  refine wpAny_execs_cons (iRet (P := fun y => wpAny (model prog w) _ (exec y env) _ _ _) s1 fun v rp hv => wpAny_Return_some (iTpl (P := WE prog w _ env _ _ _) hv fun xs _ tp hxs => wpAny_Tuple ?_))
  refine iEs (Q := fun xs => wpAny (model prog w) _ (spliced (backTo tp (starEach xs env))) _ _ _) hxs fun y ys hs hy hys => wpAny_items_cons (pos_fld W (s := ⟨H, s.gens, s.drawn, tk, s.os⟩) hy rfl M₁.kind hn a0 P₁ r0 fun ρ₂ g₂ t₂ c1 P₂ G₂ r₂ => ?_) (starEach_cons hs)
  have r0' := r0.mono G₂ (fun _ x => nomatch x)
  have hn2 := ns_keep hn fun oo z => grow0 G₂ _ _ z
  refine iEs (Q := fun xs => wpAny (model prog w) _ (spliced (backTo tp (starEach xs env))) _ _ _) hys fun y ys hs hy hys => wpAny_items_cons (pos_fld W (s := ⟨g₂, s.gens, s.drawn, t₂, s.os⟩) hy rfl M₁.kind hn2 a0 P₂ r0' fun ρ₃ g₃ t₃ c2 P₃ G₃ r₃ => ?_) (starEach_cons hs)
  refine iEs0 (Q := fun xs => wpAny (model prog w) _ (spliced (backTo tp (starEach xs env))) _ _ _) hys (wpAny_items_nil ⟨show 2 ≤ sizeLine by decide +kernel, ?_⟩)
  have rv₃ := (rv₁.mono P₁ P₂ G₂).mono P₂ P₃ G₃
  refine newTup_any (s := ⟨g₃, s.gens, s.drawn, t₃, s.os⟩) P₃ rv₃ (.cons (r₂.mono G₃ (fun _ x => nomatch x)) (.cons r₃ .nil)) fun ρ₄ g₄ t₄ cv P₄ G₄ r₄ => ?_
  exact q g₄ t₄ cv (fun b o z => grow0 G₄ _ _ (grow0 G₃ _ _ (grow0 G₂ _ _ (hks _ _ z)))) (vrel0 r₄ fun _ _ z => z)
theorem pos_meth {Q : Value → Shared → Prop} {pl : Sem Bool} (hk : ∀ b o, base.get? b = some o → s.heap.get? b = some o) (hdep : A.depth < 1000) (HP : PtAt s.heap p dx o l c) (q : KT s l c Q) : wpAny (model prog w) A (getMethod (.ref p) (nm 147) pl) (fun fx s2 => ∀ as pos, isEs env.kindOf [] as = true → wpAny (model prog w) A (callWith pos fx.1 fx.2 (backTo pos (starEach as env)) []) Q Er s2) Er s := by
  have P : Rep prog w base [] (fun _ => 0) hN s.heap := rep_zero hk
  refine getM_any W (F := run BP 9) (d := 5) (vs := []) (h1 := hN) (r := (.tup [.int l, .int c], hN)) P (HP.rel (fun x => nomatch x) (fun x => nomatch x)) (mt := some 43) rfl (by kernel_rfl) fun hkp as pos has => ?_
  exact args_nil (W.X.keeps hk) hkp has (pos_told W hk hdep HP q)
theorem err_told (Y : ExW K mg mb) {Q : Value → Shared → Prop} (hk : ∀ b o, base.get? b = some o → s.heap.get? b = some o) (hdep : A.depth < 900) (I : ErrIn s.heap e D oD) (hl : lookIn (nm 6) oD = some (some (.ref p))) (HP : PtAt s.heap p dx o l c) (q : KT s l c Q) :
    wpAny (model prog w) A (call (.ref 79) [.ref e]) Q Er s := by
  refine wpAny_call (Y.f79.elim fun D79 hD => enter_fn W hD (R := []) (ρ := fun _ => 0) (hp := hN) (args := [.glb e]) (vs := [.glb e]) (C := []) (h1 := hN) rfl rfl (Nat.lt_trans hdep (by decide)) ⟨(fun _ x => nomatch x), (fun _ x => nomatch x)⟩ (rep_zero hk) (.cons (.glb e) .nil) fun env ρ₁ H tk hbody hfr hLn hks rv₁ P₁ G₁ M₁ => codeAny_func ?_)
  generalize D79.body = body at hbody ⊢
  obtain ⟨x1, b1, rfl, s1, hbody⟩ := ss_cons hbody
  obtain ⟨x2, b2, rfl, s2, hbody⟩ := ss_cons hbody
  cases ss_nil hbody
  obtain ⟨m, hn, hl'⟩ := M₁.locs
  obtain ⟨_, cv, a0, r0⟩ := hl' 0 (.glb e) rfl
  have m0 : m (nm 0) = some (.ref e) := a0.trans (r0.inv (P := fun cv => some cv = some (.ref e)) rfl)
  have X0 := W.X.keeps P₁.keep
  have IE := I.keep hks
  refine wpAny_execs_cons (iIfs (P := fun y => wpAny (model prog w) _ (exec y env) _ _ _) s1 fun tx y z ip hc _ hz => ?_)
  cases ss_nil hz
  refine iCmp (P := fun tx => wpAny (model prog w) _ (exec (.If tx y [] ip) env) _ _ _) hc fun la rb cp hla hrb hmk => wpAny_If (wpAny_isTrue_Compare1 (self_at Y (s := ⟨H, s.gens, s.drawn, tk, s.os⟩) hla M₁.kind X0 hn m0 IE hl (iCn (P := WE prog w _ env _ _ _) hrb fun _ _ => wpAny_Constant_none (is_none (wpAny_truthy_bool ?_)))) hmk)
  rw [show (Value.ref p == Value.none) = false from rfl, if_neg Bool.false_ne_true]
  refine wpAny_execs_nil (wpAny_execs_cons (iRet (P := fun y => wpAny (model prog w) _ (exec y env) _ _ _) s2 fun v rp hv => wpAny_Return_some (meth_call hv fun ov ho => self_at Y (s := ⟨H, s.gens, s.drawn, _, s.os⟩) ho M₁.kind X0 hn m0 IE hl fun pl => ?_)))
  exact pos_meth W (s := ⟨H, s.gens, s.drawn, _, s.os⟩) P₁.keep (Nat.succ_lt_succ (Nat.lt_trans hdep (by decide))) (HP.keep fun b o _ z _ => hks b o z) fun h' tk cv k r => q h' tk cv (fun b o z => k _ _ (hks _ _ z)) r
end
end
section
open PySem (Sem)
section
variable {prog : Program} {w : World} {K : Frag} {base h0 : Heap} {mg mb : Str → Option Value} {A : Around} {env : Env} {outer : List Env} {R : List Addr} {ρ : Nat → Addr} {n : Nat} {fm : Fm} {s : Shared} {Er : Value → Shared → Prop} {m : Str → Option Value} {e D p dx : Addr} {oD : Obj} {o l c : Int}
noncomputable abbrev toldE : E := .cmp .Eq (.mcall (.loc 207) 147 []) (.mcall (.loc 6) 147 [])
theorem eq_pairs {a b : Value} {l c : Int} {Q : Value → Shared → Prop} (hu : A.units + 64 < cLine) (ra : VRel [] (fun _ => 0) 0 s.heap (.tup [.int l, .int c]) a) (rb : VRel [] (fun _ => 0) 0 s.heap (.tup [.int l, .int c]) b) (q : ∀ t, Q (.bool true) { s with toks := t }) : wpAny (model prog w) A (compareOp .Eq a b) Q Er s := by
  have P : Rep prog w s.heap [] (fun _ => 0) hN s.heap := rep_zero fun _ _ e => e
  have hx : frz 12 hN (.tup [.int l, .int c]) = some (.tup [.int l, .int c]) := rfl
  have h1 : dataV (.tup [.int l, .int c]) = true := rfl
  obtain ⟨as, r1, d1⟩ := frz_reads P _ hx h1 ra
  obtain ⟨bs, r2, d2⟩ := frz_reads P _ hx h1 rb
  exact eq_dataH r1 r2 (Bool.and_eq_true_iff.mpr ⟨lay_toPy _ h1, decide_eq_true (Nat.le_trans d1 (by decide))⟩) (Bool.and_eq_true_iff.mpr ⟨lay_toPy _ h1, decide_eq_true (Nat.le_trans d2 (by decide))⟩) hu (kr (congrArg some (eqV_refl h1)) q s.toks)
theorem handled (W : Wd prog w K base mg mb BP) (Y : ExW K mg mb) {d : Nat} {Q : Flow → Shared → Prop} {np rp hpos : Pos} {cmpv : Expr} (hcmp : isE env.kindOf toldE cmpv = true) (k203 : env.kindOf (nm 203) = some .globalImplicit) (M : FmRel base R fm env ρ n h0)
    (hfr : A.frames = some (env :: outer)) (hl : s.heap.FunFrames base (env :: outer)) (hf : env.frame = some env.locals) (ht : TrD base s.heap e (.ref 95) (some D) .none) (hkb : base.StaysIn s.heap) (hen : base.get? e = none) (rm : Room A (d + 5))
    (hn : s.heap.Ns env.locals m) (hm6 : m (nm 6) = some (.ref p)) (hD : s.heap.get? D = some oD) (hDd : ∀ vs, oD.data ≠ .fields vs) (hl6 : lookIn (nm 6) oD = some (some (.ref p))) (hl147 : lookIn (nm 147) oD = some none) (HP : PtAt s.heap p dx o l c)
    (nD : D ∉ (env :: outer).filterMap (·.frame)) (np_ : p ∉ (env :: outer).filterMap (·.frame)) (ndx : dx ∉ (env :: outer).filterMap (·.frame))
    (q : ∀ h' tk, base.StaysIn h' → Q (.ret (.bool true)) ⟨h', s.gens, s.drawn, tk, s.os⟩) :
    wpAny (model prog w) A (noteFrame (.ref e) env) (fun _ s₂ => wpAny (model prog w) A (setFlight (.ref e) none) (fun _ s₃ => wpAny (model prog w) A (handleBy (.ref e) env [.ExceptHandler (some (.Name (nm 203) np)) (some (nm 207)) [.Return (some cmpv) rp] hpos]) Q Er s₃) Er s₂) Er s := by
  obtain ⟨cn, cq, cN, cT, cbs, csn, csub, cab, ccol, cdd, ck0, ck1, ck2, ck3, ck5, hC⟩ := Y.cls
  have k207 : env.kindOf (nm 207) = some .local := iCmp (P := fun _ => env.kindOf (nm 207) = some .local) hcmp fun _ _ _ ha _ _ => iMcall (P := fun _ => env.kindOf (nm 207) = some .local) ha fun _ _ _ _ _ _ ho _ _ => iName (P := fun _ => env.kindOf (nm 207) = some .local) ho fun _ _ k => k
  refine d_note hfr hl hf ht hkb hen fun g1 N1 T1 => ?_
  refine d_land (s := { s with heap := g1 }) N1.stays N1.frames T1 fun g2 N2 T2 => ?_
  have N12 := N1.then N2
  have X2 : K.In g2 := W.X.keeps N12.stays
  obtain ⟨oe, vs, T, oT, ts, he, ⟨hcls, hdict⟩, hd, h1, hnT, hTe, hT, hdT, h3⟩ := id T2
  refine wpAny_handleBy_cons ?_ (by intro z; cases z)
  refine codeAny_handlers_test ?_
  refine Calls.Name_function_global M.kind k203 (Calls.loadGlobal_global (s := { s with heap := g2 }) (M.glob ▸ W.g.keeps N12.stays) Y.gGE ?_) (nm_facts (by decide)).1
  refine wpAny_excMatches_sub_self (X2 _ _ hC) he hcls (by simp) ?_
  rw [if_pos rfl]
  dsimp only
  refine codeAny_handlers_suite_as ?_
  refine d_land (s := { s with heap := g2 }) N2.stays N2.frames T2 fun g3 N3 T3 => ?_
  have N123 := N12.then N3
  have n3 := N123.up.ns hn
  refine wpAny_storeName_local (s := { s with heap := g3 }) k207 n3 (fun g4 n4 hs4 => ?_) (by rw [M.kind]; rfl)
  have hLf : env.locals ∈ (env :: outer).filterMap (·.frame) := by rw [List.filterMap_cons, hf]; exact .head _
  have L4 : ∀ b ob, b ∉ (env :: outer).filterMap (·.frame) → s.heap.get? b = some ob → (∀ vs, ob.data ≠ .fields vs) → g4.get? b = some ob := fun b ob z3 z1 z2 => (hs4.2 b (fun z => z3 (z ▸ hLf))).trans (N123.same b ob z1 z2 z3)
  have st4 : base.StaysIn g4 := fun b ob z => (hs4.2 b (apart z M.off0)).trans (N3.stays _ _ z)
  obtain ⟨oe3, vs3, T', oT', ts', he3, ⟨hcls3, hdict3⟩, hd3, _⟩ := T3
  have heL : e ≠ env.locals := fun z => n3.elim fun oo x => x.elim fun _ x => x.elim fun _ x => by
    cases Option.some.inj ((z ▸ he3).symm.trans x.1)
    exact nomatch hd3.symm.trans x.2.1
  have I4 : ErrIn g4 e D oD := ⟨oe3, (hs4.2 e heL).trans he3, hcls3, ⟨_, hd3⟩, hdict3, L4 _ _ nD hD hDd⟩
  obtain ⟨oe4, IA4, hdict4⟩ := I4.inst
  have hne : nm 6 ≠ nm 207 := fun z => nomatch nm_inj (by decide) (by decide) z
  have HP4 := HP.keep fun b ob z => L4 b ob (z.elim (fun z => z ▸ np_) fun z => z ▸ ndx)
  have X4 : K.In g4 := W.X.keeps st4
  have hdep : A.depth < 900 := Nat.lt_of_lt_of_le (Nat.lt_add_of_pos_right (Nat.mul_pos (by decide) (Nat.succ_pos _))) rm.depth
  refine wpAny_execs_cons (wpAny_Return_some ?_)
  refine iCmp (P := WE prog w (A.mark (some (.ref e))) env _ _ ⟨g4, s.gens, s.drawn, _, s.os⟩) hcmp fun a b cp ha hb hmk => wpAny_Compare1 (meth_call ha fun ov ho => loc_l (cv := .ref e) ho M.kind n4 (if_pos rfl) fun pl => ?_) hmk
  refine ex_method Y X4 Y.told Y.toldF IA4 hdict4 hl147 fun as pos has => args_nil X4 (keeps_K Y.toldK) has ?_
  refine err_told W Y (s := ⟨g4, s.gens, s.drawn, _, s.os⟩) st4 hdep I4 hl6 HP4 fun g6 t6 cv1 k6 r6 => ?_
  refine meth_call (s := ⟨g6, s.gens, s.drawn, t6, s.os⟩) hb fun ov ho => loc_l ho M.kind (ns_keep n4 fun oo z => k6 _ _ z) ((if_neg hne).trans hm6) fun pl => ?_
  refine pos_meth W (s := ⟨g6, s.gens, s.drawn, t6, s.os⟩) (fun b ob z => k6 _ _ (st4 _ _ z)) (Nat.lt_trans hdep (by decide)) (HP4.keep fun b ob _ z _ => k6 b ob z) fun g7 t7 cv2 k7 r7 => ?_
  have he : cmpV BP.sd hN .Eq (.tup [.int l, .int c]) (.tup [.int l, .int c]) = some true := cmp_self rfl rfl
  refine eq_pairs (s := ⟨g7, s.gens, s.drawn, t7, s.os⟩) rm.line.1 (vrel0 r6 k7) r7 fun t8 => ?_
  have n7 := ns_keep n4 fun oo z => k7 _ _ (k6 _ _ z)
  refine wpAny_nameGoes (s := ⟨g7, s.gens, s.drawn, t8, s.os⟩) k207 n7 (by rw [M.kind]; rfl) fun g8 m8 n8 hs8 => ?_
  exact q g8 _ fun b ob z => (hs8.2 b (apart z M.off0)).trans (k7 _ _ (k6 _ _ (st4 _ _ z)))
end
end
section
open PySem (Sem)
theorem execs_append (env : Env) (ys : List Stmt) : ∀ xs : List Stmt, execs (xs ++ ys) env = execs xs env >>= fun f => match f with | .next => execs ys env | f => pure f
  | [] => rfl
  | x :: xs => by
    rw [List.cons_append, execs_cons, execs_cons, bind_assoc]
    congr 1
    funext f
    cases f with
    | next => exact execs_append env ys xs
    | _ => rfl
theorem wpAny_append {M : Model} {A : Around} {E : Value → Shared → Prop} {s : Shared} {env : Env} {xs ys : List Stmt} {Q : Flow → Shared → Prop} (h : wpAny M A (execs xs env) (SeqQ M A env ys Q E) E s) : wpAny M A (execs (xs ++ ys) env) Q E s := by
  rw [execs_append]
  refine wpAny_bind (wpAny_mono h (fun f s' z => ?_) fun _ _ z => z)
  cases f <;> first | exact z | exact wpAny_pure z
theorem ss_app {kd : Kd} {l2 : List St} : ∀ {l1 : List St} {xs : List Stmt}, isSs kd (l1 ++ l2) xs = true → ∃ xs1 xs2, xs = xs1 ++ xs2 ∧ isSs kd l1 xs1 = true ∧ isSs kd l2 xs2 = true
  | [], xs, h => ⟨[], xs, rfl, rfl, h⟩
  | st :: l1, xs, h => by
    obtain ⟨y, ys, rfl, h1, h2⟩ := ss_cons (r := l1 ++ l2) h
    obtain ⟨xs1, xs2, rfl, h3, h4⟩ := ss_app h2
    exact ⟨y :: xs1, xs2, rfl, Bool.and_eq_true_iff.mpr ⟨h1, h3⟩, h4⟩
section
variable (F : Fns) (d : Nat)
noncomputable abbrev RawO := Option (Nat × Fm × Hp)
noncomputable def rawIn (T : Fm → Hp → List St → RawO) (fm : Fm) (hp : Hp) (s : St) : RawO := match s with
  | .raw k => some (k, fm, hp)
  | .ifs c a b => match F.ts d fm hp c with
    | some (q, h1) => T fm h1 (match q with | true => a | false => b)
    | none => none
  | _ => none
noncomputable def rawStep (T : Fm → Hp → List St → RawO) (fm : Fm) (hp : Hp) (l : List St) : RawO := match l with
  | [] => none
  | s :: r => match rawIn F d T fm hp s with
    | some z => some z
    | none => match F.ex d fm hp [s] with
      | some (fl, fm2, h2) => match fl with
        | .next => T fm2 h2 r
        | .ret _ => none
      | none => none
noncomputable def toRaw (n : Nat) : Fm → Hp → List St → RawO := @Nat.rec (fun _ => Fm → Hp → List St → RawO) (fun _ _ _ => none) (fun _ T => rawStep F d T) n
end
section
variable {prog : Program} {w : World} {K : Frag} {base : Heap} {F : Fns} {d : Nat} {A : Around} {env : Env} {R : List Addr} {s : Shared} {Q : Flow → Shared → Prop} {Er : Value → Shared → Prop} {ρ₀ : Nat → Addr} {n₀ : Nat} {g₀ : Heap} {q : Nat} {fm' : Fm} {hp' : Hp}
noncomputable abbrev RetQ (Q Q' : Flow → Shared → Prop) : Prop := ∀ cv s', Q (.ret cv) s' → Q' (.ret cv) s'
noncomputable abbrev KRaw (prog : Program) (w : World) (base : Heap) (A : Around) (env : Env) (R : List Addr) (s : Shared) (Q : Flow → Shared → Prop) (Er : Value → Shared → Prop) (ρ₀ : Nat → Addr) (n₀ : Nat) (g₀ : Heap) (q : Nat) (fm' : Fm) (hp' : Hp) : Prop := ∀ x ρ' g' t' Q', isS env.kindOf (.raw q) x = true → Resv base R g' → Rep prog w base R ρ' hp' g' → Grow [env.locals] ρ₀ n₀ g₀ ρ' hp'.n g' → FmRel base R fm' env ρ' hp'.n g' → RetQ Q Q' → wpAny (model prog w) A (exec x env) Q' Er ⟨g', s.gens, s.drawn, t', s.os⟩
theorem raw_ok (Z : Snd prog w K base F) (rm : Room A d) (k : KRaw prog w base A env R s Q Er ρ₀ n₀ g₀ q fm' hp') : ∀ (n : Nat) {fm : Fm} {hp : Hp} {l : List St} {xs : List Stmt} {ρ : Nat → Addr} {g : Heap} {t : Nat} {Q' : Flow → Shared → Prop}, toRaw F d n fm hp l = some (q, fm', hp') → isSs env.kindOf l xs = true → Resv base R g → Rep prog w base R ρ hp g → Grow [env.locals] ρ₀ n₀ g₀ ρ hp.n g → FmRel base R fm env ρ hp.n g → RetQ Q Q' → wpAny (model prog w) A (execs xs env) Q' Er ⟨g, s.gens, s.drawn, t, s.os⟩
  | 0, _, _, _, _, _, _, _, _, e, _, _, _, _, _, _ => nos e
  | n + 1, fm, hp, [], _, _, _, _, _, e, _, _, _, _, _, _ => nos e
  | n + 1, fm, hp, st :: r, xs, ρ, g, t, Q', e, hx, rv, P, G, M, hr => by
    obtain ⟨y, ys, rfl, hy, hys⟩ := ss_cons hx
    have e : rawStep F d (toRaw F d n) fm hp (st :: r) = some (q, fm', hp') := e
    set_option smartUnfolding false in refine obe e (fun z hz e => ?_) fun _ e => ?_
    · cases Option.some.inj e
      refine wpAny_execs_cons ?_
      have hr' : RetQ Q (SeqQ (model prog w) A env ys Q' Er) := hr
      induction st using St.casesOn with
      | raw k0 =>
        cases Option.some.inj hz
        exact k _ _ _ _ _ hy rv P G M hr'
      | ifs c a b =>
        set_option smartUnfolding false in refine obp hz fun b1 h1 hu hz => ?_
        refine iIfs (P := fun y => wpAny (model prog w) A (exec y env) _ Er _) hy fun t y z p hc ha hb => wpAny_If (Z.ts (s := ⟨g, s.gens, s.drawn, _, s.os⟩) hu hc rm rv P M fun ρ₁ g₁ t₁ P₁ G₁ => ?_)
        have run := fun {l xs} (hq : toRaw F d n fm h1 l = some (q, fm', hp')) (hb : isSs env.kindOf l xs = true) => raw_ok Z rm k n (t := t₁) hq hb (rv.mono P P₁ G₁) P₁ (grow_then P G (grow_loc M G₁)) (M.mono G₁) hr'
        induction b1 using Bool.casesOn with
        | true => exact run hz ha
        | false => exact run hz hb
      | _ => exact nos hz
    · set_option smartUnfolding false in refine ob3 e fun fl fm2 h2 hq e => ?_
      induction fl using Fl.casesOn with
      | ret v => exact nos e
      | next =>
        refine wpAny_append (xs := [y]) (Z.ex (s := ⟨g, s.gens, s.drawn, t, s.os⟩) hq (Bool.and_eq_true_iff.mpr ⟨hy, rfl⟩) rm rv P M fun ρ₁ g₁ t₁ cf P₁ G₁ M₁ f₁ => flNext (P := fun cf => SeqQ (model prog w) A env ys Q' Er cf _) f₁ ?_)
        exact raw_ok Z rm k n (t := t₁) e hys (rv.mono P P₁ G₁) P₁ (grow_then P G G₁) M₁ hr
end
end
section
open PySem (Sem)
theorem funFrames_keep {h h' base : Heap} : ∀ {l : List Env}, h.FunFrames base l → (∀ b, b ∈ l.filterMap (·.frame) → ∀ o, h.get? b = some o → ∃ o', h'.get? b = some o' ∧ o'.data = o.data) → h'.FunFrames base l
  | [], _, _ => trivial
  | env :: rest, ⟨hk, ⟨L, o, hf, hn, ho, hd⟩, hr⟩, k => by
    rw [List.filterMap_cons, hf] at k
    obtain ⟨o', ho', hd'⟩ := k L (.head _) o ho
    exact ⟨hk, ⟨L, o', hf, hn, ho', fun vs => hd' ▸ hd vs⟩, funFrames_keep hr fun b hb => k b (.tail _ hb)⟩
structure TokR (base : Heap) (outer : List Env) (h h'' : Heap) (p e : Addr) : Prop where
  stays : base.StaysIn h''
  frames : h''.FunFrames base outer
  fresh : base.get? e = none
  tr : ∃ D oD, TrD base h'' e (.ref 95) (some D) .none ∧ h''.get? D = some oD ∧ (∀ vs, oD.data ≠ .fields vs) ∧ lookIn (nm 6) oD = some (some (.ref p)) ∧ lookIn (nm 147) oD = some none ∧ D ∉ outer.filterMap (·.frame)
  pos : ∃ dx o l c, PtAt h'' p dx o l c ∧ dx ∉ outer.filterMap (·.frame)
  up : ∀ b o, b ∈ outer.filterMap (·.frame) → h.get? b = some o → (∀ vs, o.data ≠ .fields vs) → ∃ sl, h''.get? b = some { o with slots := sl }
noncomputable def raiseEs (k : Nat) : List E := [match k with
  | 3 => .bin .Add (.cs unkS) (.attr (.loc 72) 5)
  | _ => .cs lngS, .attr (.loc 72) 6]
theorem raise_is {kd : Kd} {k : Nat} {x : Stmt} (hk : k = 3 ∨ k = 4) (h : isS kd (.raw k) x = true) : (oRai x fun c z _ => z.isNone && oO c fun c => isE kd (.call 203 (raiseEs k)) c) = true :=
  hk.elim (fun z => by cases z; exact h) fun z => by cases z; exact h
section
variable {prog : Program} {w : World} {K : Frag} {base : Heap} {mg mb : Str → Option Value} {hp h4 : Hp} {A : Around} {outer : List Env} {R : List Addr} {ρ : Nat → Addr} {s : Shared} {Rr : Result → Shared → Prop} {a b ad kk : Nat} {fm3 : Fm} {hp3 : Hp} {o l c : Int} {msg : S}
noncomputable abbrev startFm (b : Nat) : Fm := ⟨Mine.bindL [] [72] [.ref b] [], []⟩
theorem tok_raise (W : Wd prog w K base mg mb BP) (Z : Snd prog w K base (run BP 300)) (Y : ExW K mg mb) (hraw : toRaw (run BP 300) 10 60 (startFm b) hp b788 = some (kk, fm3, hp3)) (hkk : kk = 3 ∨ kk = 4) (hev : evs (run BP 300) 10 fm3 (raiseEs kk) hp3 = some ([.str msg, .ref a], h4)) (hb : b < hp.n) (ha : a < h4.n) (hpos : h4.get a = some (.inst 46 ad)) (hpd : h4.get ad = some (.flds (ptF o l c)))
    (hfr : A.frames = some outer) (hl : s.heap.FunFrames base outer) (hoff : ∀ L, L ∈ outer.filterMap (·.frame) → ∀ i, i < hp.n → ρ i ≠ L) (rm : Room A 11) (rv : Resv base R s.heap) (P : Rep prog w base R ρ hp s.heap)
    (q : ∀ h'' tk p e, (a < hp.n → p = ρ a) → TokR base outer s.heap h'' p e → Rr (.error (.ref e)) ⟨h'', s.gens, s.drawn, tk, s.os⟩) :
    codeAny (model prog w) A (.call (.ref 788) ⟨[.ref (ρ b)], []⟩) Rr s := by
  refine (W.fn 788 ⟨[72], [], [], b788⟩ rfl).elim fun D hD => enter_fn W hD (args := [.ref b]) (vs := [.ref b]) (C := []) (h1 := hp) rfl rfl (Nat.lt_of_le_of_lt (Nat.le_trans (Nat.le_add_right _ _) rm.depth) (by decide)) rv P (.cons (.ref b hb) .nil) fun env ρ₁ H tk hbody hfrm hLn hk rv₁ P₁ G₁ M₁ => codeAny_func ?_
  have rm' : Room (A.deeper env) 10 := rm.deeper env
  refine raw_ok Z rm' (Q := fun _ _ => False) (s := ⟨H, s.gens, s.drawn, tk, s.os⟩) (fun x ρ₂ g₂ t₂ Q' hx rv₂ P₂ G₂ M₂ _ => ?_) 60 hraw hbody rv₁ P₁ (G₁.to_one hLn) M₁ fun _ _ z => z.elim
  refine st_raise W Y Z (s := ⟨g₂, s.gens, s.drawn, t₂, s.os⟩) (raise_is hkk hx) hev rm' rv₂ P₂ M₂ fun ρ₃ g₃ h' tk e D tt P₃ G₃ hi he3 hD3 hk3 hE => ?_
  have G := (grow_then P₂ G₂ (grow_loc M₂ G₃)).nil_of fun b z => List.mem_singleton.mp z ▸ hLn
  have M₃ := M₂.mono G₃
  obtain ⟨m, hn, _⟩ := M₃.locs
  obtain ⟨oL, esL, epL, hoL, hdL, _⟩ := hn
  have FL : ∀ {L}, L ∈ outer.filterMap (·.frame) → ∃ o, s.heap.get? L = some o ∧ g₃.get? L = some o ∧ ∀ i, i < h4.n → ρ₃ i ≠ L := fun {L} hL => by
    obtain ⟨_, o, ho, _⟩ := hl.mem hL
    exact ⟨o, ho, G.keep _ _ ho (fun z => nomatch z) (hoff L hL), G.off ho (hoff L hL)⟩
  have base3 : base.StaysIn h' := fun bb o z => hk3 _ _ (P₃.keep _ _ z)
  have FF : h'.FunFrames base (env :: outer) := ⟨by rw [M₂.kind]; decide, ⟨env.locals, oL, hfrm, M₂.off0, hk3 _ _ hoL, fun vs z => nomatch hdL.symm.trans z⟩, funFrames_keep hl fun bb hb o z => (FL hb).elim fun o' y => ⟨o, hk3 _ _ (Option.some.inj (y.1.symm.trans z) ▸ y.2.1), rfl⟩⟩
  refine d_leave1 (s := ⟨h', s.gens, s.drawn, tk, s.os⟩) (Around.frames_deeper hfr) FF hfrm hE.obj base3 (none_of P₃.keep he3) rfl rfl fun h'' N T => ?_
  obtain ⟨mD, hDN, hm6, hmo⟩ := hE.dict
  obtain ⟨oD, hoD, hoDf, hlook⟩ := look_of_ns hDN.ns
  have nf : ∀ {bb}, bb ∉ outer.filterMap (·.frame) → bb ≠ env.locals → bb ∉ (env :: outer).filterMap (·.frame) := fun {bb} z1 z2 z3 => by
    rw [List.filterMap_cons, hfrm] at z3
    exact (List.mem_cons.mp z3).elim z2 z1
  have nD : D ∉ outer.filterMap (·.frame) := fun z => (FL z).elim fun o y => nos (hD3.symm.trans y.2.1)
  have own : ∀ {i}, i < h4.n → ρ₃ i ∉ outer.filterMap (·.frame) := fun {i} hi z => (FL z).elim fun o y => y.2.2 i hi rfl
  refine P₃.atI ha hpos fun had hpo => P₃.atF had hpd fun es k hdo hDR => ?_
  have hne : ∀ {x}, x < nN → x ≠ 147 → nm 147 ≠ nm x := fun hx z y => z (nm_inj (by decide) hx y).symm
  refine q h'' _ (ρ₃ a) e (fun hap => G.same a hap) ⟨N.stays, N.frames.2.2, none_of P₃.keep he3, ⟨D, oD, T, N.same _ _ hoD hoDf (nf nD fun z => apart hoL hD3 z.symm), hoDf, (hlook _).trans (congrArg some hm6), (hlook _).trans (congrArg some (hmo _ (hne (by decide) (by decide)) (hne (by decide) (by decide)))), nD⟩,
    ⟨ρ₃ ad, o, l, c, PtAt.keep (h := g₃) ⟨hpo, es, k, hdo, ints_fld hDR⟩ fun bb ob z y hf => N.same _ _ (hk3 _ _ y) hf (nf (z.elim (fun z => z ▸ own ha) fun z => z ▸ own had) (z.elim (fun z => z ▸ M₃.off a ha) fun z => z ▸ M₃.off ad had)), own had⟩,
    fun bb ob hb z hf => (FL hb).elim fun o' y => N.up _ _ (hk3 _ _ (Option.some.inj (y.1.symm.trans z) ▸ y.2.1)) hf⟩
end
end
section
open PySem (Sem)
noncomputable abbrev fm18 (xs : List Int) (p l c : Int) (i : Nat × Nat × Nat) : Fm := ⟨Mine.bindL [] [18] [.row ⟨xs, tabL (tkTab p l c i)⟩] [], []⟩
noncomputable def hiL (xs : List Int) (p l c : Int) (i : Nat × Nat × Nat) : Option (Nat × Option V × Option V × Nat × List V × Option O × Option O × Bool) :=
  bo (toRaw (run BP 300) 11 60 (fm18 xs p l c (8 + i.1, i.2)) hN b842) fun z => bo (toRaw (run BP 300) 10 60 (startFm 4) z.2.2 b788) fun y => bo (evs (run BP 300) 10 y.2.1 (raiseEs y.1) y.2.2) fun u => some (z.1, Mine.getL z.2.1.L 171, Mine.getL z.2.1.L 6, y.1, u.1, u.2.get 1, u.2.get 0, Nat.blt 4 z.2.2.n && Nat.blt 1 u.2.n)
noncomputable def kindI : Nat → Nat
  | 0 => 3
  | _ => 4
noncomputable def msgI (m : Nat) : Nat → S
  | 0 => unkS ++ ([37] ++ namesL.getD m [] ++ [122])
  | _ => lngS
noncomputable def hiR (p l c : Int) (i : Nat × Nat × Nat) : Option (Nat × Option V × Option V × Nat × List V × Option O × Option O × Bool) :=
  some (1, some (.ref 4), some (.ref 1), kindI i.1, [.str (msgI i.2.2 i.1), .ref 1], some (.inst 46 0), some (.flds (ptF p (1 + l) (1 + c))), true)
theorem hi_all (xs : List Int) (p l c : Int) : mapA (hiL xs p l c) (idx3 2 7 3) = (idx3 2 7 3).map (hiR p l c) := by kernel_rfl
theorem kindI_is (j : Nat) : kindI j = 3 ∨ kindI j = 4 := match j with
  | 0 => .inl rfl
  | _ + 1 => .inr rfl
section
variable {α : Type}
theorem o1_x {l : List α} {f : α → Bool} (h : o1 l f = true) : ∃ a, l = [a] ∧ f a = true := o1_e (P := fun l => ∃ a, l = [a] ∧ f a = true) h fun a h => ⟨a, rfl, h⟩
theorem oO_x {l : Option α} {f : α → Bool} (h : oO l f = true) : ∃ a, l = some a ∧ f a = true := oO_e (P := fun l => ∃ a, l = some a ∧ f a = true) h fun a h => ⟨a, rfl, h⟩
end
theorem one_rel {R : List Addr} {ρ : Nat → Addr} {n : Nat} {h : Heap} {i : Nat} {cvs : List Value} (r : VRels R ρ n h [.ref i] cvs) : cvs = [.ref (ρ i)] ∧ i < n :=
  r.inv (P := fun cvs => cvs = [.ref (ρ i)] ∧ i < n) fun c1 cs x r => r.inv (P := fun cs => c1 :: cs = [.ref (ρ i)] ∧ i < n) (x.inv (P := fun c1 => [c1] = [.ref (ρ i)] ∧ i < n) fun hi => ⟨rfl, hi⟩)
theorem raw_shape {kd : Kd} {x : Stmt} (h : rawIs kd x = true) : ∃ e epos np cmpv rp hpos tpos, x = .Try [.Expr e epos] [.ExceptHandler (some (.Name (nm 203) np)) (some (nm 207)) [.Return (some cmpv) rp] hpos] [] [] tpos ∧ isE kd (.call 175 [.loc 171]) e = true ∧ kd (nm 203) = some .globalImplicit ∧ isE kd toldE cmpv = true := by
  refine oTry_e (P := fun x => ∃ e epos np cmpv rp hpos tpos, x = .Try [.Expr e epos] [.ExceptHandler (some (.Name (nm 203) np)) (some (nm 207)) [.Return (some cmpv) rp] hpos] [] [] tpos ∧ isE kd (.call 175 [.loc 171]) e = true ∧ kd (nm 203) = some .globalImplicit ∧ isE kd toldE cmpv = true) h fun b hs o f tpos h => and2 h fun h h4 => and2 h fun h h3 => and2 h fun h1 h2 => ?_
  obtain rfl : o = [] := o0_e (P := fun o => o = []) h1 rfl
  obtain rfl : f = [] := o0_e (P := fun o => o = []) h2 rfl
  obtain ⟨st, rfl, h3⟩ := o1_x h3
  obtain ⟨⟨ty, na, body, hpos⟩, rfl, h4⟩ := o1_x h4
  obtain ⟨e, epos, rfl, he⟩ : ∃ e p, st = .Expr e p ∧ isE kd (.call 175 [.loc 171]) e = true := oExp_e (P := fun st => ∃ e p, st = .Expr e p ∧ isE kd (.call 175 [.loc 171]) e = true) h3 fun e p h => ⟨e, p, rfl, h⟩
  refine and2 h4 fun h h7 => and2 h fun h5 h6 => ?_
  obtain ⟨g, rfl, h5⟩ := oO_x h5
  obtain ⟨n, rfl, h6⟩ := oO_x h6
  obtain ⟨rt, rfl, h7⟩ := o1_x h7
  obtain ⟨rv, rp, rfl, h7⟩ : ∃ v p, rt = .Return v p ∧ (oO v fun v => isE kd toldE v) = true := oRet_e (P := fun rt => ∃ v p, rt = .Return v p ∧ (oO v fun v => isE kd toldE v) = true) h7 fun v p h => ⟨v, p, rfl, h⟩
  obtain ⟨cmpv, rfl, h7⟩ := oO_x h7
  obtain ⟨np, rfl, h55⟩ : ∃ p, g = .Name (nm 203) p ∧ kd (nm 203) = some .globalImplicit := iName (P := fun g => ∃ p, g = .Name (nm 203) p ∧ kd (nm 203) = some .globalImplicit) h5 fun p _ h => ⟨p, rfl, h⟩
  cases beq_iff_eq.mp h6
  exact ⟨e, epos, np, cmpv, rp, hpos, tpos, rfl, he, h55, h7⟩
section
variable {prog : Program} {w : World} {K : Frag} {base : Heap} {mg mb : Str → Option Value} {A : Around} {outer : List Env} {s : Shared} {Rr : Result → Shared → Prop}
theorem tok842 (W : Wd prog w K base mg mb BP) (Z : Snd prog w K base (run BP 300)) (Y : ExW K mg mb) (hfr : A.frames = some outer) (hl : s.heap.FunFrames base outer) (rm : Room A 12) (hk : base.StaysIn s.heap) {xs : List Int} (h : goodRow xs = true) (hs : lowRow xs = false) {ra : Addr} {o : Obj} {cvs : List Value} {kk : Nat}
    (ho : s.heap.get? ra = some o) (hc : o.cls = .type "list") (hd : o.data = .seq cvs.toArray kk) (hi : IntsL cvs xs) (q : ∀ h' tk, base.StaysIn h' → Rr (.ok (.ret (.bool true))) ⟨h', s.gens, s.drawn, tk, s.os⟩) :
    codeAny (model prog w) A (.call (.ref 842) ⟨[.ref ra], []⟩) Rr s := by
  obtain ⟨si, es, hs2⟩ := pick_nat xs 4 (m := 10) (by decide)
  obtain ⟨wi, ew, hw⟩ := pick_nat xs 62 (m := 7) (by decide)
  obtain ⟨mi, em, hm⟩ := pick_nat xs 63 (m := 3) (by decide)
  have h8 : 8 ≤ si := Int.ofNat_le.mp (es ▸ Int.not_lt.mp (of_decide_eq_false hs))
  obtain ⟨j, rfl⟩ := Nat.exists_eq_add_of_le h8
  have e := mapA_eq (hi_all xs (pickI xs 5 90) (pickI xs 60 9) (pickI xs 61 9)) _ (idx3_mem (show j < 2 from Nat.lt_of_add_lt_add_left hs2) hw hm)
  have T : okT xs (tkTab (pickI xs 5 90) (pickI xs 60 9) (pickI xs 61 9) (8 + j, wi, mi)) := ⟨es.symm, rfl, rfl, rfl, ew.symm, em.symm, trivial⟩
  have ok := rowOk_tab h fun a m v => tabL_ok rfl T
  refine bo_e e fun z ez e => bo_e e fun y ey e => bo_e e fun u eu e => ?_
  obtain ⟨zk, fz, hz⟩ := z
  obtain ⟨yk, fy, hy⟩ := y
  obtain ⟨us, hu⟩ := u
  obtain ⟨e1, e⟩ := Prod.mk.inj (Option.some.inj e)
  obtain ⟨e171, e⟩ := Prod.mk.inj e
  obtain ⟨e6, e⟩ := Prod.mk.inj e
  obtain ⟨ek, e⟩ := Prod.mk.inj e
  obtain ⟨eus, e⟩ := Prod.mk.inj e
  obtain ⟨epos, e⟩ := Prod.mk.inj e
  obtain ⟨epd, e⟩ := Prod.mk.inj e
  obtain ⟨n4, n1⟩ := Bool.and_eq_true_iff.mp e
  dsimp only at e1 e171 e6 ek eus epos epd n4 n1 ez ey eu
  subst e1 ek eus
  have n4 := Nat.blt_eq.mp n4
  have n1 := Nat.blt_eq.mp n1
  refine (W.fn 842 ⟨[18], [], [], b842⟩ rfl).elim fun D hD => enter_fn W hD (R := []) (ρ := fun _ => 0) (hp := hN) (args := [.row ⟨xs, _⟩]) (vs := [.row ⟨xs, _⟩]) (C := []) (h1 := hN) rfl rfl (Nat.lt_of_le_of_lt (Nat.le_trans (Nat.le_add_right _ _) rm.depth) (by decide)) ⟨(fun _ x => nomatch x), (fun _ x => nomatch x)⟩ (rep_zero hk)
    (.cons (.row ok ho hc hd ⟨fun i hi => absurd hi (Nat.not_lt_zero i), List.not_mem_nil⟩ hi) .nil) fun env ρ₁ H tk hbody hfrm hLn hks rv₁ P₁ G₁ M₁ => codeAny_func ?_
  have rm' : Room (A.deeper env) 11 := rm.deeper env
  refine raw_ok Z rm' (Q := fun f s' => ∀ v, f = .ret v → Rr (.ok (.ret v)) s') (s := ⟨H, s.gens, s.drawn, tk, s.os⟩) (fun x ρ₄ g₄ t₄ Q' hx rv₄ P₄ G₄ M₄ hr => ?_) 60 ez hbody rv₁ P₁ (G₁.to_one hLn) M₁ fun cv _ z => z cv rfl
  obtain ⟨ce, cpos, np, cmpv, rp, hpos, tpos, rfl, hce, k203, hcmp⟩ := raw_shape hx
  refine wpAny_Try_except (wpAny_execs_cons (wpAny_Expr_any (iCall (P := WE prog w _ env _ _ _) hce fun p as pos hy hk' hlen has => Call_Name rfl (glob_any W (B := BP) (y := 175) (v := .glb 788) rfl hk' rv₄ P₄ M₄ fun cf rf => rf.inv (P := fun cf => wpAny (model prog w) _ (callWith pos cf [] (backTo pos (starEach as env)) []) _ _ _) ?_)) (plain_env M₄) (congrFun (congrFun (congrFun (no_comp hce rfl) _) _) _)))
  have hv : evs (run BP 300) 11 fz [.loc 171] hz = some ([.ref 4], hz) := by
    rw [evs_cons, show (run BP 300).ev 11 fz hz (.loc 171) = some (.ref 4, hz) from by rw [x_loc BP 299, e171]]
    rfl
  refine args_any Z W.X (s := ⟨g₄, s.gens, s.drawn, _, s.os⟩) (keeps_K (known_keep W (a := 788) rfl)) hv has rm' rv₄ P₄ M₄ fun ρ₅ g₅ t₅ cvs P₅ G₅ r₅ => ?_
  cases (one_rel r₅).1
  have rv₅ := rv₄.mono P₄ P₅ G₅
  have M₅ := M₄.mono G₅
  have G := (grow_then P₄ G₄ (grow_loc M₄ G₅)).nil_of fun b z => List.mem_singleton.mp z ▸ hLn
  obtain ⟨m, hn, hml⟩ := M₅.locs
  obtain ⟨oL, esL, epL, hoL, hdL, hrL⟩ := hn
  obtain ⟨_, cv6, a6, r6⟩ := hml 6 _ e6
  have m6 : m (nm 6) = some (.ref (ρ₅ 1)) := a6.trans (r6.inv (P := fun cv => some cv = some (.ref (ρ₅ 1))) fun _ => rfl)
  have FF : g₅.FunFrames base (env :: outer) := ⟨by rw [M₅.kind]; decide, ⟨env.locals, oL, hfrm, M₅.off0, hoL, fun vs z => nomatch hdL.symm.trans z⟩, funFrames_keep hl fun bb hb oo z => ⟨oo, grow0 G _ _ z, rfl⟩⟩
  have hLf : env.locals ∈ (env :: outer).filterMap (·.frame) := by rw [List.filterMap_cons, hfrm]; exact .head _
  have hoff : ∀ L, L ∈ (env :: outer).filterMap (·.frame) → ∀ i, i < hz.n → ρ₅ i ≠ L := fun L hL i hi => by
    rw [List.filterMap_cons, hfrm] at hL
    exact (List.mem_cons.mp hL).elim (fun z => z ▸ M₅.off i hi) fun z => (hl.mem z).elim fun _ y => y.elim fun _ y => G.off y.1 (fun i hi => absurd hi (Nat.not_lt_zero i)) i hi
  have h1z : 1 < hz.n := Nat.lt_trans (by decide) n4
  refine wpAny_call (tok_raise W Z Y (s := ⟨g₅, s.gens, s.drawn, t₅, s.os⟩) ey (kindI_is j) eu n4 n1 epos epd (Around.frames_deeper hfr) FF hoff rm' rv₅ P₅ fun h'' tk' p e hp T => ?_)
  cases hp h1z
  obtain ⟨D', oD, hTr, hoD, hoDf, hl6, hl147, nD⟩ := T.tr
  obtain ⟨dx, oo, ll, cc, HP, ndx⟩ := T.pos
  obtain ⟨sl, hL'⟩ := T.up _ _ hLf hoL fun vs z => nomatch hdL.symm.trans z
  refine handled W Y (s := ⟨h'', s.gens, s.drawn, tk', s.os⟩) hcmp k203 M₅ (Around.frames_deeper hfr) T.frames hfrm hTr T.stays T.fresh (d := 6) rm' ⟨_, esL, epL, hL', hdL, hrL⟩ m6 hoD hoDf hl6 hl147 HP nD (fun z => hoff _ z 1 h1z rfl) ndx fun h' tk'' hst => hr _ _ fun v ev => ?_
  cases ev
  exact q h' tk'' hst
end
end
section
open PySem (Sem)
theorem es_cons {kd : Kd} {e : E} {r : List E} {xs : List Expr} (h : isEs kd (e :: r) xs = true) : ∃ y t, xs = y :: t ∧ isE kd e y = true ∧ isEs kd r t = true := iEs (Q := fun xs => ∃ y t, xs = y :: t ∧ isE kd e y = true ∧ isEs kd r t = true) h fun y t _ a b => ⟨y, t, rfl, a, b⟩
section
variable {prog : Program} {w : World} {K : Frag} {base : Heap} {mg mb : Str → Option Value} {A : Around} {s : Shared} {Rr : Result → Shared → Prop}
theorem part_ev {f y i : Nat} {fm : Fm} {hp : Hp} {row : List Int} (hf : (Nat.beq f 830 || Nat.beq f 835 || Nat.beq f 842) = true) (hL : Mine.getL fm.L 18 = some (.ref i)) (hg : hp.get i = some (.list (row.map .int))) (hr : goodRow row = true) (hw : (!Nat.beq f 842 || lowRow row) = true) (hgl : BT.glob y = some (.glb f)) (hkn : known BT f = true) :
    REv BT 59 fm hp (.call y [.loc 18]) (.bool true) hp :=
  (evL (C := fm.C) hL).up2 (orc_px (orcT_row (d := 59) hf rfl hg hr hw)) fun n a b => by
    rw [x_call, hgl]
    dsimp only
    rw [evs_cons, a]
    show (match known BT f with | true => (run BT n).cl 59 f [.ref i] hp | false => none) = _
    rw [hkn]
    exact b
set_option backward.match.sparseCases true in
theorem law_walk (WT : Wd prog w K base mg mb BT) (OT : OrcOk prog w base BT) (RT : RawOk prog w base BT) (W : Wd prog w K base mg mb BP) (Z : Snd prog w K base (run BP 300)) (Y : ExW K mg mb) (hA : A.frames = some []) (rm : Room A 60) (hk : base.StaysIn s.heap)
    {xs : List Int} (hxl : xs.length ≤ 63) {a : Addr} (ra : VRel [] (fun _ => 0) 0 s.heap (.rol (xs.map .int)) (.ref a)) (q : ∀ h' tk, base.StaysIn h' → Rr (.ok (.ret (.bool true))) ⟨h', s.gens, s.drawn, tk, s.os⟩) :
    codeAny (model prog w) A (.call (.ref 847) ⟨[.ref a], []⟩) Rr s := by
  obtain ⟨fm, hp1, i, row, e, hL, hg, hr⟩ := law_pre xs hxl
  have ZT := snd_all WT OT RT
  obtain ⟨n, e⟩ := e.get
  refine (WT.fn 847 ⟨[177], [], [], b847⟩ rfl).elim fun D hD => enter_fn WT hD (R := []) (ρ := fun _ => 0) (hp := hN) (args := [.rol (xs.map .int)]) (vs := [.rol (xs.map .int)]) (C := []) (h1 := hN) rfl rfl (Nat.lt_of_le_of_lt (Nat.le_trans (Nat.le_add_right _ _) rm.depth) (by decide)) ⟨(fun _ x => nomatch x), (fun _ x => nomatch x)⟩ (rep_zero hk)
    (.cons ra .nil) fun env ρ₁ H tk hbody hfrm hLn hks rv₁ P₁ G₁ M₁ => codeAny_func ?_
  have rm' : Room (A.deeper env) 59 := rm.deeper env
  generalize D.body = body at hbody ⊢
  have hbody : isSs env.kindOf (pre847 ++ [.ret (.bop .And [.call 178 [.loc 18], .call 179 [.loc 18], .call 180 [.loc 18]])]) body = true := hbody
  obtain ⟨xs1, xs2, rfl, hx1, hx2⟩ := ss_app hbody
  obtain ⟨y, ys, rfl, hy, _⟩ := ss_cons hx2
  refine wpAny_append ((ZT n).ex (s := ⟨H, s.gens, s.drawn, tk, s.os⟩) e hx1 rm' rv₁ P₁ M₁ fun ρ2 g2 tk2 cf P2 G2 M2 f2 => flNext (P := fun cf => SeqQ (model prog w) _ env _ _ _ cf _) f2 (wpAny_execs_cons ?_))
  have rv2 := rv₁.mono P₁ P2 G2
  refine iRet (P := fun y => wpAny (model prog w) _ (exec y env) _ _ _) hy fun v rp hv => wpAny_Return_some (iBop (P := WE prog w _ env _ _ _) hv fun bs bp hbs => ?_)
  obtain ⟨y1, bs, rfl, hy1, hbs⟩ := es_cons hbs
  obtain ⟨y2, bs, rfl, hy2, hbs⟩ := es_cons hbs
  obtain ⟨y3, bs, rfl, hy3, hbs⟩ := es_cons hbs
  cases iEs0 (Q := fun xs => xs = []) hbs rfl
  obtain ⟨n1, p1⟩ := (part_ev (y := 178) (f := 830) rfl hL hg hr rfl rfl rfl).get
  obtain ⟨n2, p2⟩ := (part_ev (y := 179) (f := 835) rfl hL hg hr rfl rfl rfl).get
  show wpAny _ _ (eval y1 env >>= fun v => standAt bp >>= fun _ => holding [v] (truthy v) >>= fun t => match BoolOp.And, t with | .And, false | .Or, true => pure v | _, _ => boolOp bp .And (evalEach [y2, y3] env)) _ _ _
  refine wpAny_bind ((ZT n1).ev (s := ⟨g2, s.gens, s.drawn, tk2, s.os⟩) p1 hy1 rm' rv2 P2 M2 fun ρ3 g3 tk3 cv P3 G3 r3 => r3.inv (P := fun cv => wpAny (model prog w) _ (standAt bp >>= fun _ => holding [cv] (truthy cv) >>= fun t => match BoolOp.And, t with | .And, false | .Or, true => pure cv | _, _ => boolOp bp .And (evalEach [y2, y3] env)) _ _ _) (wpAny_bind (wpAny_standAt (wpAny_bind (wpAny_holding (wpAny_truthy_bool ?_))))))
  have rv3 := rv2.mono P2 P3 G3
  have M3 := M2.mono G3
  show wpAny _ _ (eval y2 env >>= fun v => standAt bp >>= fun _ => holding [v] (truthy v) >>= fun t => match BoolOp.And, t with | .And, false | .Or, true => pure v | _, _ => boolOp bp .And (evalEach [y3] env)) _ _ _
  refine wpAny_bind ((ZT n2).ev (s := ⟨g3, s.gens, s.drawn, tk3, s.os⟩) p2 hy2 rm' rv3 P3 M3 fun ρ4 g4 tk4 cv P4 G4 r4 => r4.inv (P := fun cv => wpAny (model prog w) _ (standAt bp >>= fun _ => holding [cv] (truthy cv) >>= fun t => match BoolOp.And, t with | .And, false | .Or, true => pure cv | _, _ => boolOp bp .And (evalEach [y3] env)) _ _ _) (wpAny_bind (wpAny_standAt (wpAny_bind (wpAny_holding (wpAny_truthy_bool ?_))))))
  have rv4 := rv3.mono P3 P4 G4
  have M4 := M3.mono G4
  show wpAny _ _ (eval y3 env) _ _ _
  cases hlow : lowRow row with
  | true =>
    obtain ⟨n3, p3⟩ := (part_ev (y := 180) (f := 842) rfl hL hg hr hlow rfl rfl).get
    exact (ZT n3).ev (s := ⟨g4, s.gens, s.drawn, tk4, s.os⟩) p3 hy3 rm' rv4 P4 M4 fun ρ5 g5 tk5 cv P5 G5 r5 => r5.inv (P := fun cv => Rr (.ok (.ret cv)) ⟨g5, s.gens, s.drawn, tk5, s.os⟩) (q g5 tk5 P5.keep)
  | false =>
    refine iCall (P := WE prog w _ env _ _ _) hy3 fun p as pos hy hk' hlen has => Call_Name rfl (glob_any WT (B := BT) (y := 180) (v := .glb 842) rfl hk' rv4 P4 M4 fun cf rf => rf.inv (P := fun cf => wpAny (model prog w) _ (callWith pos cf [] (backTo pos (starEach as env)) []) _ _ _) ?_)
    have hv : evs (run BT 9) 59 fm [.loc 18] hp1 = some ([.ref i], hp1) := by
      rw [evs_cons, show (run BT 9).ev 59 fm hp1 (.loc 18) = some (.ref i, hp1) from by rw [x_loc BT 8, hL]]
      rfl
    refine args_any (ZT 9) WT.X (s := ⟨g4, s.gens, s.drawn, _, s.os⟩) (keeps_K (known_keep WT (a := 842) rfl)) hv has rm' rv4 P4 M4 fun ρ5 g5 t5 cvs P5 G5 r5 => ?_
    obtain ⟨rfl, hi5⟩ := one_rel r5
    have M5 := M4.mono G5
    refine P5.atL hi5 hg fun cvs kk ho rr => ?_
    obtain ⟨m, ⟨oL, es', ep, hoL, hdL, _⟩, _⟩ := M5.locs
    refine wpAny_call (tok842 W Z Y (s := ⟨g5, s.gens, s.drawn, t5, s.os⟩) (Around.frames_deeper hA) ⟨by rw [M5.kind]; decide, ⟨env.locals, oL, hfrm, M5.off0, hoL, fun vs z => nomatch hdL.symm.trans z⟩, trivial⟩ (rm'.le (by decide)) P5.keep hr hlow ho rfl rfl (ints_of_rel rr (intsV_map row)) fun h' tk' hst => q h' tk' hst)
end
end
section
theorem keys_of {P : Params} : ∀ {kvs : List (S × V)} {es : List DictEntry}, dictOk kvs es = true → es.map (·.hash) = kvs.map (fun p => PyData.keyHash P (toStr p.1)) → KeysLit P es
  | [], [], _, _ => trivial
  | (s, v) :: r, e :: t, h, q => by
    obtain ⟨h, h3⟩ := Bool.and_eq_true_iff.mp h
    have h1 := (Bool.and_eq_true_iff.mp h).1
    obtain ⟨q1, q2⟩ := List.cons.inj q
    split at h1
    case h_2 => cases h1
    rename_i x tk hk
    cases seqB_iff.mp h1
    exact ⟨⟨x, tk, hk, q1⟩, keys_of h3 q2⟩
  | [], _ :: _, h, _ => nob h
  | _ :: _, [], h, _ => nob h
theorem sd_dict {K : Frag} {a : Nat} {kvs : List (S × V)} {oc : Value} {od : Option Addr} {es : Array DictEntry} {n : Nat} {sl : Array (Option Value)} (e : sdCheck K a kvs = true) (h : K.lookup a = some ⟨oc, od, .dict es n, sl⟩) : dictOk kvs es.toList = true := by
  unfold sdCheck at e
  split at e
  · rename_i c es' n' sl' ho
    cases ho.symm.trans h
    exact (Bool.and_eq_true_iff.mp (Bool.and_eq_true_iff.mp e).1).2
  · cases e
theorem sdT_only {a : Nat} {kvs : List (S × V)} (e : sdT.get a = some kvs) : a = 22 ∨ a = 536 :=
  (Bool.or_eq_true_iff.mp (Tr.all_get (p := fun k _ => Nat.beq k 22 || Nat.beq k 536) (t := sdT) (by kernel_rfl) e)).imp Nat.eq_of_beq_eq_true Nat.eq_of_beq_eq_true
section
variable {prog : Program} {w : World} {K : Frag} {h : Heap} {mg mb : Str → Option Value} (X : K.In h) (OV : obsK K = valK w.params) (g : h.Ns mainGlobals mg) (hmb : ∀ x : Str, x ≠ "__name__" → mb x = bootBuiltins x)
include X OV g hmb
theorem wd (orc : Nat → Nat → List V → Hp → Option (V × Hp)) (raw : Nat → Nat → Fm → Hp → Option (Fl × Fm × Hp)) (b : h.Ns builtinsNs mb) (lim : h.NoLimit) (nd : ∃ mc, h.Ns cStatics mc ∧ mc "sys.int_max_str_digits" = none) : Wd prog w K h mg mb (tb orc raw) := by
  have a : allC K = true := congrArg (·.1) OV
  obtain ⟨a1, a⟩ := Bool.and_eq_true_iff.mp a
  obtain ⟨a2, a⟩ := Bool.and_eq_true_iff.mp a
  obtain ⟨a3, a⟩ := Bool.and_eq_true_iff.mp a
  obtain ⟨a4, a⟩ := Bool.and_eq_true_iff.mp a
  have a5 := (Bool.and_eq_true_iff.mp a).1
  have es := List.cons.inj (List.cons.inj (List.cons.inj (List.cons.inj (List.cons.inj (List.cons.inj (List.cons.inj (List.cons.inj (List.cons.inj (List.cons.inj (List.cons.inj (congrArg (·.2.2.1) OV)).2).2).2).2).2).2).2).2).2).2
  refine ⟨X, g, b, lim, nd, fun f fn e => fnCheck_ok (Tr.all_get a1 e), fun c ms e => clsCheck_ok (Tr.all_get a2 e), fun x v e => ?_, fun a kvs e => sdCheck_ok (Tr.all_get a4 e) fun oc od es n sl ho => keys_of (sd_dict (Tr.all_get a4 e) ho) ?_, fun c ms a e h hn => fldCheck_ok (Tr.all_get a5 e) h hn⟩
  · refine (Bool.or_eq_true_iff.mp (Tr.all_get a3 e)).elim (fun z => ?_) fun z => globCheck_ok X hmb z
    cases Nat.eq_of_beq_eq_true z
    cases (show some (V.str selfS) = some v from e)
    exact ⟨by decide, .inl ⟨.str (Str.ofString selfLit) 1304, (show nm 152 = "SELF_TEXT" by decide +kernel) ▸ es.1, fun R ρ n h _ _ _ => self_str ▸ .str _ _⟩⟩
  · have hh : hashesIn K a = es.toList.map (·.hash) := by unfold hashesIn; rw [ho]
    have hk : hashesIn K a = keysH w.params a := (sdT_only e).elim (fun z => z ▸ congrArg (·.2.1.1) OV) fun z => z ▸ congrArg (·.2.1.2) OV
    rw [← hh, hk]
    unfold keysH
    rw [show sdT.get a = some kvs from e]
    rfl
theorem exw : ExW K mg mb := by
  have a : allC K = true := congrArg (·.1) OV
  have a := (Bool.and_eq_true_iff.mp (Bool.and_eq_true_iff.mp (Bool.and_eq_true_iff.mp (Bool.and_eq_true_iff.mp (Bool.and_eq_true_iff.mp a).2).2).2).2).2
  obtain ⟨a6, a⟩ := Bool.and_eq_true_iff.mp a
  obtain ⟨a7, a⟩ := Bool.and_eq_true_iff.mp a
  obtain ⟨a8, a9⟩ := Bool.and_eq_true_iff.mp a
  obtain ⟨f1, e⟩ := List.cons.inj (congrArg (·.2.2.1) OV)
  obtain ⟨f2, e⟩ := List.cons.inj e
  obtain ⟨f3, e⟩ := List.cons.inj e
  obtain ⟨f4, e⟩ := List.cons.inj e
  obtain ⟨f5, e⟩ := List.cons.inj e
  obtain ⟨f6, e⟩ := List.cons.inj e
  obtain ⟨f7, e⟩ := List.cons.inj e
  obtain ⟨f8, e⟩ := List.cons.inj e
  have f9 := (List.cons.inj e).1
  obtain ⟨t1, e⟩ := List.cons.inj (congrArg (·.2.2.2.1) OV)
  exact ⟨⟨_, _, _, _, _, _, _, _, _, _, _, _, _, _, _, congrArg (·.2.2.2.2.2) OV⟩, f1, t1, f2, f3, f4, f5, (List.cons.inj e).1, a8, f6, f7, a9, fnCheck_ok a6, fnCheck_ok a7, mg_of X g f8, mg_none_of X g f9, (hmb _ (by decide +kernel)).trans (by kernel_rfl), congrArg (·.2.2.2.2.1) OV⟩
end
theorem ints_rel {R : List Addr} {ρ : Nat → Addr} {n : Nat} {h : Heap} : ∀ {vs : List Value} {xs : List Int}, IntsAre vs xs → VRels R ρ n h (xs.map .int) vs
  | _, _, .nil => .nil
  | _, _, .cons i t r => .cons (.int i t) (ints_rel r)
theorem room_caller : Room callerA 60 := ⟨by decide, by decide, rfl⟩
end
section
theorem law_all : rw0.Holds := by
  refine top w_ok (by rfl) (by rfl) (by rfl) ?_
  intro w s₀ s₁ mg mb G Y fa o pm cd doc dV kV ho' hd hcd hD hmg hg args vals as hpre hlay hrd hwl hlo
  obtain ⟨K, KX, OV⟩ := Y
  have T := G.T
  have f10 : nsIn K mainGlobals "law" = some (some (.ref 847)) := (List.cons.inj (List.cons.inj (List.cons.inj (List.cons.inj (List.cons.inj (List.cons.inj (List.cons.inj (List.cons.inj (List.cons.inj (List.cons.inj (congrArg (·.2.2.1) OV)).2).2).2).2).2).2).2).2).2).1
  have hfa : Value.ref fa = .ref 847 := Option.some.inj (hmg.symm.trans (mg_of KX T.g f10))
  cases hfa
  have WT := wd KX OV T.g T.builtins orcT rawN T.b T.nolimit T.nodigits (prog := rw0.row.prog)
  have WP := wd KX OV T.g T.builtins (orcR F0) rawN T.b T.nolimit T.nodigits (prog := rw0.row.prog)
  have EX := exw KX OV T.g T.builtins
  obtain ⟨OT, RT⟩ := goodT (K := fun _ => K) (fun xs h => ⟨does830 h, does835 h, does842_low h⟩) w s₁.heap mg mb WT
  obtain ⟨OP, RP⟩ := goodP rw0.row.prog (fun _ => K) w s₁.heap mg mb WP
  have Z := snd_all WP OP RP 300
  clear ho' hd hcd hD hmg G OV f10 T OP RP
  wrow_args hpre hlay hrd hwl hlo
  refine enter_call ?_
  refine codeAny_mono ?_ (fun _ _ g => GoodW.toG g)
  rename_i xs _ _ _ _ _ _ _ a vs _ hL _ _ _ hI _ hc _
  obtain ⟨o, h1, h2, k, h3⟩ := hL
  refine law_walk WT OT RT WP Z EX rfl room_caller (fun _ _ e => e) (xs := xs) (by lia) (.rol h1 h2 h3 ⟨(fun i hi => absurd hi (Nat.not_lt_zero i)), List.not_mem_nil⟩ (ints_rel hI)) ?_
  intro h' t' hst
  exact ⟨.inl ⟨_, .bool true, [], rfl, fun _ => rfl, .bool _, (by wrow_post), fun _ => ⟨List.nodup_nil, (fun _ x => nomatch x)⟩⟩, hst, rfl, hg⟩
end
end Mine
theorem PySem.Challenge.cw_nn0411_01_holds : PySem.Challenge.rw_nn0411_01.Holds :=
  Mine.law_all
