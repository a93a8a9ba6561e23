import PyProof.Rows.All
import Wide.All
import OpenK.AllK
import Wide.FinOn
import HandS.ForMost
import HandS.Exc
import HandS.ExcOwn
import HandS.ExcInit
import HandS.ExcField
import HandS.ExcIs
import HandS.TryOnly
import HandS.CallSlots
import HandS.Defaults
import HandS.Wide
import HandS.IsInst
import HandS.Style
import HandS.TupAny
import HandS.TupMul
import HandS.Deep
import KE.IntTextLaws
import HandS.Replace
import HandS.SetFor
import KE.GoesEnum
import HandS.Zip
import HandS.NoneIn
import KE.KDictZip
import HandS.Conv
import HandS.Sort
import HandS.Strs
import HandS.Head0
import HandS.Head1
import HandS.Head2
import HandS.HeadEnd
import HandS.HeadHook1
import HandS.HeadHook2
import KE.KStateDown
import PySem.Challenge.RW_pageloom_k05_items
section
/-! A small deterministic reading of the part of Python that the program is written in: values, heap, runs. Plain Lean. -/
set_option Elab.async false
set_option linter.all false
namespace MP

/-- values: tuples are values, lists, dicts and instances stand at addresses -/
inductive V where
  | non | bl (b : Bool) | int (i : Int) | str (s : List Nat) | tup (xs : List V) | ref (a : Nat) | fn (f : Nat) | cls (c : Nat)

mutual
def V.beq : V → V → Bool
  | .non, .non => true
  | .bl a, .bl b => a == b
  | .int a, .int b => a == b
  | .str a, .str b => a == b
  | .tup a, .tup b => V.beqs a b
  | .ref a, .ref b => a == b
  | .fn a, .fn b => a == b
  | .cls a, .cls b => a == b
  | _, _ => false
def V.beqs : List V → List V → Bool
  | [], [] => true
  | x :: xs, y :: ys => V.beq x y && V.beqs xs ys
  | _, _ => false
end
mutual
theorem V.beq_iff : ∀ x y : V, V.beq x y = true ↔ x = y
  | .non, y => by cases y <;> simp [V.beq]
  | .bl a, y => by cases y <;> simp [V.beq]
  | .int a, y => by cases y <;> simp [V.beq]
  | .str a, y => by cases y <;> simp [V.beq]
  | .tup a, y => by
    cases y <;> simp [V.beq]
    exact V.beqs_iff a _
  | .ref a, y => by cases y <;> simp [V.beq]
  | .fn a, y => by cases y <;> simp [V.beq]
  | .cls a, y => by cases y <;> simp [V.beq]
theorem V.beqs_iff : ∀ x y : List V, V.beqs x y = true ↔ x = y
  | [], y => by cases y <;> simp [V.beqs]
  | a :: x, y => by
    cases y with
    | nil => simp [V.beqs]
    | cons b y => simp [V.beqs, V.beq_iff a b, V.beqs_iff x y]
end
instance : DecidableEq V := fun x y => decidable_of_iff _ (V.beq_iff x y)
instance : Inhabited V := ⟨.non⟩

/-- what stands at an address: a list, a list that is only read, a dict, an instance -/
inductive Obj where
  | lst (xs : List V) | ro (xs : List V) | dct (kvs : List (V × V)) | ins (c : Nat) (fs : List (Nat × V))
  deriving DecidableEq
abbrev Heap := List Obj
/-- an exception: its class, its fields -/
structure XV where
  c : Nat
  fs : List (Nat × V)
  deriving DecidableEq
inductive Res (α : Type) where
  | ok (a : α) (h : Heap) | exc (x : XV) (h : Heap) | stuck
def Res.bind {α β : Type} : Res α → (α → Heap → Res β) → Res β
  | .ok a h, f => f a h
  | .exc x h, _ => .exc x h
  | .stuck, _ => .stuck

/-! ### what a value names -/
mutual
def V.lo (n : Nat) : V → Bool
  | .tup xs => V.los n xs
  | .ref a => decide (a < n)
  | _ => true
def V.los (n : Nat) : List V → Bool
  | [] => true
  | x :: xs => V.lo n x && V.los n xs
end
def Obj.lo (n : Nat) : Obj → Bool
  | .lst xs => V.los n xs
  | .ro xs => V.los n xs
  | .dct kvs => kvs.all fun p => p.1.lo n && p.2.lo n
  | .ins _ fs => fs.all fun p => p.2.lo n
/-- what stood stands, or names nothing new -/
def okPre (n : Nat) : Heap → Heap → Bool
  | [], _ => true
  | o :: h, o' :: h' => (decide (o = o') || o'.lo n) && okPre n h h'
  | _ :: _, [] => false
/-- what is no longer named is dropped -/
def gcR (h : Heap) : Res V → Res V
  | .ok v h1 => if v.lo h.length && okPre h.length h h1 then .ok v (h1.take h.length) else .ok v h1
  | .exc x h1 => .exc x h1
  | .stuck => .stuck
def gcF (h : Heap) (v : V) (h1 : Heap) : Res V :=
  if v.lo h.length && okPre h.length h h1 then .ok v (h1.take h.length)
  else match v with
    | .ref a => match h1[a]? with
      | some (.lst xs) => if decide (h.length ≤ a) && V.los h.length xs && okPre h.length h h1 then .ok (.ref h.length) (h1.take h.length ++ [.lst xs]) else .ok v h1
      | _ => .ok v h1
    | _ => .ok v h1
def gcX (h : Heap) (x : XV) (h1 : Heap) : Res V :=
  if (x.fs.all fun p => p.2.lo h.length) && okPre h.length h h1 then .exc x (h1.take h.length) else .exc x h1

/-! ### bounds -/
/-- the longest text or list -/
@[irreducible] def LINE : Nat := 16777216
theorem LINE_eq : LINE = 16777216 := by unfold LINE; rfl
/-- ints that are multiplied, and that divide, are smaller than 2 ^ BITS -/
@[irreducible] def BITS : Nat := 8000
theorem BITS_eq : BITS = 8000 := by unfold BITS; rfl
def small (i : Int) : Bool := decide (i.natAbs < 2 ^ BITS)
/-- ints that are written are smaller than 2 ^ TXT -/
@[irreducible] def TXT : Nat := 1900
theorem TXT_eq : TXT = 1900 := by unfold TXT; rfl
/-- the rounds of a while -/
@[irreducible] def ROUNDS : Nat := 1000000000
theorem ROUNDS_eq : ROUNDS = 1000000000 := by unfold ROUNDS; rfl

/-! ### data without addresses, and when two are equal -/
inductive Dt where
  | non | bl (b : Bool) | int (i : Int) | str (s : List Nat) | tup (xs : List Dt) | lst (xs : List Dt)
mutual
def Dt.eqv : Dt → Dt → Bool
  | .non, .non => true
  | .bl a, .bl b => a == b
  | .bl a, .int b => decide ((if a then 1 else 0) = b)
  | .int a, .bl b => decide (a = (if b then 1 else 0))
  | .int a, .int b => decide (a = b)
  | .str a, .str b => decide (a = b)
  | .tup a, .tup b => Dt.eqvs a b
  | .lst a, .lst b => Dt.eqvs a b
  | _, _ => false
def Dt.eqvs : List Dt → List Dt → Bool
  | [], [] => true
  | x :: xs, y :: ys => Dt.eqv x y && Dt.eqvs xs ys
  | _, _ => false
end
/-- a list that may be written -/
def lstAt (h : Heap) (a : Nat) : Option (List V) := match h[a]? with
  | some (.lst xs) => some xs
  | _ => none
/-- a value read through the heap, so many lists deep -/
def listAt (h : Heap) (a : Nat) : Option (List V) := match h[a]? with
  | some (.lst xs) => some xs
  | some (.ro xs) => some xs
  | _ => none
mutual
def deepV (rd : Nat → Option Dt) : V → Option Dt
  | .non => some .non
  | .bl b => some (.bl b)
  | .int i => some (.int i)
  | .str s => some (.str s)
  | .tup xs => (deepVs rd xs).map .tup
  | .ref a => rd a
  | _ => none
def deepVs (rd : Nat → Option Dt) : List V → Option (List Dt)
  | [] => some []
  | x :: xs => match deepV rd x, deepVs rd xs with
    | some d, some ds => some (d :: ds)
    | _, _ => none
end
def rdD (h : Heap) : Nat → Nat → Option Dt
  | 0, _ => none
  | n + 1, a => match listAt h a with
    | some xs => (deepVs (rdD h n) xs).map .lst
    | none => none
def deep (h : Heap) (v : V) : Option Dt := deepV (rdD h 4) v
mutual
def Dt.depth : Dt → Nat
  | .tup xs => Dt.depths xs + 1
  | .lst xs => Dt.depths xs + 1
  | _ => 0
def Dt.depths : List Dt → Nat
  | [] => 0
  | x :: xs => max (Dt.depth x) (Dt.depths xs)
end
/-- x == y -/
def eqV (h : Heap) (x y : V) : Option Bool := match deep h x, deep h y with
  | some d, some e => if min d.depth e.depth ≤ 150 then some (d.eqv e) else none
  | _, _ => none

/-! ### operators -/
inductive Op where
  | add | sub | mul | fdiv | mod | pow
inductive Cmp where
  | lt | le | gt | ge | eq | ne | is_ | isnot | in_ | notin
def intOp : Op → Int → Int → Option Int
  | .add, i, j => some (i + j)
  | .sub, i, j => some (i - j)
  | .mul, i, j => if small i && small j then some (i * j) else none
  | .fdiv, i, j => if decide (j ≠ 0) && small j then some (i.fdiv j) else none
  | .mod, i, j => if decide (j ≠ 0) then some (i.fmod j) else none
  | .pow, i, j => if decide (0 ≤ j ∧ j ≤ 1000) && decide (i.natAbs < 1000) then some (i ^ j.toNat) else none
def rep {α : Type} (xs : List α) (k : Int) : List α := (List.replicate k.toNat xs).flatten
def binV (op : Op) (x y : V) (h : Heap) : Res V := match x, y with
  | .int i, .int j => match intOp op i j with
    | some k => .ok (.int k) h
    | none => .stuck
  | .str a, .str b => match op with
    | .add => if a.length + b.length ≤ LINE then .ok (.str (a ++ b)) h else .stuck
    | _ => .stuck
  | .str a, .int k => match op with
    | .mul => if decide (0 ≤ k ∧ k ≤ 1000 ∧ a.length ≤ 1000) then .ok (.str (rep a k)) h else .stuck
    | _ => .stuck
  | .tup a, .tup b => match op with
    | .add => if a.length + b.length ≤ LINE then .ok (.tup (a ++ b)) h else .stuck
    | _ => .stuck
  | .ref a, .ref b => match op, lstAt h a, lstAt h b with
    | .add, some xs, some ys => if xs.length + ys.length ≤ LINE then .ok (.ref h.length) (h ++ [.lst (xs ++ ys)]) else .stuck
    | _, _, _ => .stuck
  | .tup a, .int k => match op with
    | .mul => if decide (a ≠ [] ∧ a.length ≤ 1000 ∧ 1 ≤ k ∧ k ≤ 1000) then .ok (.tup (rep a k)) h else .stuck
    | _ => .stuck
  | .ref a, .int k => match op, lstAt h a with
    | .mul, some xs => if decide (0 ≤ k) && decide (k < 1000) && decide (xs.length ≤ 1000) then .ok (.ref h.length) (h ++ [.lst (rep xs k)]) else .stuck
    | _, _ => .stuck
  | _, _ => .stuck
/-- what is no tuple, list or instance -/
def flat : V → Bool
  | .non => true
  | .bl _ => true
  | .int _ => true
  | .str _ => true
  | _ => false
def flatEq : V → V → Bool
  | .bl a, .int b => decide ((if a then 1 else 0) = b)
  | .int a, .bl b => decide (a = (if b then 1 else 0))
  | x, y => decide (x = y)
def inSeq (h : Heap) (x : V) (ys : List V) : Option Bool :=
  if flat x && ys.all flat then some (ys.any fun y => flatEq y x)
  else match deep h x, deepVs (rdD h 3) ys with
    | some d, some ds => if d.depth ≤ 60 ∧ Dt.depths ds ≤ 60 then some (ds.any fun z => z.eqv d) else none
    | _, _ => none
def inV (h : Heap) (x y : V) : Option Bool := match y with
  | .str b => match x with
    | .str [c] => some (decide (c ∈ b))
    | _ => none
  | .tup ys => if flat x && ys.all flat then some (ys.any fun y => flatEq y x) else none
  | .ref a => match h[a]? with
    | some (.lst ys) => inSeq h x ys
    | some (.ro ys) => inSeq h x ys
    | some (.dct kvs) => match x with
      | .str s => some (kvs.any fun p => decide (p.1 = .str s))
      | .int i => some (kvs.any fun p => decide (p.1 = .int i))
      | _ => none
    | _ => none
  | _ => none
/-- is: of None, True, False alone -/
def isV (x y : V) : Option Bool := match y with
  | .non => some (decide (x = .non))
  | .bl b => match x with
    | .bl a => some (decide (a = b))
    | _ => none
  | _ => none
def cmpV (op : Cmp) (h : Heap) (x y : V) : Option Bool := match op with
  | .eq => eqV h x y
  | .ne => (eqV h x y).map not
  | .is_ => isV x y
  | .isnot => (isV x y).map not
  | .in_ => inV h x y
  | .notin => (inV h x y).map not
  | .lt => match x, y with
    | .int i, .int j => some (decide (i < j))
    | .str a, .str b => some (decide (a < b))
    | _, _ => none
  | .le => match x, y with
    | .int i, .int j => some (decide (i ≤ j))
    | _, _ => none
  | .gt => match x, y with
    | .int i, .int j => some (decide (j < i))
    | _, _ => none
  | .ge => match x, y with
    | .int i, .int j => some (decide (j ≤ i))
    | _, _ => none
/-- x[i] -/
def atIdx (n : Nat) (i : Int) : Option Nat :=
  if decide (0 ≤ i) && decide (i < (n : Int)) then some i.toNat else if decide (i < 0) && decide (-(n : Int) ≤ i) then some (i + n).toNat else none
def idxL (xs : List V) : V → Option V
  | .int i => (atIdx xs.length i).bind fun k => xs[k]?
  | _ => none
def idxV (h : Heap) (x i : V) : Option V := match x with
  | .tup xs => idxL xs i
  | .str s => match i with
    | .int i => if s.length ≤ LINE then ((atIdx s.length i).bind fun k => s[k]?).map fun c => .str [c] else none
    | _ => none
  | .ref a => match h[a]? with
    | some (.lst xs) => idxL xs i
    | some (.ro xs) => idxL xs i
    | some (.dct kvs) => match i with
      | .str _ => kvs.lookup i
      | .int _ => kvs.lookup i
      | _ => none
    | _ => none
  | _ => none
/-- where a slice's end lies -/
def cutAt (n : Nat) (d : Nat) : V → Option Nat
  | .non => some d
  | .int i => some (if i < 0 then (i + (n : Int)).toNat else min i.toNat n)
  | _ => none
def slcL {α : Type} (xs : List α) (lo hi : V) : Option (List α) := match cutAt xs.length 0 lo, cutAt xs.length xs.length hi with
  | some a, some b => some ((xs.drop a).take (b - a))
  | _, _ => none
def slcV (h : Heap) (x lo hi : V) : Res V := match x with
  | .str s => if s.length ≤ LINE then (match slcL s lo hi with
    | some r => .ok (.str r) h
    | none => .stuck) else .stuck
  | .tup xs => match slcL xs lo hi with
    | some r => .ok (.tup r) h
    | none => .stuck
  | .ref a => match listAt h a with
    | some xs => match slcL xs lo hi with
      | some r => .ok (.ref h.length) (h ++ [.lst r])
      | none => .stuck
    | none => .stuck
  | _ => .stuck
/-- a slice's part: left out, or an int -/
def partOf : List V → Option V
  | [] => some .non
  | [.int i] => some (.int i)
  | _ => none
def revV (h : Heap) (x : V) : Res V := match x with
  | .tup xs => .ok (.tup xs.reverse) h
  | .ref a => match listAt h a with
    | some xs => .ok (.ref h.length) (h ++ [.lst xs.reverse])
    | none => .stuck
  | _ => .stuck

/-! ### built-in functions and methods -/
inductive Bi where
  | len | abs | all | any | sum | max2 | min2 | str | int | tuple | list | lzip | lrng | sset | ninrng | isint | isbool | isstr | istuple | islist | isdict
/-- str(n) -/
def digs (n : Nat) : List Nat := (Nat.toDigits 10 n).map Char.toNat
def strI : Int → List Nat
  | .ofNat n => digs n
  | .negSucc n => 45 :: digs (n + 1)
/-- a row of figures as a number -/
def figVal (s : List Nat) : Nat := s.foldl (fun a c => a * 10 + (c - 48)) 0
def isFig (c : Nat) : Bool := decide (48 ≤ c ∧ c ≤ 57)
def boolsOf : List V → Option (List Bool)
  | [] => some []
  | .bl b :: r => (boolsOf r).map (b :: ·)
  | _ => none
/-- a number put into a rising row, once -/
def insI (k : Int) : List Int → List Int
  | [] => [k]
  | x :: r => if k < x then k :: x :: r else if k = x then x :: r else x :: insI k r
def srtI (l : List Int) : List Int := l.foldr insI []
def intsOf : List V → Option (List Int)
  | [] => some []
  | .int i :: r => (intsOf r).map (i :: ·)
  | _ => none
def strsOf : List V → Option (List (List Nat))
  | [] => some []
  | .str s :: r => (strsOf r).map (s :: ·)
  | _ => none
/-- the items that are walked -/
def seqOf (h : Heap) : V → Option (List V)
  | .tup xs => some xs
  | .ref a => listAt h a
  | _ => none
def zipV : List V → List V → List V
  | x :: xs, y :: ys => .tup [x, y] :: zipV xs ys
  | _, _ => []
/-- of which kind a value is: None, truth, int, text, tuple, list, dict, instance -/
def kindV (h : Heap) : V → Option Nat
  | .non => some 0
  | .bl _ => some 1
  | .int _ => some 2
  | .str _ => some 3
  | .tup _ => some 4
  | .ref a => match h[a]? with
    | some (.lst _) => some 5
    | some (.ro _) => some 5
    | some (.dct _) => some 6
    | some (.ins _ _) => some 7
    | none => none
  | _ => none
def isK (f : Nat → Bool) (h : Heap) (x : V) : Res V := match kindV h x with
  | some k => .ok (.bl (f k)) h
  | none => .stuck
def biV (b : Bi) (vs : List V) (h : Heap) : Res V := match b, vs with
  | .len, [.str s] => if s.length ≤ LINE then .ok (.int s.length) h else .stuck
  | .len, [.tup xs] => .ok (.int xs.length) h
  | .len, [.ref a] => match h[a]? with
    | some (.lst xs) => .ok (.int xs.length) h
    | some (.ro xs) => .ok (.int xs.length) h
    | some (.dct kvs) => .ok (.int kvs.length) h
    | _ => .stuck
  | .abs, [.int i] => .ok (.int (if i < 0 then -i else i)) h
  | .all, [.ref a] => match (listAt h a).bind boolsOf with
    | some bs => .ok (.bl (bs.all id)) h
    | none => .stuck
  | .any, [.ref a] => match (listAt h a).bind boolsOf with
    | some bs => .ok (.bl (bs.any id)) h
    | none => .stuck
  | .sum, [.ref a] => match (listAt h a).bind intsOf with
    | some is => .ok (.int is.sum) h
    | none => .stuck
  | .max2, [.int i, .int j] => .ok (.int (if j > i then j else i)) h
  | .min2, [.int i, .int j] => .ok (.int (if j < i then j else i)) h
  | .str, [.int i] => if decide (i.natAbs < 2 ^ TXT) then .ok (.str (strI i)) h else .stuck
  | .int, [.str s] => if decide (1 ≤ s.length ∧ s.length ≤ 600) && s.all isFig then .ok (.int (figVal s)) h else .stuck
  | .int, [.bl b] => .ok (.int (if b then 1 else 0)) h
  | .int, [.int i] => .ok (.int i) h
  | .tuple, [.tup xs] => .ok (.tup xs) h
  | .tuple, [.ref a] => match listAt h a with
    | some xs => .ok (.tup xs) h
    | none => .stuck
  | .list, [x] => match seqOf h x with
    | some xs => .ok (.ref h.length) (h ++ [.lst xs])
    | none => .stuck
  | .lzip, [.tup xs, .tup ys] => .ok (.ref h.length) (h ++ [.lst (zipV xs ys)])
  | .sset, [.ref a] => match (listAt h a).bind intsOf with
    | some is => if decide (is.length < 60) then .ok (.ref h.length) (h ++ [.lst ((srtI is).map V.int)]) else .stuck
    | none => .stuck
  | .ninrng, [.int i, .int n] => .ok (.bl (!decide (0 ≤ i ∧ i < n))) h
  | .lrng, [.int n] => if decide (0 ≤ n ∧ n ≤ 10000) then .ok (.ref h.length) (h ++ [.lst ((List.range n.toNat).map fun k : Nat => .int (k : Int))]) else .stuck
  | .isint, [x] => isK (fun k => k == 2 || k == 1) h x
  | .isbool, [x] => isK (fun k => k == 1) h x
  | .isstr, [x] => isK (fun k => k == 3) h x
  | .istuple, [x] => isK (fun k => k == 4) h x
  | .islist, [x] => isK (fun k => k == 5) h x
  | .isdict, [x] => isK (fun k => k == 6) h x
  | _, _ => .stuck
inductive Bm where
  | append | join | split | index | count | pop | get2
def joinS (sep : List Nat) : List (List Nat) → List Nat
  | [] => []
  | [s] => s
  | s :: r => s ++ sep ++ joinS sep r
/-- a text cut at each sign c -/
def splitC (c : Nat) : List Nat → List (List Nat)
  | [] => [[]]
  | d :: r => if d = c then [] :: splitC c r else match splitC c r with
    | p :: ps => (d :: p) :: ps
    | [] => [[d]]
def bmV (m : Bm) (o : V) (vs : List V) (h : Heap) : Res V := match m, o, vs with
  | .append, .ref a, [x] => match h[a]? with
    | some (.lst xs) => if xs.length < LINE then .ok .non (h.set a (.lst (xs ++ [x]))) else .stuck
    | _ => .stuck
  | .pop, .ref a, [] => match h[a]? with
    | some (.lst xs) => match xs.getLast? with
      | some x => .ok x (h.set a (.lst xs.dropLast))
      | none => .stuck
    | _ => .stuck
  | .join, .str sep, [x] => match (seqOf h x).bind strsOf with
    | some ss => if (ss.map (·.length)).sum + ss.length * sep.length ≤ 16777216 then .ok (.str (joinS sep ss)) h else .stuck
    | none => .stuck
  | .split, .str s, [.str [c]] => if s.length + 2 ≤ LINE then .ok (.ref h.length) (h ++ [.lst ((splitC c s).map V.str)]) else .stuck
  | .index, .str s, [.str [c]] => match s.idxOf? c with
    | some k => if s.length ≤ LINE then .ok (.int k) h else .stuck
    | none => .stuck
  | .index, .ref a, [x] => match listAt h a with
    | some ys => if flat x && ys.all flat then (match ys.findIdx? fun y => flatEq y x with
      | some k => .ok (.int k) h
      | none => .stuck) else .stuck
    | none => .stuck
  | .count, .ref a, [.int i] => match (listAt h a).bind intsOf with
    | some is => .ok (.int (is.count i)) h
    | none => .stuck
  | .count, .str s, [.str [c]] => if s.length ≤ LINE then .ok (.int (s.count c)) h else .stuck
  | .get2, .ref a, [k, d] => match h[a]? with
    | some (.dct kvs) => .ok ((kvs.lookup k).getD d) h
    | _ => .stuck
  | _, _, _ => .stuck
/-- the receiver of a method -/
def bmT (m : Bm) (o : V) (h : Heap) : Bool := match m, o with
  | .append, .ref a => (lstAt h a).isSome
  | .pop, .ref a => (lstAt h a).isSome
  | .join, .str _ => true
  | .split, .str _ => true
  | .index, .str _ => true
  | .count, .str _ => true
  | .index, .ref a => (listAt h a).isSome
  | .count, .ref a => (listAt h a).isSome
  | _, _ => false

/-! ### the text -/
/-- where a for or a comprehension takes its items from -/
inductive Src where
  | val | range | enum | zip
/-- a target of names -/
inductive Tg where
  | nm (i : Nat) | tp (is : List Tg)
inductive Ex where
  | lit (v : V)
  | var (i : Nat) | glob (g : Nat)
  | tup (es : List Ex) | lst (es : List Ex) | dct (ks vs : List Ex)
  | bin (op : Op) (a b : Ex) | neg (a : Ex)
  | and_ (a b : Ex) | or_ (a b : Ex) | not_ (a : Ex)
  | cmp (op : Cmp) (a b : Ex) | chain (o1 o2 : Cmp) (a b c : Ex)
  | ite (c a b : Ex)
  | idx (a i : Ex) | slc (a : Ex) (lo hi : List Ex) | rev (a : Ex)
  | attr (e : Ex) (f : Nat)
  | callf (f : Nat) (es : List Ex) (kn : List Nat) (ks : List Ex)
  | callv (i : Nat) (es : List Ex)
  | callc (c : Nat) (es : List Ex) (kn : List Nat) (ks : List Ex)
  | callb (b : Bi) (es : List Ex)
  | meth (o : Ex) (m : Nat) (es : List Ex)
  | bmeth (o : Ex) (m : Bm) (es : List Ex)
  | comp (elt : Ex) (tg : Tg) (k : Src) (ss : List Ex) (tests : List Ex) (own : List Nat)
  | comp2 (elt : Ex) (tg1 : Tg) (k1 : Src) (s1 : List Ex) (tg2 : Tg) (s2 : Ex) (own : List Nat)
  | xis (c : Nat) | xfld (f : Nat)
inductive Tgt where
  | nm (t : Tg) | fld (e : Ex) (f : Nat) | sub (e i : Ex) | two (a b : Tgt)
inductive St where
  | asg (t : Tgt) (e : Ex)
  | augN (i : Nat) (op : Op) (e : Ex)
  | augF (o : Ex) (f : Nat) (op : Op) (e : Ex)
  | expr (e : Ex)
  | ret (e : Ex)
  | iff (c : Ex) (a b : List St)
  | whl (c : Ex) (b : List St)
  | forr (tg : Tg) (k : Src) (ss : List Ex) (b : List St)
  | brk | cont | pass
  | raise (c : Nat) (es : List Ex)
  | tri (b : List St) (c : Nat) (i : Option Nat) (hb : List St)

/-! ### the tables -/
structure FnD where
  npos : Nat
  kwn : List Nat          -- the names of the keyword-only parameters, behind the positional ones
  nms : List Nat          -- the names of all parameters
  dfl : List V            -- defaults of the last positional parameters
  kwd : List (Nat × V)    -- of the keyword-only ones
  slots : Nat
  body : List St
structure ClsD where
  sup : List Nat                 -- the classes above, itself first
  init : Option Nat              -- __init__, a function of fns
  meths : List (Nat × Nat)
  xfs : List Nat                 -- an exception's fields, in its __init__'s order
structure Prog where
  fns : Nat → Option FnD
  cls : Nat → Option ClsD
  glb : Nat → Option V
structure Ctx where
  P : Prog
  call : Nat → List V → Heap → Res V
  x : Option XV
abbrev Env := List (Option V)
def FnD.nparams (F : FnD) : Nat := F.npos + F.kwn.length
/-- the arguments in the parameters' order, defaults filled in -/
def fillKw (F : FnD) (kvs : List (Nat × V)) : List Nat → Option (List V)
  | [] => some []
  | n :: r => match kvs.lookup n, F.kwd.lookup n, fillKw F kvs r with
    | some v, _, some vs => some (v :: vs)
    | none, some v, some vs => some (v :: vs)
    | _, _, _ => none
def bindF (F : FnD) (vs : List V) (kvs : List (Nat × V)) : Option (List V) :=
  if decide (vs.length ≤ F.npos) && decide (F.npos ≤ vs.length + F.dfl.length) && (kvs.all fun p => F.kwn.contains p.1) then
    (fillKw F kvs F.kwn).map fun ks => vs ++ F.dfl.drop (F.dfl.length + vs.length - F.npos) ++ ks
  else none

/-! ### targets, what is walked -/
mutual
def bindT (h : Heap) : Tg → V → Env → Option Env
  | .nm i, v, env => some (env.set i (some v))
  | .tp ts, .tup vs, env => bindTs h ts vs env
  | .tp ts, .ref a, env => match listAt h a with
    | some vs => bindTs h ts vs env
    | none => none
  | _, _, _ => none
def bindTs (h : Heap) : List Tg → List V → Env → Option Env
  | [], [], env => some env
  | t :: ts, v :: vs, env => match bindT h t v env with
    | some env1 => bindTs h ts vs env1
    | none => none
  | _, _, _ => none
end
mutual
def Tg.names : Tg → List Nat
  | .nm i => [i]
  | .tp ts => Tg.namess ts
def Tg.namess : List Tg → List Nat
  | [] => []
  | t :: ts => Tg.names t ++ Tg.namess ts
end
def wipeE (env : Env) : List Nat → Env
  | [] => env
  | i :: is => (wipeE env is).set i none
def rangeV (a : Int) (n : Nat) (c : Int) : List V := (List.range n).map fun k => .int (a + (k : Nat) * c)
def enumV (k : Nat) : List V → List V
  | [] => []
  | x :: xs => .tup [.int k, x] :: enumV (k + 1) xs
def lim (i : Int) : Bool := decide (-(2 ^ 60) ≤ i ∧ i < 2 ^ 60)
/-- the items, and the list that has to stay -/
def walkOf (h : Heap) : V → Option (List V × Option (Nat × Obj))
  | .tup xs => some (xs, none)
  | .str s => some (s.map fun c => .str [c], none)
  | .ref a => match h[a]? with
    | some (.lst xs) => some (xs, some (a, .lst xs))
    | some (.ro xs) => some (xs, some (a, .ro xs))
    | _ => none
  | _ => none
def srcOf (k : Src) (vs : List V) (h : Heap) : Option (List V × List (Nat × Obj)) := match k, vs with
  | .val, [x] => (walkOf h x).map fun p => (p.1, p.2.toList)
  | .range, [.int n] => if lim n then some (rangeV 0 n.toNat 1, []) else none
  | .range, [.int a, .int b] => if lim a && lim b then some (rangeV a (b - a).toNat 1, []) else none
  | .range, [.int a, .int b, .int c] => if lim a && lim b && decide (c = -1) then some (rangeV a (a - b).toNat (-1), []) else none
  | .enum, [.ref a] => (walkOf h (.ref a)).map fun p => (enumV 0 p.1, p.2.toList)
  | .enum, [.tup xs] => some (enumV 0 xs, [])
  | .zip, [.ref a, .ref b] => match walkOf h (.ref a), walkOf h (.ref b) with
    | some p, some q => some (zipV p.1 q.1, p.2.toList ++ q.2.toList)
    | _, _ => none
  | .zip, [.tup a, .tup b] => some (zipV a b, [])
  | _, _ => none
def stays (h : Heap) (l : List (Nat × Obj)) : Bool := l.all fun p => decide (h[p.1]? = some p.2)
def compL (f : Env → Heap → Res V) (t : Env → Heap → Res Bool) (env : Env) (tg : Tg) (st : List (Nat × Obj)) (D : Nat) : List V → Heap → Res V
  | [], h => if stays h st then .ok (.ref D) h else .stuck
  | x :: r, h => if stays h st then (match bindT h tg x env with
    | some env1 => match t env1 h with
      | .ok true h1 => match gcR h1 (f env1 h1) with
        | .ok y h2 => match h2[D]? with
          | some (.lst acc) => if acc.length < LINE then compL f t env tg st D r (h2.set D (.lst (acc ++ [y]))) else .stuck
          | _ => .stuck
        | _ => .stuck
      | .ok false h1 => compL f t env tg st D r h1
      | _ => .stuck
    | none => .stuck) else .stuck
/-- the outer turns of a comprehension with two generators -/
def compO (b : Env → Heap → Res V) (env : Env) (tg : Tg) (st : List (Nat × Obj)) (D : Nat) : List V → Heap → Res V
  | [], h => if stays h st then .ok (.ref D) h else .stuck
  | x :: r, h => if stays h st then (match bindT h tg x env with
    | some env1 => match b env1 h with
      | .ok _ h1 => compO b env tg st D r h1
      | _ => .stuck
    | none => .stuck) else .stuck
/-- a row of tests -/
def truth : Res V → Res Bool
  | .ok (.bl b) h => .ok b h
  | .ok _ _ => .stuck
  | .exc x h => .exc x h
  | .stuck => .stuck
def putA (f : Nat) (v : V) : List (Nat × V) → List (Nat × V)
  | [] => [(f, v)]
  | (g, w) :: r => if g = f then (g, v) :: r else (g, w) :: putA f v r
def putD (k v : V) : List (V × V) → List (V × V)
  | [] => [(k, v)]
  | (g, w) :: r => if g = k then (g, v) :: r else (g, w) :: putD k v r
/-- x op= y -/
def augV (op : Op) (x y : V) (h : Heap) : Res V := match op, x, y with
  | .add, .int i, .int j => .ok (.int (i + j)) h
  | .sub, .int i, .int j => .ok (.int (i - j)) h
  | _, _, _ => .stuck
def isKey : V → Bool
  | .str _ => true
  | .int _ => true
  | _ => false
def setIdx (h : Heap) (o i v : V) : Option Heap := match o with
  | .ref a => match h[a]? with
    | some (.lst xs) => match i with
      | .int i => (atIdx xs.length i).map fun k => h.set a (.lst (xs.set k v))
      | _ => none
    | some (.dct kvs) => if isKey i && decide (kvs.length < LINE) then some (h.set a (.dct (putD i v kvs))) else none
    | _ => none
  | _ => none
def getA (h : Heap) (o : V) (f : Nat) : Option V := match o with
  | .ref a => match h[a]? with
    | some (.ins _ fs) => fs.lookup f
    | _ => none
  | _ => none
def setA (h : Heap) (o : V) (f : Nat) (v : V) : Option Heap := match o with
  | .ref a => match h[a]? with
    | some (.ins c fs) => if fs.length < 900 then some (h.set a (.ins c (putA f v fs))) else none
    | _ => none
  | _ => none
def ofO (h : Heap) : Option V → Res V
  | some v => .ok v h
  | none => .stuck
def ofB (h : Heap) : Option Bool → Res V
  | some b => .ok (.bl b) h
  | none => .stuck

/-! ### expressions -/
mutual
def evE (C : Ctx) : Ex → Env → Heap → Res V
  | .lit v, _, h => .ok v h
  | .var i, env, h => ofO h ((env[i]?).join)
  | .glob g, _, h => ofO h (C.P.glb g)
  | .tup es, env, h => (evEs C es env h).bind fun vs h1 => .ok (.tup vs) h1
  | .lst es, env, h => (evEs C es env h).bind fun vs h1 => .ok (.ref h1.length) (h1 ++ [.lst vs])
  | .dct ks vs, env, h => (evEs C ks env h).bind fun k h1 => (evEs C vs env h1).bind fun v h2 =>
    if k.all isKey then .ok (.ref h2.length) (h2 ++ [.dct ((k.zip v).foldl (fun d p => putD p.1 p.2 d) [])]) else .stuck
  | .bin op a b, env, h => (evE C a env h).bind fun x h1 => (evE C b env h1).bind fun y h2 => binV op x y h2
  | .neg a, env, h => (evE C a env h).bind fun x h1 => match x with
    | .int i => .ok (.int (-i)) h1
    | _ => .stuck
  | .and_ a b, env, h => (truth (evE C a env h)).bind fun x h1 => if x then (truth (evE C b env h1)).bind fun y h2 => .ok (.bl y) h2 else .ok (.bl false) h1
  | .or_ a b, env, h => (truth (evE C a env h)).bind fun x h1 => if x then .ok (.bl true) h1 else (truth (evE C b env h1)).bind fun y h2 => .ok (.bl y) h2
  | .not_ a, env, h => (truth (evE C a env h)).bind fun x h1 => .ok (.bl (!x)) h1
  | .cmp op a b, env, h => gcR h ((evE C a env h).bind fun x h1 => (evE C b env h1).bind fun y h2 => ofB h2 (cmpV op h2 x y))
  | .chain o1 o2 a b c, env, h => (evE C a env h).bind fun x h1 => (evE C b env h1).bind fun y h2 => match cmpV o1 h2 x y with
    | some true => (evE C c env h2).bind fun z h3 => ofB h3 (cmpV o2 h3 y z)
    | some false => .ok (.bl false) h2
    | none => .stuck
  | .ite c a b, env, h => (truth (evE C c env h)).bind fun x h1 => if x then evE C a env h1 else evE C b env h1
  | .idx a i, env, h => gcR h ((evE C a env h).bind fun x h1 => (evE C i env h1).bind fun y h2 => ofO h2 (idxV h2 x y))
  | .slc a lo hi, env, h => (evE C a env h).bind fun x h1 => (evEs C lo env h1).bind fun l h2 => match partOf l with
    | some l => (evEs C hi env h2).bind fun u h3 => match partOf u with
      | some u => slcV h3 x l u
      | none => .stuck
    | none => .stuck
  | .rev a, env, h => (evE C a env h).bind fun x h1 => revV h1 x
  | .attr e f, env, h => (evE C e env h).bind fun x h1 => ofO h1 (getA h1 x f)
  | .callf f es kn ks, env, h => gcR h ((evEs C es env h).bind fun vs h1 => (evEs C ks env h1).bind fun ws h2 => match C.P.fns f with
    | some F => match bindF F vs (kn.zip ws) with
      | some as => C.call f as h2
      | none => .stuck
    | none => .stuck)
  | .callv i es, env, h => gcR h ((evEs C es env h).bind fun vs h1 => match (env[i]?).join with
    | some (.fn f) => match C.P.fns f with
      | some F => match bindF F vs [] with
        | some as => C.call f as h1
        | none => .stuck
      | none => .stuck
    | _ => .stuck)
  | .callc c es kn ks, env, h => (evEs C es env h).bind fun vs h1 => (evEs C ks env h1).bind fun ws h2 => match C.P.cls c with
    | some K => match K.init with
      | some f => match C.P.fns f with
        | some F => match bindF F (.ref h2.length :: vs) (kn.zip ws) with
          | some as => (C.call f as (h2 ++ [.ins c []])).bind fun r h3 => match r with
            | .non => .ok (.ref h2.length) h3
            | _ => .stuck
          | none => .stuck
        | none => .stuck
      | none => if vs.isEmpty && ws.isEmpty then .ok (.ref h2.length) (h2 ++ [.ins c []]) else .stuck
    | none => .stuck
  | .callb b es, env, h => gcR h ((evEs C es env h).bind fun vs h1 => biV b vs h1)
  | .meth o m es, env, h => gcR h ((evE C o env h).bind fun x h1 => match x with
    | .ref a => match h1[a]? with
      | some (.ins c fs) => match (C.P.cls c).bind fun K => K.meths.lookup m with
        | some f => match C.P.fns f with
          | some F => if (fs.lookup m).isNone then (evEs C es env h1).bind fun vs h2 => match bindF F (.ref a :: vs) [] with
              | some as => C.call f as h2
              | none => .stuck
            else .stuck
          | none => .stuck
        | none => .stuck
      | _ => .stuck
    | _ => .stuck)
  | .bmeth o m es, env, h => gcR h ((evE C o env h).bind fun x h1 => if bmT m x h1 then (evEs C es env h1).bind fun vs h2 => bmV m x vs h2 else .stuck)
  | .comp elt tg k ss tests own, env, h => (evEs C ss env h).bind fun vs h1 => match srcOf k vs h1 with
    | some (xs, st) => compL (fun e g => evE C elt e g) (fun e g => evT C tests e g) (wipeE env own) tg st h1.length xs (h1 ++ [.lst []])
    | none => .stuck
  | .comp2 elt tg1 k1 s1 tg2 s2 own, env, h => (evEs C s1 env h).bind fun vs h1 => match srcOf k1 vs h1 with
    | some (xs, st) => compO (fun e g => (evE C s2 e g).bind fun v g1 => match srcOf .val [v] g1 with
        | some (ys, st2) => compL (fun e g => evE C elt e g) (fun _ g => .ok true g) (wipeE e tg2.names) tg2 st2 h1.length ys g1
        | none => .stuck) (wipeE env own) tg1 st h1.length xs (h1 ++ [.lst []])
    | none => .stuck
  | .xis c, _, h => match C.x with
    | some x => match C.P.cls x.c with
      | some K => if x.fs.isEmpty then .ok (.bl (K.sup.contains c)) h else .stuck
      | none => .stuck
    | none => .stuck
  | .xfld f, _, h => match C.x with
    | some x => ofO h (x.fs.lookup f)
    | none => .stuck
def evEs (C : Ctx) : List Ex → Env → Heap → Res (List V)
  | [], _, h => .ok [] h
  | e :: es, env, h => (evE C e env h).bind fun v h1 => (evEs C es env h1).bind fun vs h2 => .ok (v :: vs) h2
def evT (C : Ctx) : List Ex → Env → Heap → Res Bool
  | [], _, h => .ok true h
  | e :: es, env, h => (truth (gcR h (evE C e env h))).bind fun b h1 => if b then evT C es env h1 else .ok false h1
end

/-! ### statements -/
inductive Fl where
  | nx (env : Env) (h : Heap) | ret (v : V) (h : Heap) | brk (env : Env) (h : Heap) | ct (env : Env) (h : Heap) | exc (x : XV) (env : Env) (h : Heap) | stuck
def Res.fl {α : Type} (env : Env) : Res α → (α → Heap → Fl) → Fl
  | .ok a h, f => f a h
  | .exc x h, _ => .exc x env h
  | .stuck, _ => .stuck
def Fl.andThen : Fl → (Env → Heap → Fl) → Fl
  | .nx env h, f => f env h
  | .ret v h, _ => .ret v h
  | .brk env h, _ => .brk env h
  | .ct env h, _ => .ct env h
  | .exc x env h, _ => .exc x env h
  | .stuck, _ => .stuck
def asgT (C : Ctx) : Tgt → V → Env → Heap → Fl
  | .nm t, v, env, h => match bindT h t v env with
    | some env1 => .nx env1 h
    | none => .stuck
  | .fld e f, v, env, h => (evE C e env h).fl env fun o h1 => match setA h1 o f v with
    | some h2 => .nx env h2
    | none => .stuck
  | .sub e i, v, env, h => (evE C e env h).fl env fun o h1 => (evE C i env h1).fl env fun k h2 => match setIdx h2 o k v with
    | some h3 => .nx env h3
    | none => .stuck
  | .two a b, v, env, h => match v with
    | .tup [x, y] => (asgT C a x env h).andThen fun env1 h1 => asgT C b y env1 h1
    | _ => .stuck
def whlL (t : Env → Heap → Res Bool) (b : Env → Heap → Fl) : Nat → Env → Heap → Fl
  | 0, _, _ => .stuck
  | n + 1, env, h => (t env h).fl env fun c h1 => if c then (match b env h1 with
      | .nx env2 h2 => whlL t b n env2 h2
      | .ct env2 h2 => whlL t b n env2 h2
      | .brk env2 h2 => .nx env2 h2
      | .ret v h2 => .ret v h2
      | .exc x env2 h2 => .exc x env2 h2
      | .stuck => .stuck) else .nx env h1
def forL (b : Env → Heap → Fl) (tg : Tg) (st : List (Nat × Obj)) : List V → Env → Heap → Fl
  | [], env, h => if stays h st then .nx env h else .stuck
  | x :: r, env, h => if stays h st then (match bindT h tg x env with
    | some env1 => match b env1 h with
      | .nx env2 h2 => forL b tg st r env2 h2
      | .ct env2 h2 => forL b tg st r env2 h2
      | .brk env2 h2 => .nx env2 h2
      | .ret v h2 => .ret v h2
      | .exc x env2 h2 => .exc x env2 h2
      | .stuck => .stuck
    | none => .stuck) else .stuck
/-- the exception's name is no name of M -/
def unE : Option Nat → Env → Env
  | some i, env => env.set i none
  | none, env => env
def hasE : Option Nat → Env → Bool
  | some i, env => decide (i < env.length)
  | none, _ => true
mutual
def evS (C : Ctx) : St → Env → Heap → Fl
  | .asg t e, env, h => (evE C e env h).fl env fun v h1 => asgT C t v env h1
  | .augN i op e, env, h => match (env[i]?).join with
    | some x => (evE C e env h).fl env fun y h1 => (augV op x y h1).fl env fun z h2 => .nx (env.set i (some z)) h2
    | none => .stuck
  | .augF o f op e, env, h => (evE C o env h).fl env fun a h1 => match getA h1 a f with
    | some x => (evE C e env h1).fl env fun y h2 => (augV op x y h2).fl env fun z h3 => match setA h3 a f z with
      | some h4 => .nx env h4
      | none => .stuck
    | none => .stuck
  | .expr e, env, h => (evE C e env h).fl env fun _ h1 => .nx env h1
  | .ret e, env, h => (evE C e env h).fl env fun v h1 => .ret v h1
  | .iff c a b, env, h => (truth (evE C c env h)).fl env fun x h1 => if x then evSs C a env h1 else evSs C b env h1
  | .whl c b, env, h => whlL (fun e g => truth (evE C c e g)) (fun e g => evSs C b e g) ROUNDS env h
  | .forr tg k ss b, env, h => (evEs C ss env h).fl env fun vs h1 => match srcOf k vs h1 with
    | some (xs, st) => forL (fun e g => evSs C b e g) tg st xs env h1
    | none => .stuck
  | .brk, env, h => .brk env h
  | .cont, env, h => .ct env h
  | .pass, env, h => .nx env h
  | .raise c es, env, h => (evEs C es env h).fl env fun vs h1 => match C.P.cls c with
    | some K => if K.xfs.isEmpty then .exc ⟨c, []⟩ env h1 else if vs.length = K.xfs.length ∧ vs.all flat = true then .exc ⟨c, K.xfs.zip vs⟩ env h1 else .stuck
    | none => .stuck
  | .tri b c i hb, env, h => match evSs C b env h with
    | .exc x env1 h1 => match C.P.cls x.c with
      | some K => if K.sup.contains c then (if hasE i env1 then (match evSs { C with x := some x } hb (unE i env1) h1 with
          | .nx env2 h2 => .nx (unE i env2) h2
          | .brk env2 h2 => .brk (unE i env2) h2
          | .ct env2 h2 => .ct (unE i env2) h2
          | .ret v h2 => .ret v h2
          | _ => .stuck) else .stuck) else .exc x env1 h1
      | none => .stuck
    | .nx env1 h1 => .nx env1 h1
    | .ret v h1 => .ret v h1
    | .brk env1 h1 => .brk env1 h1
    | .ct env1 h1 => .ct env1 h1
    | .stuck => .stuck
def evSs (C : Ctx) : List St → Env → Heap → Fl
  | [], env, h => .nx env h
  | s :: r, env, h => (evS C s env h).andThen fun env1 h1 => evSs C r env1 h1
end

/-! ### calls -/
def finish (h : Heap) : Fl → Res V
  | .nx _ h1 => gcF h .non h1
  | .ret v h1 => gcF h v h1
  | .exc x _ h1 => gcX h x h1
  | _ => .stuck
def startE (F : FnD) (as : List V) : Env := as.map some ++ List.replicate (F.slots - as.length) none
def callD (P : Prog) : Nat → Nat → List V → Heap → Res V
  | 0, _, _, _ => .stuck
  | d + 1, f, as, h => match P.fns f with
    | some F => if as.length = F.nparams then finish h (evSs ⟨P, callD P d, none⟩ F.body (startE F as) h) else .stuck
    | none => .stuck
end MP
end

section
set_option Elab.async false
set_option linter.all false
set_option maxRecDepth 100000
set_option maxHeartbeats 1000000
namespace MPS
open PySem PySem.Spec PyProof.Rows L2

/-- where the text's functions and classes stand -/
structure Lk where
  K : PySem.W.Frag
  fa : Nat → Addr
  ca : Nat → Addr
  exs : List Nat
  an : Nat → Str
def okS (s : List Nat) : Bool := s.all fun c => decide (c < 1114112)
abbrev stV (s : List Nat) : V := .str ⟨s.toArray⟩
mutual
def Rep (L : Lk) (ρ : List Addr) (H : Hp) : MP.V → V → Prop
  | .non, u => u = .non
  | .bl b, u => u = .bl b
  | .int i, u => u = .int i
  | .str s, u => okS s = true ∧ u = stV s
  | .tup ms, u => ∃ a xs, u = .ref a ∧ SqT L.K H a xs ∧ Reps L ρ H ms xs
  | .ref i, u => ∃ a, ρ[i]? = some a ∧ u = .ref a
  | .fn f, u => u = .ref (L.fa f)
  | .cls c, u => u = .ref (L.ca c)
def Reps (L : Lk) (ρ : List Addr) (H : Hp) : List MP.V → List V → Prop
  | [], us => us = []
  | m :: ms, us => ∃ u r, us = u :: r ∧ Rep L ρ H m u ∧ Reps L ρ H ms r
end
/-- addresses and tuples stay -/
structure Le (L : Lk) (ρ : List Addr) (H : Hp) (ρ' : List Addr) (H' : Hp) : Prop where
  ad : ∀ (i : Nat) (a : Addr), ρ[i]? = some a → ρ'[i]? = some a
  tp : ∀ a xs, SqT L.K H a xs → SqT L.K H' a xs
  xd : ∀ a fs, H a = some (.xd fs) → H' a = some (.xd fs)
section
variable {L : Lk} {ρ ρ' ρ1 ρ2 : List Addr} {H H' H1 H2 : Hp}
theorem Le.refl : Le L ρ H ρ H := ⟨fun _ _ h => h, fun _ _ h => h, fun _ _ h => h⟩
theorem Le.trans (a : Le L ρ H ρ1 H1) (b : Le L ρ1 H1 ρ2 H2) : Le L ρ H ρ2 H2 := ⟨fun i x h => b.ad i x (a.ad i x h), fun x y h => b.tp x y (a.tp x y h), fun x y h => b.xd x y (a.xd x y h)⟩
mutual
theorem Rep.mono (l : Le L ρ H ρ' H') : ∀ (m : MP.V) (u : V), Rep L ρ H m u → Rep L ρ' H' m u
  | .non, u, h => h
  | .bl _, u, h => h
  | .int _, u, h => h
  | .str _, u, h => h
  | .fn _, u, h => h
  | .cls _, u, h => h
  | .ref i, u, ⟨a, e, r⟩ => ⟨a, l.ad i a e, r⟩
  | .tup ms, u, ⟨a, xs, e, q, r⟩ => ⟨a, xs, e, l.tp a xs q, Reps.mono l ms xs r⟩
theorem Reps.mono (l : Le L ρ H ρ' H') : ∀ (ms : List MP.V) (us : List V), Reps L ρ H ms us → Reps L ρ' H' ms us
  | [], us, h => h
  | m :: ms, us, ⟨u, r, e, h1, h2⟩ => ⟨u, r, e, Rep.mono l m u h1, Reps.mono l ms r h2⟩
end
mutual
theorem Rep.lo : ∀ (m : MP.V) (u : V), Rep L ρ H m u → m.lo ρ.length = true
  | .non, u, h => rfl
  | .bl _, u, h => rfl
  | .int _, u, h => rfl
  | .str _, u, h => rfl
  | .fn _, u, h => rfl
  | .cls _, u, h => rfl
  | .ref i, u, ⟨a, e, r⟩ => by simp [MP.V.lo, (List.getElem?_eq_some_iff.mp e).1]
  | .tup ms, u, ⟨a, xs, e, q, r⟩ => by simp only [MP.V.lo]; exact Reps.lo ms xs r
theorem Reps.lo : ∀ (ms : List MP.V) (us : List V), Reps L ρ H ms us → MP.V.los ρ.length ms = true
  | [], us, h => rfl
  | m :: ms, us, ⟨u, r, e, h1, h2⟩ => by simp only [MP.V.los, Bool.and_eq_true]; exact ⟨Rep.lo m u h1, Reps.lo ms r h2⟩
end
mutual
theorem Rep.cut (n : Nat) : ∀ (m : MP.V) (u : V), Rep L ρ H m u → m.lo n = true → Rep L (ρ.take n) H m u
  | .non, u, h, _ => h
  | .bl _, u, h, _ => h
  | .int _, u, h, _ => h
  | .str _, u, h, _ => h
  | .fn _, u, h, _ => h
  | .cls _, u, h, _ => h
  | .ref i, u, ⟨a, e, r⟩, q => ⟨a, by rw [List.getElem?_take_of_lt (of_decide_eq_true q)]; exact e, r⟩
  | .tup ms, u, ⟨a, xs, e, q, r⟩, z => ⟨a, xs, e, q, Reps.cut n ms xs r z⟩
theorem Reps.cut (n : Nat) : ∀ (ms : List MP.V) (us : List V), Reps L ρ H ms us → MP.V.los n ms = true → Reps L (ρ.take n) H ms us
  | [], us, h, _ => h
  | m :: ms, us, ⟨u, r, e, h1, h2⟩, z => by
    simp only [MP.V.los, Bool.and_eq_true] at z
    exact ⟨u, r, e, Rep.cut n m u h1 z.1, Reps.cut n ms r h2 z.2⟩
end
theorem Reps.length : ∀ (ms : List MP.V) (us : List V), Reps L ρ H ms us → us.length = ms.length
  | [], us, h => by cases h; rfl
  | m :: ms, us, ⟨u, r, e, h1, h2⟩ => by subst e; simp [Reps.length ms r h2]
theorem Reps.get : ∀ (ms : List MP.V) (us : List V) (i : Nat) (m : MP.V), Reps L ρ H ms us → ms[i]? = some m → ∃ u, us[i]? = some u ∧ Rep L ρ H m u
  | [], us, i, m, h, e => by simp at e
  | m' :: ms, us, 0, m, ⟨u, r, e, h1, h2⟩, q => by subst e; simp at q; subst q; exact ⟨u, rfl, h1⟩
  | m' :: ms, us, i + 1, m, ⟨u, r, e, h1, h2⟩, q => by
    subst e
    obtain ⟨w, e1, r1⟩ := Reps.get ms r i m h2 (by simpa using q)
    exact ⟨w, by simpa using e1, r1⟩
theorem Reps.app : ∀ (ms ns : List MP.V) (us vs : List V), Reps L ρ H ms us → Reps L ρ H ns vs → Reps L ρ H (ms ++ ns) (us ++ vs)
  | [], ns, us, vs, h, k => by cases h; exact k
  | m :: ms, ns, us, vs, ⟨u, r, e, h1, h2⟩, k => by subst e; exact ⟨u, r ++ vs, rfl, h1, Reps.app ms ns r vs h2 k⟩
theorem Reps.tk : ∀ (n : Nat) (ms : List MP.V) (us : List V), Reps L ρ H ms us → Reps L ρ H (ms.take n) (us.take n)
  | 0, ms, us, h => by simp [Reps]
  | n + 1, [], us, h => by cases h; simp [Reps]
  | n + 1, m :: ms, us, ⟨u, r, e, h1, h2⟩ => by subst e; exact ⟨u, r.take n, rfl, h1, Reps.tk n ms r h2⟩
theorem Reps.dr : ∀ (n : Nat) (ms : List MP.V) (us : List V), Reps L ρ H ms us → Reps L ρ H (ms.drop n) (us.drop n)
  | 0, ms, us, h => by simpa using h
  | n + 1, [], us, h => by cases h; simp [Reps]
  | n + 1, m :: ms, us, ⟨u, r, e, h1, h2⟩ => by subst e; simpa using Reps.dr n ms r h2
theorem Reps.st : ∀ (n : Nat) (ms : List MP.V) (us : List V) (m : MP.V) (u : V), Reps L ρ H ms us → Rep L ρ H m u → Reps L ρ H (ms.set n m) (us.set n u)
  | n, [], us, m, u, h, k => by cases h; exact rfl
  | 0, m' :: ms, us, m, u, ⟨w, r, e, h1, h2⟩, k => by subst e; exact ⟨u, r, rfl, k, h2⟩
  | n + 1, m' :: ms, us, m, u, ⟨w, r, e, h1, h2⟩, k => by subst e; exact ⟨w, r.set n u, rfl, h1, Reps.st n ms r m u h2 k⟩
theorem Reps.rv : ∀ (ms : List MP.V) (us : List V), Reps L ρ H ms us → Reps L ρ H ms.reverse us.reverse
  | [], us, h => by cases h; simp [Reps]
  | m :: ms, us, ⟨w, r, e, h1, h2⟩ => by
    subst e
    simp only [List.reverse_cons]
    exact Reps.app _ _ _ _ (Reps.rv ms r h2) ⟨w, [], rfl, h1, rfl⟩
end

/-- a list that is only read: frozen, or of the text -/
def RoL (K : PySem.W.Frag) (H : Hp) (a : Addr) (xs : List V) : Prop :=
  (∃ o, H a = some (.frz o (.lst xs))) ∨
    ∃ (o : Obj) (its : Array Value) (n : Nat), K.lookup a = some o ∧ o.cls = .type "list" ∧ o.dict = none ∧ o.data = .seq its n ∧ its.size ≤ sizeLine ∧ Vals xs its.toList
theorem RoL.sq {K : PySem.W.Frag} {H : Hp} {a : Addr} {xs : List V} (h : RoL K H a xs) : SqL K H a xs := by
  rcases h with ⟨o, h⟩ | h
  · exact .inl (.inr ⟨o, h⟩)
  · exact .inr h
def ObjR (L : Lk) (ρ : List Addr) (H : Hp) : MP.Obj → Addr → Prop
  | .lst ms, a => ∃ xs, H a = some (.lst xs) ∧ Reps L ρ H ms xs
  | .ro ms, a => ∃ xs, RoL L.K H a xs ∧ Reps L ρ H ms xs
  | .dct _, _ => False
  | .ins _ _, _ => False
def mutO : MP.Obj → Bool
  | .ro _ => false
  | _ => true
structure Sim (L : Lk) (ρ : List Addr) (h : MP.Heap) (H : Hp) : Prop where
  len : ρ.length = h.length
  obj : ∀ (i : Nat) (a : Addr) (o : MP.Obj), ρ[i]? = some a → h[i]? = some o → ObjR L ρ H o a
  inj : ∀ (i j : Nat) (a : Addr) (o o' : MP.Obj), ρ[i]? = some a → ρ[j]? = some a → h[i]? = some o → h[j]? = some o' → mutO o = true → mutO o' = true → i = j
structure EnvR (L : Lk) (ρ : List Addr) (H : Hp) (env : MP.Env) (σ : L2.St) : Prop where
  len : env.length = σ.length
  at_ : ∀ (i : Nat) (v : MP.V), env[i]? = some (some v) → ∃ u, σ[i]? = some (some u) ∧ Rep L ρ H v u
structure Sta (L : Lk) (ρ : List Addr) (h : MP.Heap) (env : MP.Env) (σ : L2.St) (H : Hp) : Prop where
  sim : Sim L ρ h H
  env : EnvR L ρ H env σ
section
variable {L : Lk} {ρ ρ' ρ1 ρ2 : List Addr} {H H' H1 H2 : Hp} {h h' : MP.Heap} {env : MP.Env} {σ : L2.St}
theorem EnvR.mono (l : Le L ρ H ρ' H') (e : EnvR L ρ H env σ) : EnvR L ρ' H' env σ :=
  ⟨e.len, fun i v q => let ⟨u, e1, r⟩ := e.at_ i v q; ⟨u, e1, Rep.mono l v u r⟩⟩
theorem EnvR.set {v : MP.V} {u : V} (e : EnvR L ρ H env σ) (r : Rep L ρ H v u) (i : Nat) : EnvR L ρ H (env.set i (some v)) (σ.set i (some u)) := by
  refine ⟨by simp [e.len], fun j w q => ?_⟩
  by_cases hj : i = j
  · subst hj
    have hi : i < env.length := by
      have := (List.getElem?_eq_some_iff.mp q).1
      simpa using this
    rw [List.getElem?_set_self hi] at q
    cases q
    exact ⟨u, by rw [List.getElem?_set_self (by rw [← e.len]; exact hi)], r⟩
  · rw [List.getElem?_set_ne hj] at q
    obtain ⟨w', e1, r1⟩ := e.at_ j w q
    exact ⟨w', by rw [List.getElem?_set_ne hj]; exact e1, r1⟩
/-- a new object at p -/
theorem Le.new {p : Addr} {o : HO} (hp : H p = none) : Le L ρ H (ρ ++ [p]) (upd H p o) := by
  refine ⟨fun i a e => ?_, fun a xs q => ?_, fun a fs q => by rw [upd_ne (ne_of_none q hp)]; exact q⟩
  · rw [List.getElem?_append_left (List.getElem?_eq_some_iff.mp e).1]; exact e
  · rcases q with (q | ⟨ob, q⟩) | q
    · exact .inl (.inl (by rw [upd_ne (ne_of_none q hp)]; exact q))
    · exact .inl (.inr ⟨ob, by rw [upd_ne (ne_of_none q hp)]; exact q⟩)
    · exact .inr q
theorem Le.newT {p : Addr} {o : HO} (hp : H p = none) : Le L ρ H ρ (upd H p o) := by
  refine ⟨fun i a e => e, fun a xs q => ?_, fun a fs q => by rw [upd_ne (ne_of_none q hp)]; exact q⟩
  rcases q with (q | ⟨ob, q⟩) | q
  · exact .inl (.inl (by rw [upd_ne (ne_of_none q hp)]; exact q))
  · exact .inl (.inr ⟨ob, by rw [upd_ne (ne_of_none q hp)]; exact q⟩)
  · exact .inr q
theorem ObjR.mono (l : Le L ρ H ρ' H') {o : MP.Obj} {a : Addr} (k : ∀ u, H a = some u → H' a = some u) (r : ObjR L ρ H o a) : ObjR L ρ' H' o a := by
  cases o with
  | lst ms => obtain ⟨xs, e, q⟩ := r; exact ⟨xs, k _ e, Reps.mono l ms xs q⟩
  | ro ms =>
    obtain ⟨xs, e, q⟩ := r
    refine ⟨xs, ?_, Reps.mono l ms xs q⟩
    rcases e with ⟨ob, e⟩ | e
    · exact .inl ⟨ob, k _ e⟩
    · exact .inr e
  | dct _ => exact r
  | ins _ _ => exact r
theorem ObjR.tracked {o : MP.Obj} {a : Addr} (r : ObjR L ρ H o a) (m : mutO o = true) : ∃ u, H a = some u := by
  cases o with
  | lst ms => obtain ⟨xs, e, _⟩ := r; exact ⟨_, e⟩
  | ro ms => cases m
  | dct _ => cases r
  | ins _ _ => cases r
/-- the heap grows by what M does not know (a tuple) -/
theorem Sim.grow {p : Addr} {o : HO} (S : Sim L ρ h H) (hp : H p = none) : Sim L ρ h (upd H p o) :=
  ⟨S.len, fun i a ob e1 e2 => (S.obj i a ob e1 e2).mono (Le.newT hp) fun u q => by rw [upd_ne (ne_of_none q hp)]; exact q, S.inj⟩
/-- by an object -/
theorem Sim.push {p : Addr} {o : HO} {ob : MP.Obj} (S : Sim L ρ h H) (hp : H p = none) (new : ObjR L (ρ ++ [p]) (upd H p o) ob p) : Sim L (ρ ++ [p]) (h ++ [ob]) (upd H p o) := by
  have hl := S.len
  refine ⟨by simp [hl], fun i a ob' e1 e2 => ?_, fun i j a o1 o2 e1 e2 e3 e4 m1 m2 => ?_⟩
  · by_cases hi : i < h.length
    · rw [List.getElem?_append_left hi] at e2
      rw [List.getElem?_append_left (by omega)] at e1
      exact (S.obj i a ob' e1 e2).mono (Le.new hp) fun u q => by rw [upd_ne (ne_of_none q hp)]; exact q
    · have hi2 : i = h.length := by
        have := (List.getElem?_eq_some_iff.mp e2).1
        simp at this; omega
      subst hi2
      rw [List.getElem?_append_right (by omega)] at e1 e2
      simp at e2
      rw [show h.length - ρ.length = 0 by omega] at e1
      simp at e1
      subst e1 e2
      exact new
  · have old : ∀ k ok, k < h.length → (ρ ++ [p])[k]? = some a → (h ++ [ob])[k]? = some ok → mutO ok = true → a ≠ p := by
      intro k ok hk q1 q2 m
      rw [List.getElem?_append_left (by omega)] at q1
      rw [List.getElem?_append_left hk] at q2
      obtain ⟨u, hu⟩ := (S.obj k a ok q1 q2).tracked m
      exact ne_of_none hu hp
    have lst : ∀ k, ¬ k < h.length → (ρ ++ [p])[k]? = some a → k = h.length ∧ a = p := by
      intro k hk q1
      have h1 := (List.getElem?_eq_some_iff.mp q1).1
      simp at h1
      have : k = h.length := by omega
      subst this
      rw [List.getElem?_append_right (by omega), show h.length - ρ.length = 0 by omega] at q1
      simp at q1
      exact ⟨rfl, q1.symm⟩
    by_cases hi : i < h.length
    · by_cases hj : j < h.length
      · rw [List.getElem?_append_left (by omega)] at e1 e2
        rw [List.getElem?_append_left hi] at e3
        rw [List.getElem?_append_left hj] at e4
        exact S.inj i j a o1 o2 e1 e2 e3 e4 m1 m2
      · exact absurd (lst j hj e2).2 (old i o1 hi e1 e3 m1)
    · by_cases hj : j < h.length
      · exact absurd (lst i hi e1).2 (old j o2 hj e2 e4 m2)
      · rw [(lst i hi e1).1, (lst j hj e2).1]
/-- an object that may be written is written -/
theorem Le.write {p : Addr} {o o' : HO} (hp : H p = some o) (hm : ∀ xs, o ≠ .tup xs) (hf : ∀ ob xs, o ≠ .frz ob xs) (hx : ∀ fs, o ≠ .xd fs := by intro _ z; cases z) : Le L ρ H ρ (upd H p o') := by
  refine ⟨fun i a e => e, fun a xs q => ?_, fun a fs q => by rw [upd_ne (ne_of q hp fun z => hx _ z.symm)]; exact q⟩
  rcases q with (q | ⟨ob, q⟩) | q
  · exact .inl (.inl (by rw [upd_ne (ne_of q hp fun z => hm _ z.symm)]; exact q))
  · exact .inl (.inr ⟨ob, by rw [upd_ne (ne_of q hp fun z => hf _ _ z.symm)]; exact q⟩)
  · exact .inr q
theorem Sim.write {p : Addr} {i : Nat} {o o' : HO} {ob ob' : MP.Obj} (S : Sim L ρ h H) (hi : ρ[i]? = some p) (hb : h[i]? = some ob) (mu : mutO ob = true) (mu' : mutO ob' = true) (hp : H p = some o) (hm : ∀ xs, o ≠ .tup xs) (hf : ∀ ob xs, o ≠ .frz ob xs)
    (new : ObjR L ρ (upd H p o') ob' p) (hx : ∀ fs, o ≠ .xd fs := by intro _ z; cases z) : Sim L ρ (h.set i ob') (upd H p o') := by
  have hil := (List.getElem?_eq_some_iff.mp hb).1
  refine ⟨by simp [S.len], fun j a ok e1 e2 => ?_, fun j k a o1 o2 e1 e2 e3 e4 m1 m2 => ?_⟩
  · by_cases hj : i = j
    · subst hj
      rw [List.getElem?_set_self hil] at e2
      rw [hi] at e1
      cases e1; cases e2
      exact new
    · rw [List.getElem?_set_ne hj] at e2
      have old := S.obj j a ok e1 e2
      cases ok with
      | ro ms =>
        obtain ⟨xs, e, q⟩ := old
        refine ⟨xs, ?_, Reps.mono (Le.write hp hm hf hx) ms xs q⟩
        rcases e with ⟨o2, e⟩ | e
        · refine .inl ⟨o2, ?_⟩
          rw [upd_ne (ne_of e hp fun z => hf _ _ z.symm)]; exact e
        · exact .inr e
      | lst ms =>
        exact old.mono (Le.write hp hm hf hx) fun u q => by rw [upd_ne fun z => hj (S.inj i j a ob _ (by rw [z]; exact hi) e1 hb e2 mu rfl)]; exact q
      | dct ms =>
        exact old.mono (Le.write hp hm hf hx) fun u q => by rw [upd_ne fun z => hj (S.inj i j a ob _ (by rw [z]; exact hi) e1 hb e2 mu rfl)]; exact q
      | ins c fs =>
        exact old.mono (Le.write hp hm hf hx) fun u q => by rw [upd_ne fun z => hj (S.inj i j a ob _ (by rw [z]; exact hi) e1 hb e2 mu rfl)]; exact q
  · have back : ∀ (n : Nat) (on : MP.Obj), (List.set h i ob')[n]? = some on → mutO on = true → ∃ on' : MP.Obj, h[n]? = some on' ∧ mutO on' = true := by
      intro n on q m
      by_cases hn : i = n
      · subst hn; exact ⟨ob, hb, mu⟩
      · rw [List.getElem?_set_ne hn] at q; exact ⟨on, q, m⟩
    obtain ⟨p1, q1, n1⟩ := back j o1 e3 m1
    obtain ⟨p2, q2, n2⟩ := back k o2 e4 m2
    exact S.inj j k a p1 p2 e1 e2 q1 q2 n1 n2
end
end MPS
end

section
set_option Elab.async false
set_option linter.all false
set_option maxRecDepth 100000
set_option maxHeartbeats 1000000
namespace MPS
open PySem PySem.Spec PyProof.Rows L2

section
variable {L : Lk} {ρ ρ' ρ1 ρ2 : List Addr} {H H' H1 H2 : Hp} {h h' h1 : MP.Heap} {env : MP.Env} {σ : L2.St}
theorem ObjR.lo {o : MP.Obj} {a : Addr} (r : ObjR L ρ H o a) : o.lo ρ.length = true := by
  cases o with
  | lst ms => obtain ⟨xs, e, q⟩ := r; exact Reps.lo ms xs q
  | ro ms => obtain ⟨xs, e, q⟩ := r; exact Reps.lo ms xs q
  | dct _ => cases r
  | ins _ _ => cases r
theorem ObjR.cut {o : MP.Obj} {a : Addr} (r : ObjR L ρ H o a) {n : Nat} (z : o.lo n = true) : ObjR L (ρ.take n) H o a := by
  cases o with
  | lst ms => obtain ⟨xs, e, q⟩ := r; exact ⟨xs, e, Reps.cut n ms xs q z⟩
  | ro ms => obtain ⟨xs, e, q⟩ := r; exact ⟨xs, e, Reps.cut n ms xs q z⟩
  | dct _ => cases r
  | ins _ _ => cases r
theorem okPre_get {n : Nat} : ∀ {h0 h1 : MP.Heap} {i : Nat} {o : MP.Obj}, MP.okPre n h0 h1 = true → h0[i]? = some o → ∃ o', h1[i]? = some o' ∧ (o = o' ∨ o'.lo n = true)
  | [], _, _, _, _, e => by simp at e
  | o :: h0, [], _, _, z, _ => by cases z
  | o :: h0, o' :: h1, 0, ob, z, e => by
    simp only [MP.okPre, Bool.and_eq_true, Bool.or_eq_true, decide_eq_true_eq] at z
    simp at e; subst e
    exact ⟨o', rfl, z.1⟩
  | o :: h0, o' :: h1, i + 1, ob, z, e => by
    simp only [MP.okPre, Bool.and_eq_true] at z
    obtain ⟨w, e1, r⟩ := okPre_get (i := i) (o := ob) z.2 (by simpa using e)
    exact ⟨w, by simpa using e1, r⟩
theorem Le.take (l : Le L ρ H ρ' H') : ρ'.take ρ.length = ρ := by
  apply List.ext_getElem?
  intro i
  by_cases hi : i < ρ.length
  · rw [List.getElem?_take_of_lt hi]
    obtain ⟨a, ha⟩ : ∃ a, ρ[i]? = some a := ⟨ρ[i], by simp [hi]⟩
    rw [ha]; exact l.ad i a ha
  · rw [List.getElem?_eq_none (by simp; omega), List.getElem?_eq_none (by omega)]
theorem Sim.cut (S : Sim L ρ h H) (l : Le L ρ H ρ' H') (S' : Sim L ρ' h1 H') (ok : MP.okPre h.length h h1 = true) : Sim L ρ (h1.take h.length) H' := by
  have hl : ρ.length = h.length := S.len
  have ht := l.take
  have low : ∀ (i : Nat) (o' : MP.Obj), (List.take h.length h1)[i]? = some o' → h1[i]? = some o' ∧ i < h.length ∧ o'.lo h.length = true := by
    intro i o' e
    have hi : i < h.length := by
      have := (List.getElem?_eq_some_iff.mp e).1
      simp at this; omega
    rw [List.getElem?_take_of_lt hi] at e
    refine ⟨e, hi, ?_⟩
    obtain ⟨ob, eob⟩ : ∃ ob, h[i]? = some ob := ⟨h[i], by simp [hi]⟩
    obtain ⟨o2, e2, r⟩ := okPre_get ok eob
    rw [e] at e2; cases e2
    rcases r with r | r
    · subst r
      obtain ⟨a, ea⟩ : ∃ a, ρ[i]? = some a := ⟨ρ[i]'(by omega), by simp [hl, hi]⟩
      have := (S.obj i a ob ea eob).lo
      rw [hl] at this; exact this
    · exact r
  have lh : h.length ≤ h1.length := by
    by_cases hz : h.length ≤ h1.length
    · exact hz
    · exfalso
      have hi : h1.length < h.length := by omega
      obtain ⟨ob, eob⟩ : ∃ ob, h[h1.length]? = some ob := ⟨h[h1.length], by simp [hi]⟩
      obtain ⟨o2, e2, _⟩ := okPre_get ok eob
      simp at e2
  refine ⟨by simp [hl, lh], fun i a o e1 e2 => ?_, fun i j a o o' e1 e2 e3 e4 m1 m2 => ?_⟩
  · obtain ⟨q1, q2, q3⟩ := low i o e2
    have e1' := l.ad i a e1
    have := (S'.obj i a o e1' q1).cut (n := ρ.length) (by rw [hl]; exact q3)
    rw [ht] at this
    exact this
  · exact S'.inj i j a o o' (l.ad i a e1) (l.ad j a e2) (low i o e3).1 (low j o' e4).1 m1 m2
end

/-! ### what is wanted of an end -/
abbrev WM := MP.XV → MP.Env → MP.Heap → List Addr → Hp → Prop
def Post {α β : Type} (L : Lk) (W : WM) (env : MP.Env) (σ : L2.St) (ρ : List Addr) (H : Hp) (RR : List Addr → Hp → α → β → Prop) (Q : β → Hp → Prop) : MP.Res α → Prop
  | .ok v h' => ∀ (ρ' : List Addr) (H' : Hp) (u : β), Le L ρ H ρ' H' → Sta L ρ' h' env σ H' → RR ρ' H' v u → Q u H'
  | .exc x h' => ∀ (ρ' : List Addr) (H' : Hp), Le L ρ H ρ' H' → W x env h' ρ' H'
  | .stuck => False
section
variable {α β γ δ : Type} {L : Lk} {W : WM} {env : MP.Env} {σ : L2.St} {ρ ρ1 : List Addr} {H H1 : Hp} {RR : List Addr → Hp → α → β → Prop} {RS : List Addr → Hp → γ → δ → Prop} {Q Q' : β → Hp → Prop} {P : δ → Hp → Prop}
theorem Post.imp {r : MP.Res α} (p : Post L W env σ ρ H RR Q r) (k : ∀ u H, Q u H → Q' u H) : Post L W env σ ρ H RR Q' r := by
  cases r with
  | ok v h' => exact fun ρ' H' u l s q => k _ _ (p ρ' H' u l s q)
  | exc x h' => exact p
  | stuck => exact p
theorem Post.mono {r : MP.Res α} (l : Le L ρ H ρ1 H1) (p : Post L W env σ ρ H RR Q r) : Post L W env σ ρ1 H1 RR Q r := by
  cases r with
  | ok v h' => exact fun ρ' H' u l2 s q => p ρ' H' u (l.trans l2) s q
  | exc x h' => exact fun ρ' H' l2 => p ρ' H' (l.trans l2)
  | stuck => exact p
/-- what is known between two -/
def Mid (L : Lk) (W : WM) (env : MP.Env) (σ : L2.St) (ρ : List Addr) (H : Hp) (RR : List Addr → Hp → α → β → Prop) (RS : List Addr → Hp → γ → δ → Prop) (P : δ → Hp → Prop) (g : α → MP.Heap → MP.Res γ) : β → Hp → Prop := fun u H1 =>
  ∃ ρ1 h1 v, Le L ρ H ρ1 H1 ∧ Sta L ρ1 h1 env σ H1 ∧ RR ρ1 H1 v u ∧ Post L W env σ ρ1 H1 RS P (g v h1)
theorem Post.bind {r : MP.Res α} {g : α → MP.Heap → MP.Res γ} (p : Post L W env σ ρ H RS P (r.bind g)) : Post L W env σ ρ H RR (Mid L W env σ ρ H RR RS P g) r := by
  cases r with
  | ok v h' => exact fun ρ' H' u l s q => ⟨ρ', h', v, l, s, q, Post.mono l p⟩
  | exc x h' => exact p
  | stuck => exact p
end
section
variable {L : Lk} {W : WM} {env : MP.Env} {σ : L2.St} {ρ : List Addr} {H : Hp} {h : MP.Heap} {Q : VK}
theorem Post.gc {r : MP.Res MP.V} (S : Sta L ρ h env σ H) (p : Post L W env σ ρ H (Rep L) Q (MP.gcR h r)) : Post L W env σ ρ H (Rep L) Q r := by
  cases r with
  | ok v h1 =>
    intro ρ' H' u l s q
    unfold MP.gcR at p
    dsimp only at p
    by_cases c : (v.lo h.length && MP.okPre h.length h h1) = true
    · rw [if_pos c] at p
      obtain ⟨c1, c2⟩ := Bool.and_eq_true_iff.mp c
      have hs := S.sim.cut l s.sim c2
      have ll : Le L ρ H ρ H' := ⟨fun i a e => e, l.tp, l.xd⟩
      have hr := Rep.cut h.length v u q c1
      rw [← S.sim.len, l.take] at hr
      exact p ρ H' u ll ⟨hs, S.env.mono ll⟩ hr
    · rw [if_neg c] at p
      exact p ρ' H' u l s q
  | exc x h1 => exact p
  | stuck => exact p
end

/-! ### readings -/
abbrev RM := MP.Env → MP.Heap → MP.Res MP.V
def tE (L : Lk) (W : WM) (f : RM) : TE := fun σ H Q => ∃ ρ h env, Sta L ρ h env σ H ∧ Post L W env σ ρ H (Rep L) Q (f env h)
def eqB : List Addr → Hp → Bool → Bool → Prop := fun _ _ b u => u = b
def tT (L : Lk) (W : WM) (f : MP.Env → MP.Heap → MP.Res Bool) : TT := fun σ H Q => ∃ ρ h env, Sta L ρ h env σ H ∧ Post L W env σ ρ H eqB Q (f env h)
def tA (L : Lk) (W : WM) (f : MP.Env → MP.Heap → MP.Res (List MP.V)) : TA := fun σ H Q => ∃ ρ h env, Sta L ρ h env σ H ∧ Post L W env σ ρ H (Reps L) Q (f env h)
section
variable {X : Cx}
theorem _root_.L2.PE.imp {e : Expr} {t t' : TE} (p : PE X e t) (k : ∀ σ H Q, t' σ H Q → t σ H Q) : PE X e t' := ⟨fun pins s σ H Q I q => p.run pins s σ H Q I (k _ _ _ q)⟩
theorem _root_.L2.PT.imp {e : Expr} {t t' : TT} (p : PT X e t) (k : ∀ σ H Q, t' σ H Q → t σ H Q) : PT X e t' := ⟨fun pins s σ H Q I q => p.run pins s σ H Q I (k _ _ _ q)⟩
theorem _root_.L2.PA.imp {e : List Expr} {t t' : TA} (p : PA X e t) (k : ∀ σ H Q, t' σ H Q → t σ H Q) : PA X e t' := ⟨fun pos pins s σ H Q I q => p.run pos pins s σ H Q I (k _ _ _ q)⟩
theorem _root_.L2.PS.imp {e : Stmt} {t t' : TS} (p : PS X e t) (k : ∀ D σ H, t' D σ H → t D σ H) : PS X e t' := ⟨fun pins s σ H D I q => p.run pins s σ H D I (k _ _ _ q)⟩
theorem _root_.L2.PSs.imp {e : List Stmt} {t t' : TS} (p : PSs X e t) (k : ∀ D σ H, t' D σ H → t D σ H) : PSs X e t' := ⟨fun pins s σ H D I q => p.run pins s σ H D I (k _ _ _ q)⟩
end
/-- two in a row -/
theorem tE_bind2 {L : Lk} {W : WM} {fa fb : RM} {g : MP.V → MP.V → MP.Heap → MP.Res MP.V} {σ : L2.St} {H : Hp} {Q : VK} {r : R2}
    (k : ∀ ρ h env σ v w x y H, Sta L ρ h env σ H → Rep L ρ H v x → Rep L ρ H w y → Post L W env σ ρ H (Rep L) Q (g v w h) → r x y H Q)
    (q : tE L W (fun env h => (fa env h).bind fun x h1 => (fb env h1).bind fun y h2 => g x y h2) σ H Q) : tOp r (tE L W fa) (tE L W fb) σ H Q := by
  obtain ⟨ρ, h, env, S, p⟩ := q
  refine ⟨ρ, h, env, S, p.bind.imp fun u H1 ⟨ρ1, h1, v, l1, S1, r1, p1⟩ => ?_⟩
  refine ⟨ρ1, h1, env, S1, p1.bind.imp fun y H2 ⟨ρ2, h2, w, l2, S2, r2, p2⟩ => ?_⟩
  exact k ρ2 h2 env σ v w u y H2 S2 (Rep.mono l2 v u r1) r2 p2
theorem tE_gc {L : Lk} {W : WM} {f : RM} {σ : L2.St} {H : Hp} {Q : VK} (q : tE L W (fun env h => MP.gcR h (f env h)) σ H Q) : tE L W f σ H Q := by
  obtain ⟨ρ, h, env, S, p⟩ := q
  exact ⟨ρ, h, env, S, p.gc S⟩
theorem tE_bind1 {L : Lk} {W : WM} {fa : RM} {g : MP.V → MP.Heap → MP.Res MP.V} {σ : L2.St} {H : Hp} {Q : VK} {r : V → Hp → VK → Prop}
    (k : ∀ ρ h env σ v x H, Sta L ρ h env σ H → Rep L ρ H v x → Post L W env σ ρ H (Rep L) Q (g v h) → r x H Q)
    (q : tE L W (fun env h => (fa env h).bind fun x h1 => g x h1) σ H Q) : tE L W fa σ H fun x H1 => r x H1 Q := by
  obtain ⟨ρ, h, env, S, p⟩ := q
  exact ⟨ρ, h, env, S, p.bind.imp fun u H1 ⟨ρ1, h1, v, l1, S1, r1, p1⟩ => k ρ1 h1 env σ v u H1 S1 r1 p1⟩

/-! ### a value comes, the heap as it is; a tuple, an object more -/
section
variable {L : Lk} {W : WM} {env : MP.Env} {σ : L2.St} {ρ : List Addr} {H : Hp} {h : MP.Heap} {Q : VK} {v : MP.V} {u : V}
theorem Post.same (S : Sta L ρ h env σ H) (p : Post L W env σ ρ H (Rep L) Q (.ok v h)) (r : Rep L ρ H v u) : Q u H := p ρ H u Le.refl S r
theorem Post.tup {ms : List MP.V} {xs : List V} (S : Sta L ρ h env σ H) (p : Post L W env σ ρ H (Rep L) Q (.ok (.tup ms) h)) (r : Reps L ρ H ms xs) {a : Addr} (ha : H a = none) : Q (.ref a) (upd H a (.tup xs)) :=
  p ρ _ _ (Le.newT ha) ⟨S.sim.grow ha, S.env.mono (Le.newT ha)⟩ ⟨a, xs, rfl, SqT.of upd_same, Reps.mono (Le.newT ha) ms xs r⟩
theorem Post.lst {ms : List MP.V} {xs : List V} (S : Sta L ρ h env σ H) (p : Post L W env σ ρ H (Rep L) Q (.ok (.ref h.length) (h ++ [.lst ms]))) (r : Reps L ρ H ms xs) {a : Addr} (ha : H a = none) : Q (.ref a) (upd H a (.lst xs)) := by
  refine p (ρ ++ [a]) _ _ (Le.new ha) ⟨S.sim.push ha ⟨xs, upd_same, Reps.mono (Le.new ha) ms xs r⟩, S.env.mono (Le.new ha)⟩ ⟨a, ?_, rfl⟩
  rw [← S.sim.len]; simp
end
/-- a list of M read -/
theorem listAt_rep {L : Lk} {ρ : List Addr} {h : MP.Heap} {H : Hp} {i : Nat} {ms : List MP.V} {u : V} (S : Sim L ρ h H) (e : MP.listAt h i = some ms) (r : Rep L ρ H (.ref i) u) : ∃ a xs, u = .ref a ∧ SqL L.K H a xs ∧ Reps L ρ H ms xs := by
  obtain ⟨a, ea, eu⟩ := r
  unfold MP.listAt at e
  cases q : h[i]? with
  | none => rw [q] at e; cases e
  | some o =>
    rw [q] at e
    have ob := S.obj i a o ea q
    cases o with
    | lst xs => cases e; obtain ⟨ys, e1, r1⟩ := ob; exact ⟨a, ys, eu, SqL.of e1, r1⟩
    | ro xs => cases e; obtain ⟨ys, e1, r1⟩ := ob; exact ⟨a, ys, eu, e1.sq, r1⟩
    | dct _ => cases e
    | ins _ _ => cases e
end MPS
end

section
set_option Elab.async false
set_option linter.all false
set_option maxRecDepth 100000
set_option maxHeartbeats 4000000
/-! a tuple times 1 -/
namespace HT
open PySem PySem.Spec PyProof.Rows L2
theorem tuple_mul1 (l : Addr) (items : Array Value) (n : Nat) (dd : Option Addr) (sl : Array (Option Value)) (u : Tok) :
    Meets (Builtin.«tuple.__mul__» ⟨[.ref l, .int 1 u], []⟩) (fun _ R s => s.heap.get? l = some { cls := .type "tuple", dict := dd, data := .seq items n, slots := sl } ∧
      R (.ok (.ret (Value.ref l))) s) :=
  .of_wp fun prog w A R s h => by
    obtain ⟨hp, g, d, tk, os⟩ := s
    obtain ⟨hl, h⟩ := h
    have f1 := AutoSeq1.idx_int
    have c0 : (decide ((1 : Int) < -(2 ^ 63)) || decide ((1 : Int) ≥ 2 ^ 63)) = false := by decide
    have c1 : (items.isEmpty || (1 : Int) == 1) = true := by simp
    wp_walk using wpAny_loadPart' hl
    repeat (first
      | (refine wpAny_ite_false (decide_eq_false (by rw [c0]; exact Bool.false_ne_true)) ?_; wp_walk using wpAny_loadPart' hl)
      | (refine wpAny_ite_true (decide_eq_true (by rw [c1])) ?_; wp_walk using wpAny_loadPart' hl))
    exact ⟨_, rfl, h⟩
def rRep1 (K : PySem.W.Frag) : R2 := fun x y H Q => ∃ l xs, x = .ref l ∧ y = .int 1 ∧ SqT K H l xs ∧ Q (.ref l) H
section
variable {X : Cx}
theorem op_rep1 : OpR X (binaryOp .Mult) (rRep1 X.K) := by
  intro pins s σ H x y v u Q I rx ry h
  obtain ⟨l, xs, rfl, rfl, hT, q⟩ := h
  cases rx
  obtain ⟨t, rfl⟩ := ry
  obtain ⟨its, r, ⟨⟨cls, dd, data, sl⟩, ho, hc, n, hd⟩, hs⟩ := I.tuple hT
  simp only at hc hd
  subst hc hd
  refine wpAny_binaryOp_repeat_ref (T := "tuple") (U := "int") (by decide) ⟨_, ho, rfl⟩ (fun s' => typeIs_int s' 1 t) noFill_tuple_mul F.fills_int_mul F.slot_int_rmul repeat_tuple F.slot_int_index.lookup
    (call_meets F.slot_int_rmul (typeIs_int s 1 t) F.entry_int_rmul (F.args_int_rmul_2 _ _) (int_rmul_tuple 1 t l its.toArray n dd sl)
      ⟨ho, rfl, ⟨_, ho, rfl⟩, call_meets F.slot_tuple_mul ⟨_, ho, rfl⟩ F.entry_tuple_mul (F.args_tuple_mul_2 _ _) (tuple_mul1 l its.toArray n dd sl t) ⟨ho, ?_⟩⟩)
  exact ⟨.ref l, H, I, rfl, q⟩
end
end HT
end

section
set_option Elab.async false
set_option linter.all false
set_option maxRecDepth 100000
set_option maxHeartbeats 1000000
namespace MPS
open PySem PySem.Spec PyProof.Rows L2

theorem LINE_line : MP.LINE = sizeLine := by rw [MP.LINE_eq, sizeLine_eq]
theorem okS_app {a b : List Nat} (h : okS a = true) (k : okS b = true) : okS (a ++ b) = true := by
  unfold okS at *; rw [List.all_append, h, k]; rfl
theorem okS_sub {a b : List Nat} (h : okS a = true) (k : ∀ c ∈ b, c ∈ a) : okS b = true := by
  unfold okS at *; rw [List.all_eq_true] at *; exact fun c hc => h c (k c hc)
theorem stV_app (a b : List Nat) : (⟨a.toArray⟩ : Str) ++ ⟨b.toArray⟩ = ⟨(a ++ b).toArray⟩ := by
  show (⟨a.toArray ++ b.toArray⟩ : Str) = _
  simp
theorem stV_len (a : List Nat) : (⟨a.toArray⟩ : Str).length = a.length := by simp [Str.length]

def opP : MP.Op → Operator
  | .add => .Add | .sub => .Sub | .mul => .Mult | .fdiv => .FloorDiv | .mod => .Mod | .pow => .Pow
theorem small_lt {i : Int} (h : MP.small i = true) : i.natAbs < 2 ^ 8000 := by
  unfold MP.small at h
  have := of_decide_eq_true h
  rwa [MP.BITS_eq] at this
def rBin (L : Lk) (W : WM) (op : MP.Op) : R2 := fun x y H Q => ∃ ρ h env σ v w, Sta L ρ h env σ H ∧ Rep L ρ H v x ∧ Rep L ρ H w y ∧ Post L W env σ ρ H (Rep L) Q (MP.binV op v w h)
section
variable {L : Lk} {W : WM} {X : Cx}
theorem op_intM (op : MP.Op) {i j k : Int} (hk : MP.intOp op i j = some k) {pins : List (Addr × Obj)} {s : Shared} {σ : L2.St} {H : Hp} {v u : Value} {Q : VK} (I : Inv X pins σ H s) (rx : RelV (.int i) v) (ry : RelV (.int j) u) (q : Q (.int k) H) :
    wpAny (model X.prog X.w) X.A (binaryOp (opP op) v u) (EP X pins σ Q) X.xe s := by
  cases op with
  | add => cases hk; exact op_add pins s σ H _ _ v u Q I rx ry ⟨i, j, rfl, rfl, q⟩
  | sub => cases hk; exact op_sub pins s σ H _ _ v u Q I rx ry ⟨i, j, rfl, rfl, q⟩
  | mul =>
    unfold MP.intOp at hk
    dsimp only at hk
    split at hk
    · rename_i c
      cases hk
      obtain ⟨c1, c2⟩ := Bool.and_eq_true_iff.mp c
      exact op_mulW pins s σ H _ _ v u Q I rx ry ⟨i, j, rfl, rfl, wide_mul (small_lt c1) (small_lt c2) (by omega) (by omega) (by omega), q⟩
    · cases hk
  | fdiv =>
    unfold MP.intOp at hk
    dsimp only at hk
    split at hk
    · rename_i c
      cases hk
      obtain ⟨c1, c2⟩ := Bool.and_eq_true_iff.mp c
      obtain ⟨t, rfl⟩ := rx
      obtain ⟨t', rfl⟩ := ry
      exact floordiv_int (of_decide_eq_true c1) ⟨.int _, H, I.tok _, ⟨_, rfl⟩, q⟩ (.inl (PyProof.noPylong_of_log2 (Nat.lt_of_lt_of_le (PySem.Flt.log2_lt_of (by omega) (small_lt c2)) (by omega))))
    · cases hk
  | mod =>
    unfold MP.intOp at hk
    dsimp only at hk
    split at hk
    · rename_i c
      cases hk
      exact op_modN pins s σ H _ _ v u Q I rx ry ⟨i, j, rfl, rfl, of_decide_eq_true c, q⟩
    · cases hk
  | pow =>
    unfold MP.intOp at hk
    dsimp only at hk
    split at hk
    · rename_i c
      cases hk
      obtain ⟨c1, c2⟩ := Bool.and_eq_true_iff.mp c
      have d1 := of_decide_eq_true c1
      have d2 := of_decide_eq_true c2
      exact op_pow pins s σ H _ _ v u Q I rx ry ⟨i, j, rfl, rfl, ⟨d1.1, by omega, Nat.lt_trans d2 (by decide)⟩, q⟩
    · cases hk
theorem op_strM {a b : List Nat} {pins : List (Addr × Obj)} {s : Shared} {σ : L2.St} {H : Hp} {v u : Value} {Q : VK} (hl : a.length + b.length ≤ MP.LINE) (I : Inv X pins σ H s) (rx : RelV (stV a) v) (ry : RelV (stV b) u) (q : Q (stV (a ++ b)) H) :
    wpAny (model X.prog X.w) X.A (binaryOp .Add v u) (EP X pins σ Q) X.xe s := by
  refine op_add_str pins s σ H _ _ v u Q I rx ry ⟨_, _, rfl, rfl, ?_, ?_⟩
  · rw [stV_len, stV_len, ← LINE_line]; exact hl
  · rw [stV_app]; exact q
theorem rep_flat {ms : List MP.V} {xs : List V} {ρ : List Addr} {H : Hp} (r : Reps L ρ H ms xs) : ∀ n : Nat, Reps L ρ H (List.replicate n ms).flatten (List.replicate n xs).flatten
  | 0 => rfl
  | n + 1 => by
    rw [List.replicate_succ, List.replicate_succ, List.flatten_cons, List.flatten_cons]
    exact Reps.app _ _ _ _ r (rep_flat r n)
theorem lstAt_rep {ρ : List Addr} {h : MP.Heap} {H : Hp} {i : Nat} {ms : List MP.V} {u : V} (S : Sim L ρ h H) (e : MP.lstAt h i = some ms) (r : Rep L ρ H (.ref i) u) : ∃ a xs, u = .ref a ∧ ρ[i]? = some a ∧ h[i]? = some (.lst ms) ∧ H a = some (.lst xs) ∧ Reps L ρ H ms xs := by
  obtain ⟨a, ea, eu⟩ := r
  unfold MP.lstAt at e
  cases q : h[i]? with
  | none => rw [q] at e; cases e
  | some o =>
    rw [q] at e
    have ob := S.obj i a o ea q
    cases o with
    | lst xs => cases e; obtain ⟨ys, e1, r1⟩ := ob; exact ⟨a, ys, eu, ea, rfl, e1, r1⟩
    | ro xs => cases e
    | dct _ => cases e
    | ins _ _ => cases e
theorem fold_app (x : Array Nat) : ∀ (n : Nat) (acc : Array Nat), (List.replicate n x).foldl (· ++ ·) acc = acc ++ ((List.replicate n x.toList).flatten).toArray
  | 0, acc => by simp
  | n + 1, acc => by
    rw [List.replicate_succ, List.foldl_cons, fold_app x n, List.replicate_succ, List.flatten_cons]
    apply Array.toList_inj.mp
    simp
theorem mul_codes (a : List Nat) (k : Int) (h0 : 0 ≤ k) : Txt.mul ⟨a.toArray⟩ k = ⟨(MP.rep a k).toArray⟩ := by
  unfold Txt.mul MP.rep
  split
  · have : k = 0 := by omega
    subst this
    rfl
  · split
    · rename_i h1 h2
      simp only [Bool.or_eq_true, beq_iff_eq] at h2
      rcases h2 with h2 | h2
      · subst h2; simp
      · have : a = [] := by simpa [Str.length] using h2
        subst this
        simp
    · rw [fold_app]
      simp
theorem okS_rep {a : List Nat} (h : okS a = true) (k : Int) : okS (MP.rep a k) = true := by
  unfold okS at h ⊢
  rw [List.all_eq_true] at h ⊢
  intro c hc
  unfold MP.rep at hc
  obtain ⟨l, h1, h2⟩ := List.mem_flatten.mp hc
  rw [List.eq_of_mem_replicate h1] at h2
  exact h c h2
theorem op_bin (hK : X.K = L.K) (op : MP.Op) : OpR X (binaryOp (opP op)) (rBin L W op) := by
  intro pins s σ H x y v u Q I rx ry ⟨ρ, h, env, σ', m, n, S, r1, r2, p⟩
  cases m with
  | int i =>
    cases n with
    | int j =>
      cases r1; cases r2
      unfold MP.binV at p
      dsimp only at p
      cases hk : MP.intOp op i j with
      | none => rw [hk] at p; exact p.elim
      | some k => rw [hk] at p; exact op_intM op hk I rx ry (Post.same S p rfl)
    | _ => exact (show False from p).elim
  | str a =>
    obtain ⟨o1, r1⟩ := r1
    subst r1
    cases n with
    | str b =>
      obtain ⟨o2, r2⟩ := r2
      subst r2
      cases op with
      | add =>
        unfold MP.binV at p
        dsimp only at p
        split at p
        · rename_i hl
          exact op_strM hl I rx ry (Post.same S p ⟨okS_app o1 o2, rfl⟩)
        · exact p.elim
      | _ => exact (show False from p).elim
    | int k =>
      cases r2
      cases op with
      | mul =>
        unfold MP.binV at p
        dsimp only at p
        split at p
        · rename_i hl
          obtain ⟨z1, z2, z3⟩ := of_decide_eq_true hl
          obtain ⟨t, rfl⟩ := rx
          obtain ⟨t', rfl⟩ := ry
          have hlen : (⟨a.toArray⟩ : Str).length = a.length := by simp [Str.length]
          have hm : a.length * k.toNat ≤ 1000 * 1000 := Nat.mul_le_mul z3 (by omega)
          refine SB.mul ⟨by simp; omega, fun k1 _ => ?_, fun _ _ => ?_⟩ fun t2 j => ?_
          · rw [hlen]
            have : 1000 ≤ (2 ^ 63 - 1) / k := by
              rw [Int.le_ediv_iff_mul_le (by omega)]
              omega
            omega
          · rw [hlen]
            have := sizeLine_eq
            exact decide_eq_false (by omega)
          · rw [mul_codes a k z1]
            exact ⟨.str _, H, I.tok _, ⟨_, rfl⟩, Post.same S p ⟨okS_rep o1 k, rfl⟩⟩
        · exact p.elim
      | _ => exact (show False from p).elim
    | _ => exact (show False from p).elim
  | tup a =>
    obtain ⟨p1, xs, rfl, t1, q1⟩ := r1
    cases n with
    | tup b =>
      obtain ⟨p2, ys, rfl, t2, q2⟩ := r2
      cases op with
      | add =>
        unfold MP.binV at p
        dsimp only at p
        split at p
        · rename_i hl
          refine op_catA pins s σ H _ _ v u Q I rx ry ⟨p1, p2, xs, ys, rfl, rfl, by rw [hK]; exact t1, by rw [hK]; exact t2, ?_, fun e => ?_, fun e1 e2 => ?_, fun e1 e2 a ha => ?_⟩
          · rw [Reps.length _ _ q1, Reps.length _ _ q2, ← LINE_line]; exact hl
          · subst e
            cases a with
            | cons m ms => obtain ⟨_, _, z, _⟩ := q1; cases z
            | nil => exact Post.same S p ⟨p2, ys, rfl, t2, q2⟩
          · subst e2
            cases b with
            | cons m ms => obtain ⟨_, _, z, _⟩ := q2; cases z
            | nil => exact Post.same S p ⟨p1, xs, rfl, t1, by rw [List.append_nil]; exact q1⟩
          · exact Post.tup S p (Reps.app _ _ _ _ q1 q2) ha
        · exact p.elim
      | _ => exact (show False from p).elim
    | int k =>
      cases r2
      cases op with
      | mul =>
        unfold MP.binV at p
        dsimp only at p
        split at p
        · rename_i hl
          obtain ⟨z1, z2, z3, z4⟩ := of_decide_eq_true hl
          rcases Nat.eq_or_lt_of_le (show 1 ≤ k.toNat by omega) with z5 | z5
          · obtain rfl : k = 1 := by omega
            have e1 : MP.rep a 1 = a := by simp [MP.rep]
            rw [e1] at p
            exact HT.op_rep1 pins s σ H _ _ v u Q I rx ry ⟨p1, xs, rfl, rfl, by rw [hK]; exact t1, Post.same S p ⟨p1, xs, rfl, t1, q1⟩⟩
          refine op_repT pins s σ H _ _ v u Q I rx ry ⟨p1, k, xs, rfl, rfl, by rw [hK]; exact t1, ?_, by omega, z4, ?_, fun a' ha => ?_⟩
          · intro e; subst e
            cases a with
            | nil => exact z1 rfl
            | cons m ms => obtain ⟨_, _, z, _⟩ := q1; cases z
          · rw [Reps.length _ _ q1]; exact z2
          · exact Post.tup S p (rep_flat q1 _) ha
        · exact p.elim
      | _ => exact (show False from p).elim
    | _ => exact (show False from p).elim
  | ref i =>
    cases n with
    | ref j =>
      cases op with
      | add =>
        unfold MP.binV at p
        dsimp only at p
        cases e1 : MP.lstAt h i with
        | none => rw [e1] at p; exact p.elim
        | some xs =>
          cases e2 : MP.lstAt h j with
          | none => rw [e1, e2] at p; exact p.elim
          | some ys =>
            rw [e1, e2] at p
            obtain ⟨a1, us, rfl, _, _, h1, s1⟩ := lstAt_rep S.sim e1 r1
            obtain ⟨a2, vs, rfl, _, _, h2, s2⟩ := lstAt_rep S.sim e2 r2
            dsimp only at p
            split at p
            · rename_i hl
              refine op_cat pins s σ H _ _ v u Q I rx ry ⟨a1, a2, us, vs, rfl, rfl, h1, h2, ?_, fun a' ha => ?_⟩
              · rw [Reps.length _ _ s1, Reps.length _ _ s2, ← LINE_line]; exact hl
              · exact Post.lst S p (Reps.app _ _ _ _ s1 s2) ha
            · exact p.elim
      | _ => exact (show False from p).elim
    | int k =>
      cases r2
      cases op with
      | mul =>
        unfold MP.binV at p
        dsimp only at p
        cases e1 : MP.lstAt h i with
        | none => rw [e1] at p; exact p.elim
        | some xs =>
          rw [e1] at p
          obtain ⟨a1, us, rfl, _, _, h1, s1⟩ := lstAt_rep S.sim e1 r1
          dsimp only at p
          split at p
          · rename_i hl
            rw [Bool.and_eq_true, Bool.and_eq_true] at hl
            obtain ⟨⟨z1, z2⟩, z3⟩ := hl
            have y1 := of_decide_eq_true z1
            have y2 := of_decide_eq_true z2
            have y3 := of_decide_eq_true z3
            refine op_rep pins s σ H _ _ v u Q I rx ry ⟨a1, k, us, rfl, rfl, h1, by omega, by omega, ?_, fun a' ha => ?_⟩
            · rw [Reps.length _ _ s1, sizeLine_eq]
              have : xs.length * k.toNat ≤ 1000 * 1000 := Nat.mul_le_mul y3 (by omega)
              omega
            · exact Post.lst S p (rep_flat s1 _) ha
          · exact p.elim
      | _ => exact (show False from p).elim
    | _ => exact (show False from p).elim
  | non => cases n <;> exact (show False from p).elim
  | bl _ => cases n <;> exact (show False from p).elim
  | fn _ => cases n <;> exact (show False from p).elim
  | cls _ => cases n <;> exact (show False from p).elim
end
end MPS
end

section
set_option Elab.async false
set_option linter.all false
set_option maxRecDepth 100000
set_option maxHeartbeats 1000000
namespace MPS
open PySem PySem.Spec PyProof.Rows L2

mutual
def toP : MP.Dt → PyData
  | .non => .none
  | .bl b => .bool b
  | .int i => .int i
  | .str s => .str ⟨s.toArray⟩
  | .tup xs => .tuple (toPs xs)
  | .lst xs => .list (toPs xs)
def toPs : List MP.Dt → List PyData
  | [] => []
  | x :: xs => toP x :: toPs xs
end
mutual
theorem toP_depth : ∀ d : MP.Dt, (toP d).depth = d.depth
  | .non => by simp [toP, PyData.depth, MP.Dt.depth]
  | .bl b => by simp [toP, PyData.depth, MP.Dt.depth]
  | .int i => by simp [toP, PyData.depth, MP.Dt.depth]
  | .str s => by simp [toP, PyData.depth, MP.Dt.depth]
  | .tup xs => by simp [toP, PyData.depth, MP.Dt.depth, toPs_depth xs]
  | .lst xs => by simp [toP, PyData.depth, MP.Dt.depth, toPs_depth xs]
theorem toPs_depth : ∀ ds : List MP.Dt, PyData.depthAll (toPs ds) = MP.Dt.depths ds
  | [] => by simp [toPs, PyData.depthAll, MP.Dt.depths]
  | x :: xs => by simp [toPs, PyData.depthAll, MP.Dt.depths, toP_depth x, toPs_depth xs]
end
theorem str_eq_toArray (a b : List Nat) : ((⟨a.toArray⟩ : Str) == ⟨b.toArray⟩) = decide (a = b) := by
  by_cases e : a = b
  · subst e; simp
  · rw [decide_eq_false e]
    rw [beq_eq_false_iff_ne]
    intro z
    injection z with z
    exact e (by simpa using congrArg Array.toList z)
mutual
theorem toP_eqv : ∀ d e : MP.Dt, PyData.eqv (toP d) (toP e) = d.eqv e
  | .non, e => by cases e <;> simp [toP, PyData.eqv, MP.Dt.eqv]
  | .bl b, e => by
    cases e <;> simp [toP, PyData.eqv, MP.Dt.eqv]
    all_goals (first | rfl | (rw [Bool.eq_iff_iff]; simp))
  | .int i, e => by
    cases e <;> simp [toP, PyData.eqv, MP.Dt.eqv]
    all_goals (first | rfl | (rw [Bool.eq_iff_iff]; simp))
  | .str s, e => by
    cases e <;> simp [toP, PyData.eqv, MP.Dt.eqv]
    rw [str_eq_toArray]
  | .tup xs, e => by
    cases e <;> simp [toP, PyData.eqv, MP.Dt.eqv]
    exact toPs_eqv xs _
  | .lst xs, e => by
    cases e <;> simp [toP, PyData.eqv, MP.Dt.eqv]
    exact toPs_eqv xs _
theorem toPs_eqv : ∀ d e : List MP.Dt, PyData.eqvAll (toPs d) (toPs e) = MP.Dt.eqvs d e
  | [], e => by cases e <;> simp [toPs, PyData.eqvAll, MP.Dt.eqvs]
  | x :: xs, e => by
    cases e with
    | nil => simp [toPs, PyData.eqvAll, MP.Dt.eqvs]
    | cons y ys => simp [toPs, PyData.eqvAll, MP.Dt.eqvs, toP_eqv x y, toPs_eqv xs ys]
end

variable {L : Lk} {W : WM} {X : Cx} {ρ : List Addr} {H : Hp} {h : MP.Heap}
/-- the values read as data -/
def RdOk (L : Lk) (ρ : List Addr) (H : Hp) (rd : Nat → Option MP.Dt) : Prop := ∀ i d u, rd i = some d → Rep L ρ H (.ref i) u → Dp L.K H u (toP d) ∧ (toP d).canLay0 = true
mutual
theorem deepV_rep {rd : Nat → Option MP.Dt} (k : RdOk L ρ H rd) : ∀ (v : MP.V) (d : MP.Dt) (u : V), MP.deepV rd v = some d → Rep L ρ H v u → Dp L.K H u (toP d) ∧ (toP d).canLay0 = true
  | .non, d, u, e, r => by cases e; cases r; exact ⟨.non, rfl⟩
  | .bl b, d, u, e, r => by cases e; cases r; exact ⟨.bl b, rfl⟩
  | .int i, d, u, e, r => by cases e; cases r; exact ⟨.int i, rfl⟩
  | .str s, d, u, e, r => by
    cases e
    obtain ⟨o, r⟩ := r
    subst r
    refine ⟨.str _, ?_⟩
    simp only [toP, PyData.canLay0, PyData.strOk]
    unfold okS at o
    simpa using o
  | .tup ms, d, u, e, r => by
    simp only [MP.deepV, Option.map_eq_some_iff] at e
    obtain ⟨ds, e1, rfl⟩ := e
    obtain ⟨a, xs, rfl, t, q⟩ := r
    obtain ⟨h1, h2⟩ := deepVs_rep k ms ds xs e1 q
    exact ⟨.tup t h1, by simpa [toP, PyData.canLay0] using h2⟩
  | .ref i, d, u, e, r => k i d u e r
  | .fn _, d, u, e, r => by cases e
  | .cls _, d, u, e, r => by cases e
theorem deepVs_rep {rd : Nat → Option MP.Dt} (k : RdOk L ρ H rd) : ∀ (v : List MP.V) (d : List MP.Dt) (u : List V), MP.deepVs rd v = some d → Reps L ρ H v u → DpAll L.K H u (toPs d) ∧ PyData.canLayAll0 (toPs d) = true
  | [], d, u, e, r => by cases e; cases r; exact ⟨.nil, rfl⟩
  | m :: ms, d, u, e, r => by
    simp only [MP.deepVs] at e
    obtain ⟨w, us, rfl, r1, r2⟩ := r
    cases e1 : MP.deepV rd m with
    | none => rw [e1] at e; simp at e
    | some x =>
      cases e2 : MP.deepVs rd ms with
      | none => rw [e1, e2] at e; simp at e
      | some xs =>
        rw [e1, e2] at e
        cases e
        obtain ⟨a1, a2⟩ := deepV_rep k m x w e1 r1
        obtain ⟨b1, b2⟩ := deepVs_rep k ms xs us e2 r2
        exact ⟨.cons a1 b1, by simp [toPs, PyData.canLayAll0, a2, b2]⟩
end
theorem rdD_ok (S : Sim L ρ h H) : ∀ n : Nat, RdOk L ρ H (MP.rdD h n)
  | 0 => fun i d u e => by cases e
  | n + 1 => fun i d u e r => by
    simp only [MP.rdD] at e
    cases q : MP.listAt h i with
    | none => rw [q] at e; cases e
    | some xs =>
      rw [q] at e
      simp only [Option.map_eq_some_iff] at e
      obtain ⟨ds, e1, rfl⟩ := e
      obtain ⟨a, ys, rfl, t, r1⟩ := listAt_rep S q r
      obtain ⟨h1, h2⟩ := deepVs_rep (rdD_ok S n) xs ds ys e1 r1
      exact ⟨.lst t h1, by simpa [toP, PyData.canLay0] using h2⟩
theorem deep_rep (S : Sim L ρ h H) {v : MP.V} {d : MP.Dt} {u : V} (e : MP.deep h v = some d) (r : Rep L ρ H v u) : Dp L.K H u (toP d) ∧ (toP d).canLay0 = true := deepV_rep (rdD_ok S 4) v d u e r

def cmpP : MP.Cmp → CmpOp
  | .lt => .Lt | .le => .LtE | .gt => .Gt | .ge => .GtE | .eq => .Eq | .ne => .NotEq | .is_ => .Is | .isnot => .IsNot | .in_ => .In | .notin => .NotIn
def rCmp (L : Lk) (W : WM) (op : MP.Cmp) : R2 := fun x y H Q => ∃ ρ h env σ v w, Sta L ρ h env σ H ∧ Rep L ρ H v x ∧ Rep L ρ H w y ∧ Post L W env σ ρ H (Rep L) Q (MP.ofB h (MP.cmpV op h v w))
theorem ofB_post {env : MP.Env} {σ : L2.St} {Q : VK} {o : Option Bool} (S : Sta L ρ h env σ H) (p : Post L W env σ ρ H (Rep L) Q (MP.ofB h o)) : ∃ b, o = some b ∧ Q (.bl b) H := by
  cases o with
  | none => exact p.elim
  | some b => exact ⟨b, rfl, Post.same S p rfl⟩
theorem eqV_run (hu : X.A.units + 150 < cLine) (hK : X.K = L.K) {v w : MP.V} {x y : V} {b : Bool} (S : Sim L ρ h H) (e : MP.eqV h v w = some b) (r1 : Rep L ρ H v x) (r2 : Rep L ρ H w y) :
    (∀ {pins : List (Addr × Obj)} {s : Shared} {σ : L2.St} {u1 u2 : Value} {Q : VK}, Inv X pins σ H s → RelV x u1 → RelV y u2 → Q (.bl b) H → wpAny (model X.prog X.w) X.A (compareOp .Eq u1 u2) (EP X pins σ Q) X.xe s) ∧
    (∀ {pins : List (Addr × Obj)} {s : Shared} {σ : L2.St} {u1 u2 : Value} {Q : VK}, Inv X pins σ H s → RelV x u1 → RelV y u2 → Q (.bl (!b)) H → wpAny (model X.prog X.w) X.A (compareOp .NotEq u1 u2) (EP X pins σ Q) X.xe s) := by
  unfold MP.eqV at e
  cases e1 : MP.deep h v with
  | none => rw [e1] at e; simp at e
  | some d1 =>
    cases e2 : MP.deep h w with
    | none => rw [e1, e2] at e; simp at e
    | some d2 =>
      rw [e1, e2] at e
      dsimp only at e
      split at e
      · rename_i hd
        cases e
        obtain ⟨p1, c1⟩ := deep_rep S e1 r1
        obtain ⟨p2, c2⟩ := deep_rep S e2 r2
        have hd' : X.A.units + min (toP d1).depth (toP d2).depth < cLine := by rw [toP_depth, toP_depth]; omega
        rw [← hK] at p1 p2
        refine ⟨fun {pins s σ u1 u2 Q} I rx ry q => ?_, fun {pins s σ u1 u2 Q} I rx ry q => ?_⟩
        · obtain ⟨as, s1⟩ := Dp.reads I _ _ _ p1 rx
          obtain ⟨bs, s2⟩ := Dp.reads I _ _ _ p2 ry
          exact SeqAt.compareEq_reads s1 s2 c1 c2 hd' ⟨.bl _, H, I, rfl, by rw [toP_eqv]; exact q⟩
        · obtain ⟨as, s1⟩ := Dp.reads I _ _ _ p1 rx
          obtain ⟨bs, s2⟩ := Dp.reads I _ _ _ p2 ry
          exact SeqAt.compareNe_reads s1 s2 c1 c2 hd' ⟨.bl _, H, I, rfl, by rw [toP_eqv]; exact q⟩
      · cases e
theorem flat_rep {v : MP.V} {u : V} (f : MP.flat v = true) (r : Rep L ρ H v u) : flatV u = true := by
  cases v with
  | non => cases r; rfl
  | bl b => cases r; rfl
  | int b => cases r; rfl
  | str b => obtain ⟨_, r⟩ := r; subst r; rfl
  | _ => cases f
theorem flatEq_rep {v w : MP.V} {x y : V} (f : MP.flat v = true) (g : MP.flat w = true) (r1 : Rep L ρ H v x) (r2 : Rep L ρ H w y) : L2.eqV x y = MP.flatEq v w := by
  cases v with
  | non =>
    cases r1
    cases w with
    | non => cases r2; simp [L2.eqV, MP.flatEq]
    | bl _ => cases r2; simp [L2.eqV, MP.flatEq]
    | int _ => cases r2; simp [L2.eqV, MP.flatEq]
    | str _ => obtain ⟨_, r2⟩ := r2; subst r2; simp [L2.eqV, MP.flatEq]
    | _ => cases g
  | bl a =>
    cases r1
    cases w with
    | non => cases r2; simp [L2.eqV, MP.flatEq]
    | bl _ => cases r2; simp only [L2.eqV, MP.flatEq]; rw [Bool.eq_iff_iff]; simp
    | int _ => cases r2; simp only [L2.eqV, MP.flatEq]; rw [Bool.eq_iff_iff]; simp
    | str _ => obtain ⟨_, r2⟩ := r2; subst r2; simp [L2.eqV, MP.flatEq]
    | _ => cases g
  | int a =>
    cases r1
    cases w with
    | non => cases r2; simp [L2.eqV, MP.flatEq]
    | bl _ => cases r2; simp only [L2.eqV, MP.flatEq]; rw [Bool.eq_iff_iff]; simp
    | int _ => cases r2; simp only [L2.eqV, MP.flatEq]; rw [Bool.eq_iff_iff]; simp
    | str _ => obtain ⟨_, r2⟩ := r2; subst r2; simp [L2.eqV, MP.flatEq]
    | _ => cases g
  | str a =>
    obtain ⟨_, r1⟩ := r1; subst r1
    cases w with
    | non => cases r2; simp [L2.eqV, MP.flatEq]
    | bl _ => cases r2; simp [L2.eqV, MP.flatEq]
    | int _ => cases r2; simp [L2.eqV, MP.flatEq]
    | str _ =>
      obtain ⟨_, r2⟩ := r2; subst r2
      simp only [L2.eqV, MP.flatEq]
      rw [str_eq_toArray]
      rw [Bool.eq_iff_iff]; simp
    | _ => cases g
  | _ => cases f
theorem flats_rep : ∀ {vs : List MP.V} {us : List V}, vs.all MP.flat = true → Reps L ρ H vs us → us.all flatV = true
  | [], us, f, r => by cases r; rfl
  | v :: vs, us, f, ⟨u, r, e, h1, h2⟩ => by
    subst e
    rw [List.all_cons, Bool.and_eq_true] at f ⊢
    exact ⟨flat_rep f.1 h1, flats_rep f.2 h2⟩
theorem inV_rep {x : MP.V} {u : V} (fx : MP.flat x = true) (rx : Rep L ρ H x u) : ∀ {vs : List MP.V} {us : List V}, vs.all MP.flat = true → Reps L ρ H vs us → L2.inV u us = vs.any fun y => MP.flatEq y x
  | [], us, f, r => by cases r; rfl
  | v :: vs, us, f, ⟨w, r, e, h1, h2⟩ => by
    subst e
    rw [List.all_cons, Bool.and_eq_true] at f
    have ih := inV_rep fx rx f.2 h2
    unfold L2.inV at ih ⊢
    rw [List.any_cons, List.any_cons, ih, flatEq_rep f.1 fx h1 rx]
theorem any_toPs (d : MP.Dt) : ∀ ds : List MP.Dt, ((toPs ds).any fun z => PyData.eqv z (toP d)) = ds.any fun z => z.eqv d
  | [] => rfl
  | x :: xs => by simp only [toPs, List.any_cons, any_toPs d xs, toP_eqv]
/-- x in, not in -/
theorem inV_run (hu : X.A.units + 150 < cLine) (hK : X.K = L.K) {v w : MP.V} {x y : V} {b : Bool} (S : Sim L ρ h H) (e : MP.inV h v w = some b) (r1 : Rep L ρ H v x) (r2 : Rep L ρ H w y) :
    (∀ {pins : List (Addr × Obj)} {s : Shared} {σ : L2.St} {u1 u2 : Value} {Q : VK}, Inv X pins σ H s → RelV x u1 → RelV y u2 → Q (.bl b) H → wpAny (model X.prog X.w) X.A (compareOp .In u1 u2) (EP X pins σ Q) X.xe s) ∧
    (∀ {pins : List (Addr × Obj)} {s : Shared} {σ : L2.St} {u1 u2 : Value} {Q : VK}, Inv X pins σ H s → RelV x u1 → RelV y u2 → Q (.bl (!b)) H → wpAny (model X.prog X.w) X.A (compareOp .NotIn u1 u2) (EP X pins σ Q) X.xe s) := by
  have hu65 : X.A.units + 65 < cLine := by omega
  have seq : ∀ {ys : List MP.V} {a : Addr} {us : List V}, y = .ref a → SqL L.K H a us → Reps L ρ H ys us → MP.inSeq h v ys = some b →
    (∀ {pins : List (Addr × Obj)} {s : Shared} {σ : L2.St} {u1 u2 : Value} {Q : VK}, Inv X pins σ H s → RelV x u1 → RelV y u2 → Q (.bl b) H → wpAny (model X.prog X.w) X.A (compareOp .In u1 u2) (EP X pins σ Q) X.xe s) ∧
    (∀ {pins : List (Addr × Obj)} {s : Shared} {σ : L2.St} {u1 u2 : Value} {Q : VK}, Inv X pins σ H s → RelV x u1 → RelV y u2 → Q (.bl (!b)) H → wpAny (model X.prog X.w) X.A (compareOp .NotIn u1 u2) (EP X pins σ Q) X.xe s) := by
    intro ys a us ey hs rs e
    unfold MP.inSeq at e
    split at e
    · rename_i c
      obtain ⟨c1, c2⟩ := Bool.and_eq_true_iff.mp c
      have eb := Option.some.inj e
      rw [← inV_rep c1 r1 c2 rs] at eb
      refine ⟨fun {pins s σ u1 u2 Q} I rx ry q => ?_, fun {pins s σ u1 u2 Q} I rx ry q => ?_⟩
      · exact op_in_seq pins s σ H _ _ u1 u2 Q I rx ry ⟨a, us, ey, .inl (by rw [hK]; exact hs), flat_rep c1 r1, flats_rep c2 rs, by rw [if_neg (by decide), eb]; exact q⟩
      · exact op_notIn_seq pins s σ H _ _ u1 u2 Q I rx ry ⟨a, us, ey, .inl (by rw [hK]; exact hs), flat_rep c1 r1, flats_rep c2 rs, by rw [if_pos rfl, eb]; exact q⟩
    · cases e1 : MP.deep h v with
      | none => rw [e1] at e; simp at e
      | some d =>
        cases e2 : MP.deepVs (MP.rdD h 3) ys with
        | none => rw [e1, e2] at e; simp at e
        | some ds =>
          rw [e1, e2] at e
          dsimp only at e
          split at e
          · rename_i hd
            have eb := Option.some.inj e
            rw [← any_toPs] at eb
            obtain ⟨p1, c1⟩ := deep_rep S e1 r1
            obtain ⟨p2, c2⟩ := deepVs_rep (rdD_ok S 3) _ _ _ e2 rs
            have sh1 : SeqAt.shaped (toP d) = true := by unfold SeqAt.shaped; rw [c1, toP_depth]; simp; omega
            have sh2 : SeqAt.shaped (.list (toPs ds)) = true := by
              unfold SeqAt.shaped
              have z1 : PyData.canLay0 (.list (toPs ds)) = true := by simpa [PyData.canLay0] using c2
              have z2 : PyData.depth (.list (toPs ds)) ≤ 64 := by simp only [PyData.depth, toPs_depth]; omega
              rw [z1]; simpa using z2
            have dl : Dp X.K H y (.list (toPs ds)) := by rw [ey, hK]; exact .lst hs p2
            rw [← hK] at p1
            refine ⟨fun {pins s σ u1 u2 Q} I rx ry q => ?_, fun {pins s σ u1 u2 Q} I rx ry q => ?_⟩
            · exact op_inD hu65 pins s σ H _ _ u1 u2 Q I rx ry ⟨_, _, p1, dl, sh1, sh2, by rw [eb]; exact q⟩
            · exact op_notInD hu65 pins s σ H _ _ u1 u2 Q I rx ry ⟨_, _, p1, dl, sh1, sh2, by rw [eb]; exact q⟩
          · cases e
  cases w with
  | str bs =>
    obtain ⟨o2, r2⟩ := r2
    subst r2
    cases v with
    | str as =>
      obtain ⟨o1, r1⟩ := r1
      subst r1
      match as, e with
      | [c], e =>
        have eb := Option.some.inj e
        refine ⟨fun {pins s σ u1 u2 Q} I rx ry q => ?_, fun {pins s σ u1 u2 Q} I rx ry q => ?_⟩
        · refine op_in_sign pins s σ H _ _ u1 u2 Q I rx ry ⟨c, _, rfl, rfl, ?_⟩
          have z : (decide (c ∈ bs.toArray.toList)) = b := by rw [← eb]
          rw [z]; exact q
        · refine op_notIn_sign pins s σ H _ _ u1 u2 Q I rx ry ⟨c, _, rfl, rfl, ?_⟩
          have z : (decide (c ∈ bs.toArray.toList)) = b := by rw [← eb]
          rw [z]; exact q
      | [], e => cases e
      | _ :: _ :: _, e => cases e
    | _ => cases e
  | tup ys =>
    obtain ⟨a, us, rfl, t, rs⟩ := r2
    simp only [MP.inV] at e
    split at e
    · rename_i c
      obtain ⟨c1, c2⟩ := Bool.and_eq_true_iff.mp c
      have eb := Option.some.inj e
      rw [← inV_rep c1 r1 c2 rs] at eb
      refine ⟨fun {pins s σ u1 u2 Q} I rx ry q => ?_, fun {pins s σ u1 u2 Q} I rx ry q => ?_⟩
      · exact op_in_seq pins s σ H _ _ u1 u2 Q I rx ry ⟨a, us, rfl, .inr (by rw [hK]; exact t), flat_rep c1 r1, flats_rep c2 rs, by rw [if_neg (by decide), eb]; exact q⟩
      · exact op_notIn_seq pins s σ H _ _ u1 u2 Q I rx ry ⟨a, us, rfl, .inr (by rw [hK]; exact t), flat_rep c1 r1, flats_rep c2 rs, by rw [if_pos rfl, eb]; exact q⟩
    · cases e
  | ref i =>
    simp only [MP.inV] at e
    cases q : h[i]? with
    | none => rw [q] at e; cases e
    | some ob =>
      rw [q] at e
      cases ob with
      | lst ys =>
        obtain ⟨a, us, ey, hs, rs⟩ := listAt_rep S (ms := ys) (by unfold MP.listAt; rw [q]) r2
        exact seq ey hs rs e
      | ro ys =>
        obtain ⟨a, us, ey, hs, rs⟩ := listAt_rep S (ms := ys) (by unfold MP.listAt; rw [q]) r2
        exact seq ey hs rs e
      | dct kvs =>
        obtain ⟨a, ea, _⟩ := r2
        exact (S.obj i a _ ea q).elim
      | ins _ _ => cases e
  | _ => cases e
theorem bl_dec {a b : Bool} : decide (V.bl a = V.bl b) = decide (a = b) := by simp
/-- is, is not -/
theorem isV_run {v w : MP.V} {x y : V} {b : Bool} (e : MP.isV v w = some b) (r1 : Rep L ρ H v x) (r2 : Rep L ρ H w y) :
    (∀ {pins : List (Addr × Obj)} {s : Shared} {σ : L2.St} {u1 u2 : Value} {Q : VK}, Inv X pins σ H s → RelV x u1 → RelV y u2 → Q (.bl b) H → wpAny (model X.prog X.w) X.A (compareOp .Is u1 u2) (EP X pins σ Q) X.xe s) ∧
    (∀ {pins : List (Addr × Obj)} {s : Shared} {σ : L2.St} {u1 u2 : Value} {Q : VK}, Inv X pins σ H s → RelV x u1 → RelV y u2 → Q (.bl (!b)) H → wpAny (model X.prog X.w) X.A (compareOp .IsNot u1 u2) (EP X pins σ Q) X.xe s) := by
  cases w with
  | non =>
    cases r2
    have eb : decide (x = V.non) = b := by
      rw [← Option.some.inj e]
      cases v with
      | non => cases r1; simp
      | bl _ => cases r1; simp
      | int _ => cases r1; simp
      | str _ => obtain ⟨_, r1⟩ := r1; subst r1; simp
      | tup _ => obtain ⟨a, xs, r1, _⟩ := r1; subst r1; simp
      | ref _ => obtain ⟨a, _, r1⟩ := r1; subst r1; simp
      | fn _ => cases r1; simp
      | cls _ => cases r1; simp
    refine ⟨fun {pins s σ u1 u2 Q} I rx ry q => ?_, fun {pins s σ u1 u2 Q} I rx ry q => ?_⟩
    · exact op_isN pins s σ H _ _ u1 u2 Q I rx ry ⟨rfl, by rw [eb]; exact q⟩
    · exact op_notN pins s σ H _ _ u1 u2 Q I rx ry ⟨rfl, by rw [eb]; exact q⟩
  | bl c =>
    cases r2
    cases v with
    | bl a =>
      cases r1
      have eb : decide (a = c) = b := Option.some.inj e
      refine ⟨fun {pins s σ u1 u2 Q} I rx ry q => ?_, fun {pins s σ u1 u2 Q} I rx ry q => ?_⟩
      · exact op_isBl pins s σ H _ _ u1 u2 Q I rx ry ⟨a, c, rfl, rfl, by rw [eb]; exact q⟩
      · exact op_notBl pins s σ H _ _ u1 u2 Q I rx ry ⟨a, c, rfl, rfl, by rw [eb]; exact q⟩
    | _ => cases e
  | _ => cases e
theorem cmp_run (hu : X.A.units + 150 < cLine) (hK : X.K = L.K) (op : MP.Cmp) {pins : List (Addr × Obj)} {s : Shared} {σ : L2.St} {m n : MP.V} {x y : V} {v u : Value} {Q : VK} {b : Bool} (I : Inv X pins σ H s) (rx : RelV x v) (ry : RelV y u)
    (S : Sim L ρ h H) (r1 : Rep L ρ H m x) (r2 : Rep L ρ H n y) (e : MP.cmpV op h m n = some b) (q : Q (.bl b) H) : wpAny (model X.prog X.w) X.A (compareOp (cmpP op) v u) (EP X pins σ Q) X.xe s := by
  have mapb : ∀ {o : Option Bool}, o.map not = some b → ∃ c, o = some c ∧ b = !c := fun {o} z => by
    cases o with
    | none => cases z
    | some c => exact ⟨c, rfl, (Option.some.inj z).symm⟩
  cases op with
  | eq => exact (eqV_run hu hK S e r1 r2).1 I rx ry q
  | ne =>
    obtain ⟨c, e1, rfl⟩ := mapb e
    exact (eqV_run hu hK S e1 r1 r2).2 I rx ry q
  | is_ => exact (isV_run e r1 r2).1 I rx ry q
  | isnot =>
    obtain ⟨c, e1, rfl⟩ := mapb e
    exact (isV_run e1 r1 r2).2 I rx ry q
  | in_ => exact (inV_run hu hK S e r1 r2).1 I rx ry q
  | notin =>
    obtain ⟨c, e1, rfl⟩ := mapb e
    exact (inV_run hu hK S e1 r1 r2).2 I rx ry q
  | lt =>
    cases m with
    | int i =>
      cases n with
      | int j => cases r1; cases r2; cases e; exact op_lt pins s σ H _ _ v u Q I rx ry ⟨i, j, rfl, rfl, q⟩
      | _ => cases e
    | str i =>
      cases n with
      | str j =>
        obtain ⟨_, r1⟩ := r1; obtain ⟨_, r2⟩ := r2
        subst r1 r2
        cases e
        exact op_lt_str pins s σ H _ _ v u Q I rx ry ⟨_, _, rfl, rfl, q⟩
      | _ => cases e
    | _ => cases n <;> cases e
  | le =>
    cases m with
    | int i =>
      cases n with
      | int j => cases r1; cases r2; cases e; exact op_le pins s σ H _ _ v u Q I rx ry ⟨i, j, rfl, rfl, q⟩
      | _ => cases e
    | _ => cases n <;> cases e
  | gt =>
    cases m with
    | int i =>
      cases n with
      | int j => cases r1; cases r2; cases e; exact op_gt pins s σ H _ _ v u Q I rx ry ⟨i, j, rfl, rfl, q⟩
      | _ => cases e
    | _ => cases n <;> cases e
  | ge =>
    cases m with
    | int i =>
      cases n with
      | int j => cases r1; cases r2; cases e; exact op_ge pins s σ H _ _ v u Q I rx ry ⟨i, j, rfl, rfl, q⟩
      | _ => cases e
    | _ => cases n <;> cases e
theorem op_cmp (hu : X.A.units + 150 < cLine) (hK : X.K = L.K) (op : MP.Cmp) : OpR X (compareOp (cmpP op)) (rCmp L W op) := by
  intro pins s σ H x y v u Q I rx ry ⟨ρ, h, env, σ', m, n, S, r1, r2, p⟩
  obtain ⟨b, e, q⟩ := ofB_post S p
  exact cmp_run hu hK op I rx ry S.sim r1 r2 e q
/-- a comparison whose answer is known -/
theorem op_cmp1 (hu : X.A.units + 150 < cLine) (hK : X.K = L.K) (op : MP.Cmp) : OpR X (compareOp (cmpP op)) (fun x y H Q => ∃ ρ h v w c, Sim L ρ h H ∧ Rep L ρ H v x ∧ Rep L ρ H w y ∧ MP.cmpV op h v w = some c ∧ Q (.bl c) H) := by
  intro pins s σ H x y v u Q I rx ry ⟨ρ, h, m, n, c, S, r1, r2, e, q⟩
  exact cmp_run hu hK op I rx ry S r1 r2 e q
end MPS
end

section
set_option Elab.async false
set_option linter.all false
set_option maxRecDepth 100000
set_option maxHeartbeats 1000000
namespace MPS
open PySem PySem.Spec PyProof.Rows L2

/-! ### texts -/
theorem strI_eq (i : Int) : Str.ofString (toString i) = ⟨(MP.strI i).toArray⟩ := by
  have h : ∀ n : Nat, (Nat.repr n).toList.map Char.toNat = MP.digs n := fun n => by
    unfold MP.digs Nat.repr; simp
  rw [Str.ofString_eq_toList]
  cases i with
  | ofNat n =>
    show (⟨((Nat.repr n).toList.map Char.toNat).toArray⟩ : Str) = _
    unfold MP.strI
    rw [h]
  | negSucc n =>
    show (⟨(("-" ++ Nat.repr (n + 1)).toList.map Char.toNat).toArray⟩ : Str) = _
    unfold MP.strI
    rw [String.toList_append, List.map_append, h]
    rfl
theorem digs_fig (n : Nat) : ∀ c ∈ MP.digs n, 48 ≤ c ∧ c ≤ 57 := by
  intro c hc
  unfold MP.digs at hc
  obtain ⟨d, hd, rfl⟩ := List.mem_map.mp hc
  have := Nat.isDigit_of_mem_toDigits (by omega) (by omega) hd
  unfold Char.isDigit at this
  simp only [Bool.and_eq_true, decide_eq_true_eq] at this
  obtain ⟨h1, h2⟩ := this
  have h1' : (48 : Nat) ≤ d.val.toNat := h1
  have h2' : d.val.toNat ≤ (57 : Nat) := h2
  exact ⟨h1', h2'⟩
theorem strI_ok (i : Int) : okS (MP.strI i) = true := by
  unfold okS
  rw [List.all_eq_true]
  intro c hc
  have : c = 45 ∨ (48 ≤ c ∧ c ≤ 57) := by
    cases i with
    | ofNat n => exact .inr (digs_fig n c hc)
    | negSucc n =>
      rcases List.mem_cons.mp hc with h | h
      · exact .inl h
      · exact .inr (digs_fig _ c h)
  simp; omega
theorem splitC_ne (c : Nat) (s : List Nat) : MP.splitC c s ≠ [] := by
  cases s with
  | nil => simp [MP.splitC]
  | cons d r =>
    unfold MP.splitC
    split
    · simp
    · split <;> simp
theorem splitC_free {c : Nat} : ∀ (p : List Nat), c ∉ p → [p] = MP.splitC c p
  | [], _ => rfl
  | d :: r, hc => by
    have h1 : d ≠ c := fun z => hc (by simp [z])
    have h2 : c ∉ r := fun z => hc (by simp [z])
    unfold MP.splitC
    rw [if_neg h1, ← splitC_free r h2]
theorem splitC_cut {c : Nat} : ∀ (p t : List Nat), c ∉ p → MP.splitC c (p ++ [c] ++ t) = p :: MP.splitC c t
  | [], t, _ => by
    show MP.splitC c (c :: t) = _
    conv => lhs; unfold MP.splitC
    rw [if_pos rfl]
  | d :: r, t, hc => by
    have h1 : d ≠ c := fun z => hc (by simp [z])
    have h2 : c ∉ r := fun z => hc (by simp [z])
    show MP.splitC c (d :: (r ++ [c] ++ t)) = _
    conv => lhs; unfold MP.splitC
    rw [if_neg h1, splitC_cut r t h2]
theorem splitC_unique (c : Nat) : ∀ (ps : List (List Nat)) (s : List Nat), ps ≠ [] → (∀ p ∈ ps, c ∉ p) → MP.joinS [c] ps = s → ps = MP.splitC c s
  | [], _, h, _, _ => (h rfl).elim
  | [p], s, _, hf, e => by
    have e : p = s := e
    subst e
    have hc : c ∉ p := hf p (by simp)
    clear hf
    exact splitC_free p hc
  | p :: q :: ps, s, _, hf, e => by
    have e : p ++ [c] ++ MP.joinS [c] (q :: ps) = s := e
    have ih := splitC_unique c (q :: ps) _ (by simp) (fun x hx => hf x (List.mem_cons_of_mem _ hx)) rfl
    have hc : c ∉ p := hf p (by simp)
    rw [← e, splitC_cut p _ hc, ← ih]
theorem join_codes (sep : Str) : ∀ ps : List Str, (Str.join sep ps).cps.toList = MP.joinS sep.cps.toList (ps.map fun p => p.cps.toList)
  | [] => rfl
  | [p] => rfl
  | p :: q :: r => by
    have ih := join_codes sep (q :: r)
    show (p ++ sep ++ Str.join sep (q :: r)).cps.toList = p.cps.toList ++ sep.cps.toList ++ MP.joinS sep.cps.toList ((q :: r).map fun p => p.cps.toList)
    rw [← ih]
    show ((p.cps ++ sep.cps) ++ (Str.join sep (q :: r)).cps).toList = _
    simp
theorem split_codes (s : List Nat) (c : Nat) : Txt.split ⟨s.toArray⟩ ⟨#[c]⟩ = (MP.splitC c s).map fun p => (⟨p.toArray⟩ : Str) := by
  have h1 := StrLaws.join_split (⟨s.toArray⟩ : Str) ⟨#[c]⟩
  have h2 := StrLaws.split_free (⟨s.toArray⟩ : Str) c
  have h3 := split_pos (⟨s.toArray⟩ : Str) ⟨#[c]⟩
  have h4 := join_codes ⟨#[c]⟩ (Txt.split ⟨s.toArray⟩ ⟨#[c]⟩)
  rw [h1] at h4
  have h5 := splitC_unique c ((Txt.split ⟨s.toArray⟩ ⟨#[c]⟩).map fun p => p.cps.toList) s (fun z => by
    have := congrArg List.length z
    simp at this
    rw [this] at h3; simp at h3) (fun p hp => by
      obtain ⟨q, hq, rfl⟩ := List.mem_map.mp hp
      exact h2 q hq) (by simpa using h4.symm)
  rw [← h5, List.map_map]
  conv => lhs; rw [← List.map_id (Txt.split ⟨s.toArray⟩ ⟨#[c]⟩)]
  apply List.map_congr_left
  intro p _
  simp
theorem glued_codes (sep : Str) (ps : List Str) : Txt.join sep ps = ⟨(MP.joinS sep.cps.toList (ps.map fun p => p.cps.toList)).toArray⟩ := by
  rw [← join_codes]
  show Builtin.Str.glued sep ps = _
  rw [StrLaws.glued_eq_join]

/-! ### rows of one kind -/
section
variable {L : Lk} {ρ : List Addr} {H : Hp}
theorem bools_rep : ∀ {ms : List MP.V} {us : List V} {bs : List Bool}, MP.boolsOf ms = some bs → Reps L ρ H ms us → us = bs.map V.bl
  | [], us, bs, e, r => by cases e; cases r; rfl
  | m :: ms, us, bs, e, ⟨u, w, eu, r1, r2⟩ => by
    cases m with
    | bl b =>
      simp only [MP.boolsOf, Option.map_eq_some_iff] at e
      obtain ⟨cs, e1, rfl⟩ := e
      cases r1
      rw [eu, bools_rep e1 r2]; rfl
    | _ => cases e
theorem ints_rep : ∀ {ms : List MP.V} {us : List V} {bs : List Int}, MP.intsOf ms = some bs → Reps L ρ H ms us → us = bs.map V.int
  | [], us, bs, e, r => by cases e; cases r; rfl
  | m :: ms, us, bs, e, ⟨u, w, eu, r1, r2⟩ => by
    cases m with
    | int b =>
      simp only [MP.intsOf, Option.map_eq_some_iff] at e
      obtain ⟨cs, e1, rfl⟩ := e
      cases r1
      rw [eu, ints_rep e1 r2]; rfl
    | _ => cases e
theorem strs_rep : ∀ {ms : List MP.V} {us : List V} {bs : List (List Nat)}, MP.strsOf ms = some bs → Reps L ρ H ms us → us = (bs.map fun s => (⟨s.toArray⟩ : Str)).map V.str ∧ ∀ s ∈ bs, okS s = true
  | [], us, bs, e, r => by cases e; cases r; exact ⟨rfl, fun s hs => nomatch hs⟩
  | m :: ms, us, bs, e, ⟨u, w, eu, r1, r2⟩ => by
    cases m with
    | str b =>
      simp only [MP.strsOf, Option.map_eq_some_iff] at e
      obtain ⟨cs, e1, rfl⟩ := e
      obtain ⟨o, r1⟩ := r1
      subst r1
      obtain ⟨h1, h2⟩ := strs_rep e1 r2
      refine ⟨by rw [eu, h1]; rfl, fun s hs => ?_⟩
      rcases List.mem_cons.mp hs with rfl | hs
      · exact o
      · exact h2 s hs
    | _ => cases e
theorem okS_join {sep : List Nat} (hs : okS sep = true) : ∀ {ps : List (List Nat)}, (∀ p ∈ ps, okS p = true) → okS (MP.joinS sep ps) = true
  | [], _ => rfl
  | [p], h => h p (by simp)
  | p :: q :: r, h => okS_app (okS_app (h p (by simp)) hs) (okS_join hs fun x hx => h x (List.mem_cons_of_mem _ hx))
theorem strs_reps : ∀ {ss : List (List Nat)}, (∀ s ∈ ss, okS s = true) → Reps L ρ H (ss.map MP.V.str) ((ss.map fun s => (⟨s.toArray⟩ : Str)).map V.str)
  | [], _ => rfl
  | s :: r, h => ⟨_, _, rfl, ⟨h s (by simp), rfl⟩, strs_reps fun x hx => h x (List.mem_cons_of_mem _ hx)⟩
theorem splitC_mem {c : Nat} : ∀ {s : List Nat} {p : List Nat}, p ∈ MP.splitC c s → ∀ d ∈ p, d ∈ s
  | [], p, hp, d, hd => by simp [MP.splitC] at hp; subst hp; exact hd
  | e :: r, p, hp, d, hd => by
    unfold MP.splitC at hp
    split at hp
    · rcases List.mem_cons.mp hp with h | h
      · subst h; cases hd
      · exact List.mem_cons_of_mem _ (splitC_mem h d hd)
    · split at hp
      · rename_i q qs eq
        rcases List.mem_cons.mp hp with h | h
        · subst h
          rcases List.mem_cons.mp hd with h | h
          · simp [h]
          · exact List.mem_cons_of_mem _ (splitC_mem (p := q) (by rw [eq]; simp) d h)
        · exact List.mem_cons_of_mem _ (splitC_mem (p := p) (by rw [eq]; exact List.mem_cons_of_mem _ h) d hd)
      · simp at hp
        subst hp
        simp at hd
        simp [hd]
end

/-! ### built-in functions -/
def rBi (L : Lk) (W : WM) (b : MP.Bi) : List V → Hp → VK → Prop := fun xs H Q => ∃ ρ h env σ vs, Sta L ρ h env σ H ∧ Reps L ρ H vs xs ∧ Post L W env σ ρ H (Rep L) Q (MP.biV b vs h)
section
variable {L : Lk} {W : WM} {X : Cx}
theorem reps1 {ρ : List Addr} {H : Hp} {m : MP.V} {us : List V} (r : Reps L ρ H [m] us) : ∃ u, us = [u] ∧ Rep L ρ H m u := by
  obtain ⟨u, w, e, r1, r2⟩ := r
  cases r2
  exact ⟨u, e, r1⟩
theorem reps2 {ρ : List Addr} {H : Hp} {m n : MP.V} {us : List V} (r : Reps L ρ H [m, n] us) : ∃ u w, us = [u, w] ∧ Rep L ρ H m u ∧ Rep L ρ H n w := by
  obtain ⟨u, w, e, r1, r2⟩ := r
  obtain ⟨w', e2, r3⟩ := reps1 r2
  subst e2
  exact ⟨u, w', e, r1, r3⟩
theorem cr_len (hK : X.K = L.K) : CallR X (.builtin "len") (rBi L W .len) := by
  intro pins s σ H xs us Q I r ⟨ρ, h, env, σ', vs, S, rs, p⟩
  unfold MP.biV at p
  split at p <;> try (first | (exact p.elim) | contradiction)
  · rename_i t _
    obtain ⟨u, rfl, r1⟩ := reps1 rs
    obtain ⟨o, r1⟩ := r1; subst r1
    split at p
    · rename_i hl
      exact call_len_str pins s σ H _ us Q I r ⟨_, rfl, by rw [stV_len, ← LINE_line]; exact hl, by rw [stV_len]; exact Post.same S p rfl⟩
    · exact p.elim
  · rename_i ms _
    obtain ⟨u, rfl, r1⟩ := reps1 rs
    obtain ⟨a, ys, rfl, t, q1⟩ := r1
    exact call_len_seq pins s σ H _ us Q I r ⟨a, ys, rfl, .inr (by rw [hK]; exact t), by rw [Reps.length _ _ q1]; exact Post.same S p rfl⟩
  · rename_i i _
    obtain ⟨u, rfl, r1⟩ := reps1 rs
    cases q : h[i]? with
    | none => rw [q] at p; exact p.elim
    | some ob =>
      rw [q] at p
      cases ob with
      | lst ms =>
        obtain ⟨a, ys, rfl, t, q1⟩ := listAt_rep S.sim (ms := ms) (by unfold MP.listAt; rw [q]) r1
        exact call_len_seq pins s σ H _ us Q I r ⟨a, ys, rfl, .inl (by rw [hK]; exact t), by rw [Reps.length _ _ q1]; exact Post.same S p rfl⟩
      | ro ms =>
        obtain ⟨a, ys, rfl, t, q1⟩ := listAt_rep S.sim (ms := ms) (by unfold MP.listAt; rw [q]) r1
        exact call_len_seq pins s σ H _ us Q I r ⟨a, ys, rfl, .inl (by rw [hK]; exact t), by rw [Reps.length _ _ q1]; exact Post.same S p rfl⟩
      | dct kvs =>
        obtain ⟨a, ea, _⟩ := r1
        exact (S.sim.obj i a _ ea q).elim
      | ins _ _ => exact p.elim
theorem cr_abs : CallR X (.builtin "abs") (rBi L W .abs) := by
  intro pins s σ H xs us Q I r ⟨ρ, h, env, σ', vs, S, rs, p⟩
  unfold MP.biV at p
  split at p <;> try (first | (exact p.elim) | contradiction)
  rename_i t _
  obtain ⟨u, rfl, r1⟩ := reps1 rs
  cases r1
  exact call_abs pins s σ H _ us Q I r ⟨t, rfl, Post.same S p rfl⟩
theorem cr_max2 (hc : X.calm = true) : CallR X (.builtin "max") (rBi L W .max2) := by
  intro pins s σ H xs us Q I r ⟨ρ, h, env, σ', vs, S, rs, p⟩
  unfold MP.biV at p
  split at p <;> try (first | (exact p.elim) | contradiction)
  rename_i i j _
  obtain ⟨u, w, rfl, r1, r2⟩ := reps2 rs
  cases r1; cases r2
  exact call_max2 hc pins s σ H _ us Q I r ⟨i, j, rfl, Post.same S p rfl⟩
theorem cr_min2 (hc : X.calm = true) : CallR X (.builtin "min") (rBi L W .min2) := by
  intro pins s σ H xs us Q I r ⟨ρ, h, env, σ', vs, S, rs, p⟩
  unfold MP.biV at p
  split at p <;> try (first | (exact p.elim) | contradiction)
  rename_i i j _
  obtain ⟨u, w, rfl, r1, r2⟩ := reps2 rs
  cases r1; cases r2
  exact call_min2 hc pins s σ H _ us Q I r ⟨i, j, rfl, Post.same S p rfl⟩
theorem bind_some' {α β : Type} {o : Option α} {f : α → Option β} {b : β} (e : o.bind f = some b) : ∃ a, o = some a ∧ f a = some b := Option.bind_eq_some_iff.mp e
theorem cr_all' (hc : X.calm = true) (hK : X.K = L.K) : CallR X (.builtin "all") (rBi L W .all) := by
  intro pins s σ H xs us Q I r ⟨ρ, h, env, σ', vs, S, rs, p⟩
  unfold MP.biV at p
  split at p <;> try (first | (exact p.elim) | contradiction)
  rename_i i _
  obtain ⟨u, rfl, r1⟩ := reps1 rs
  split at p
  · rename_i bs e
    obtain ⟨ms, e1, e2⟩ := bind_some' e
    obtain ⟨a, ys, rfl, t, q1⟩ := listAt_rep S.sim e1 r1
    have := bools_rep e2 q1
    subst this
    exact cr_all hc pins s σ H _ us Q I r ⟨a, bs, rfl, by rw [hK]; exact t, Post.same S p rfl⟩
  · exact p.elim
theorem cr_any' (hc : X.calm = true) (hK : X.K = L.K) : CallR X (.builtin "any") (rBi L W .any) := by
  intro pins s σ H xs us Q I r ⟨ρ, h, env, σ', vs, S, rs, p⟩
  unfold MP.biV at p
  split at p <;> try (first | (exact p.elim) | contradiction)
  rename_i i _
  obtain ⟨u, rfl, r1⟩ := reps1 rs
  split at p
  · rename_i bs e
    obtain ⟨ms, e1, e2⟩ := bind_some' e
    obtain ⟨a, ys, rfl, t, q1⟩ := listAt_rep S.sim e1 r1
    have := bools_rep e2 q1
    subst this
    exact cr_any hc pins s σ H _ us Q I r ⟨a, bs, rfl, by rw [hK]; exact t, Post.same S p rfl⟩
  · exact p.elim
theorem cr_sum' (hc : X.calm = true) (hK : X.K = L.K) : CallR X (.builtin "sum") (rBi L W .sum) := by
  intro pins s σ H xs us Q I r ⟨ρ, h, env, σ', vs, S, rs, p⟩
  unfold MP.biV at p
  split at p <;> try (first | (exact p.elim) | contradiction)
  rename_i i _
  obtain ⟨u, rfl, r1⟩ := reps1 rs
  split at p
  · rename_i bs e
    obtain ⟨ms, e1, e2⟩ := bind_some' e
    obtain ⟨a, ys, rfl, t, q1⟩ := listAt_rep S.sim e1 r1
    have := ints_rep e2 q1
    subst this
    exact cr_sum hc pins s σ H _ us Q I r ⟨a, bs, rfl, by rw [hK]; exact t, Post.same S p rfl⟩
  · exact p.elim
theorem cr_str : CallR X (.type "str") (rBi L W .str) := by
  intro pins s σ H xs us Q I r ⟨ρ, h, env, σ', vs, S, rs, p⟩
  unfold MP.biV at p
  split at p <;> try (first | (exact p.elim) | contradiction)
  rename_i i _
  obtain ⟨u, rfl, r1⟩ := reps1 rs
  cases r1
  split at p
  · rename_i hs
    have hs := of_decide_eq_true hs
    rw [MP.TXT_eq] at hs
    refine call_str_int pins s σ H _ us Q I r ⟨i, rfl, Nat.lt_of_lt_of_le (PySem.Flt.log2_lt_of (show 0 < 1900 by omega) hs) (by omega), ?_⟩
    rw [strI_eq]
    exact Post.same S p ⟨strI_ok i, rfl⟩
  · exact p.elim
theorem cr_int : CallR X (.type "int") (rBi L W .int) := by
  intro pins s σ H xs us Q I r ⟨ρ, h, env, σ', vs, S, rs, p⟩
  unfold MP.biV at p
  split at p <;> try (first | (exact p.elim) | contradiction)
  · rename_i t _
    obtain ⟨u, rfl, r1⟩ := reps1 rs
    obtain ⟨o, r1⟩ := r1; subst r1
    split at p
    · rename_i c
      obtain ⟨c1, c2⟩ := Bool.and_eq_true_iff.mp c
      have c1 := of_decide_eq_true c1
      have ad : PySem.NumText.AllDigits (⟨t.toArray⟩ : Str).cps.toList := fun d hd => by
        have := List.all_eq_true.mp c2 d (by simpa using hd)
        unfold MP.isFig at this
        exact of_decide_eq_true this
      refine call_int_str pins s σ H _ us Q I r ⟨_, _, rfl, PySem.intText_digits ad (fun z => ?_) (by rw [stV_len]; omega), by rw [stV_len]; omega, ?_⟩
      · have z : t = [] := by simpa using z
        rw [z] at c1; simp at c1
      · exact Post.same S p rfl
    · exact p.elim
  · rename_i b _
    obtain ⟨u, rfl, r1⟩ := reps1 rs
    cases r1
    exact call_int1 pins s σ H _ us Q I r (.inr ⟨b, rfl, Post.same S p rfl⟩)
  · rename_i i _
    obtain ⟨u, rfl, r1⟩ := reps1 rs
    cases r1
    exact call_int1 pins s σ H _ us Q I r (.inl ⟨i, rfl, Post.same S p rfl⟩)
theorem cr_tuple (hK : X.K = L.K) : CallR X (.type "tuple") (rBi L W .tuple) := by
  intro pins s σ H xs us Q I r ⟨ρ, h, env, σ', vs, S, rs, p⟩
  unfold MP.biV at p
  split at p <;> try (first | (exact p.elim) | contradiction)
  · rename_i t _
    obtain ⟨u, rfl, r1⟩ := reps1 rs
    obtain ⟨a, ys, rfl, t1, q1⟩ := id r1
    exact call_tuple_of pins s σ H _ us Q I r ⟨a, ys, rfl, .inr ⟨by rw [hK]; exact t1, Post.same S p r1⟩⟩
  · rename_i i _
    obtain ⟨u, rfl, r1⟩ := reps1 rs
    split at p
    · rename_i ms e
      obtain ⟨a, ys, rfl, t, q1⟩ := listAt_rep S.sim e r1
      exact call_tuple_of pins s σ H _ us Q I r ⟨a, ys, rfl, .inl ⟨by rw [hK]; exact t, fun l hl => Post.tup S p q1 hl⟩⟩
    · exact p.elim
theorem cr_list (hK : X.K = L.K) : CallR X (.type "list") (rBi L W .list) := by
  intro pins s σ H xs us Q I r ⟨ρ, h, env, σ', vs, S, rs, p⟩
  unfold MP.biV at p
  split at p <;> try (first | (exact p.elim) | contradiction)
  rename_i x _
  obtain ⟨u, rfl, r1⟩ := reps1 rs
  split at p
  · rename_i ms e
    cases x with
    | tup ys =>
      cases e
      obtain ⟨a, ys, rfl, t1, q1⟩ := r1
      exact call_list_of pins s σ H _ us Q I r ⟨a, ys, rfl, .inr (by rw [hK]; exact t1), fun l hl => Post.lst S p q1 hl⟩
    | ref i =>
      obtain ⟨a, ys, rfl, t, q1⟩ := listAt_rep S.sim e r1
      exact call_list_of pins s σ H _ us Q I r ⟨a, ys, rfl, .inl (by rw [hK]; exact t), fun l hl => Post.lst S p q1 hl⟩
    | _ => cases e
  · exact p.elim
/-! ### isinstance of one built-in class -/
def isTy : MP.Bi → Option (String × (Nat → Bool))
  | .isint => some ("int", fun k => k == 2 || k == 1) | .isbool => some ("bool", fun k => k == 1) | .isstr => some ("str", fun k => k == 3)
  | .istuple => some ("tuple", fun k => k == 4) | .islist => some ("list", fun k => k == 5) | .isdict => some ("dict", fun k => k == 6)
  | _ => none
def kindN : Nat → String
  | 0 => "NoneType" | 1 => "bool" | 2 => "int" | 3 => "str" | 4 => "tuple" | 5 => "list" | _ => "dict"
theorem kit_kind : ∀ (b : MP.Bi) (T : String) (f : Nat → Bool) (k : Nat), isTy b = some (T, f) → k < 7 → kitB (kindN k) T = some (f k) := by
  intro b T f k e hk
  cases b <;> first | (cases e; done) | skip
  all_goals cases e
  all_goals (match k, hk with
    | 0, _ => decide +kernel
    | 1, _ => decide +kernel
    | 2, _ => decide +kernel
    | 3, _ => decide +kernel
    | 4, _ => decide +kernel
    | 5, _ => decide +kernel
    | 6, _ => decide +kernel)
theorem kind_rep {ρ : List Addr} {h : MP.Heap} {H : Hp} {v : MP.V} {x : V} {k : Nat} (S : Sim L ρ h H) (r : Rep L ρ H v x) (e : MP.kindV h v = some k) : k < 7 ∧ TyX L.K H x (.type (kindN k)) := by
  cases v with
  | non => cases r; cases e; exact ⟨by omega, .base .non⟩
  | bl b => cases r; cases e; exact ⟨by omega, .base (.bl b)⟩
  | int b => cases r; cases e; exact ⟨by omega, .base (.int b)⟩
  | str b => obtain ⟨_, r⟩ := r; subst r; cases e; exact ⟨by omega, .base (.str _)⟩
  | tup ms =>
    cases e
    obtain ⟨a, ys, rfl, t, _⟩ := r
    refine ⟨by omega, ?_⟩
    rcases t with (t | ⟨o, t⟩) | ⟨o, its, n, t, tc, _⟩
    · exact .base (.tup t)
    · exact .fTuple t
    · exact .kTuple t tc
  | ref i =>
    obtain ⟨a, ea, rfl⟩ := r
    simp only [MP.kindV] at e
    cases q : h[i]? with
    | none => rw [q] at e; cases e
    | some o =>
      rw [q] at e
      have ob := S.obj i a o ea q
      cases o with
      | lst ms => cases e; obtain ⟨ys, e1, _⟩ := ob; exact ⟨by omega, .base (.lst e1)⟩
      | ro ms =>
        cases e
        obtain ⟨ys, e1, _⟩ := ob
        refine ⟨by omega, ?_⟩
        rcases e1 with ⟨o, e1⟩ | ⟨o, its, n, t, tc, _⟩
        · exact .base (.frz e1)
        · exact .kList t tc
      | dct _ => exact ob.elim
      | ins _ _ => exact ob.elim
  | fn _ => cases e
  | cls _ => cases e
/-- isinstance(x, T) by values -/
def rIs (L : Lk) (W : WM) (b : MP.Bi) (T : String) : List V → Hp → VK → Prop := fun xs H Q => ∃ x ρ h env σ v, xs = [x, .ty T] ∧ Sta L ρ h env σ H ∧ Rep L ρ H v x ∧ Post L W env σ ρ H (Rep L) Q (MP.biV b [v] h)
theorem cr_is (hK : X.K = L.K) (b : MP.Bi) (T : String) (f : Nat → Bool) (hT : isTy b = some (T, f)) : CallR X (.builtin "isinstance") (rIs L W b T) := by
  intro pins s σ H xs us Q I r ⟨x, ρ, h, env, σ', v, exs, S, r1, p⟩
  have p : Post L W env σ' ρ H (Rep L) Q (MP.isK f h v) := by
    cases b <;> first | (cases hT; done) | (cases hT; exact p)
  unfold MP.isK at p
  cases e : MP.kindV h v with
  | none => rw [e] at p; exact p.elim
  | some k =>
    rw [e] at p
    obtain ⟨hk, ty⟩ := kind_rep S.sim r1 e
    exact call_isi pins s σ H _ us Q I r ⟨x, .ty T, _, _, _, exs, .ty T, by rw [hK]; exact ty, kit_ty (kit_kind b T f k hT hk), Post.same S p rfl⟩
end
end MPS
end

section
set_option Elab.async false
set_option linter.all false
set_option maxRecDepth 100000
set_option maxHeartbeats 4000000
namespace MPS
open PySem PySem.Spec PyProof.Rows L2

/-! ### one sign in a text: how often, where -/
section
open PySem.StrLaws PySem.Builtin.Str
theorem occ_step_yes {s : Str} {c limit a free : Nat} {fd : Array Nat} (hf : free ≤ a) (hl : fd.size < limit) (h : s.cps.toList[a]? = some c) : occBody s ⟨#[c]⟩ s.length limit a (fd, free) = pure (ForInStep.yield (fd.push a, a + 1)) := by
  have h2 := (subAt_one s c a).mpr h
  unfold occBody
  rw [if_pos ⟨⟨⟨hl, hf⟩, h2.1⟩, h2.2⟩]
  rfl
theorem occ_step_no {s : Str} {c limit a free : Nat} {fd : Array Nat} (h : fd.size ≥ limit ∨ s.cps.toList[a]? ≠ some c) : occBody s ⟨#[c]⟩ s.length limit a (fd, free) = pure (ForInStep.yield (fd, free)) := by
  unfold occBody
  rw [if_neg]
  rintro ⟨⟨⟨h1, h2⟩, h3⟩, h4⟩
  rcases h with h | h
  · exact absurd h1 (Nat.not_lt.mpr h)
  · exact h ((subAt_one s c a).mp ⟨h3, h4⟩)
theorem occ_full {s : Str} {c limit : Nat} : ∀ (m a free : Nat) (fd : Array Nat), limit ≤ fd.size → (forIn (List.range' a m) (fd, free) (occBody s ⟨#[c]⟩ s.length limit)).run.fst = fd
  | 0, a, free, fd, _ => rfl
  | m + 1, a, free, fd, h => by
    rw [List.range'_succ, List.forIn_cons, occ_step_no (.inl h)]
    exact occ_full m (a + 1) free fd h
theorem drop_cons_some {l : List Nat} {a x : Nat} (h : l[a]? = some x) : l.drop a = x :: l.drop (a + 1) := by
  obtain ⟨h1, h2⟩ := List.getElem?_eq_some_iff.mp h
  rw [List.drop_eq_getElem_cons h1, h2]
theorem drop_none {l : List Nat} {a : Nat} (h : l[a]? = none) : l.drop a = [] := by
  rw [List.drop_eq_nil_iff]
  exact List.getElem?_eq_none_iff.mp h
theorem occ_count {s : Str} {c limit : Nat} : ∀ (m a free : Nat) (fd : Array Nat), free ≤ a → fd.size + m ≤ limit → a + m = s.cps.toList.length + 1 → (forIn (List.range' a m) (fd, free) (occBody s ⟨#[c]⟩ s.length limit)).run.fst.size = fd.size + (s.cps.toList.drop a).count c
  | 0, a, free, fd, _, _, ha => by
    have : s.cps.toList.drop a = [] := by rw [List.drop_eq_nil_iff]; omega
    rw [this]
    rfl
  | m + 1, a, free, fd, hf, hl, ha => by
    rw [List.range'_succ, List.forIn_cons]
    cases q : s.cps.toList[a]? with
    | none =>
      rw [occ_step_no (.inr (by rw [q]; exact nofun))]
      have := occ_count (s := s) (c := c) (limit := limit) m (a + 1) free fd (by omega) (by omega) (by omega)
      have d1 := drop_none q
      have d2 : s.cps.toList.drop (a + 1) = [] := by rw [List.drop_eq_nil_iff] at d1 ⊢; omega
      rw [d2] at this
      rw [d1]
      exact this
    | some x =>
      rw [drop_cons_some q]
      by_cases hx : x = c
      · subst hx
        rw [occ_step_yes hf (by omega) q]
        have := occ_count (s := s) (c := x) (limit := limit) m (a + 1) (a + 1) (fd.push a) (by omega) (by simp; omega) (by omega)
        rw [Array.size_push] at this
        rw [List.count_cons_self]
        have e : fd.size + (List.count x (s.cps.toList.drop (a + 1)) + 1) = fd.size + 1 + List.count x (s.cps.toList.drop (a + 1)) := by omega
        rw [e]
        exact this
      · rw [occ_step_no (.inr (by rw [q]; intro e; cases e; exact hx rfl))]
        have := occ_count (s := s) (c := c) (limit := limit) m (a + 1) free fd (by omega) (by omega) (by omega)
        rw [List.count_cons_of_ne hx]
        exact this
theorem occ_first {s : Str} {c : Nat} : ∀ (m a free : Nat), free ≤ a → a + m = s.cps.toList.length + 1 → (forIn (List.range' a m) ((#[] : Array Nat), free) (occBody s ⟨#[c]⟩ s.length 1)).run.fst.toList = (((s.cps.toList.drop a).idxOf? c).map (· + a)).toList
  | 0, a, free, _, ha => by
    have : s.cps.toList.drop a = [] := by rw [List.drop_eq_nil_iff]; omega
    rw [this]
    rfl
  | m + 1, a, free, hf, ha => by
    rw [List.range'_succ, List.forIn_cons]
    cases q : s.cps.toList[a]? with
    | none =>
      rw [occ_step_no (.inr (by rw [q]; exact nofun))]
      have := occ_first (s := s) (c := c) m (a + 1) free (by omega) (by omega)
      have d1 := drop_none q
      have d2 : s.cps.toList.drop (a + 1) = [] := by rw [List.drop_eq_nil_iff] at d1 ⊢; omega
      rw [d2] at this
      rw [d1]
      exact this
    | some x =>
      rw [drop_cons_some q]
      by_cases hx : x = c
      · subst hx
        rw [occ_step_yes hf (by simp) q]
        have := occ_full (s := s) (c := x) (limit := 1) m (a + 1) (a + 1) #[a] (by simp)
        have e : (#[] : Array Nat).push a = #[a] := rfl
        rw [e]
        refine (congrArg Array.toList this).trans ?_
        simp [List.idxOf?_cons]
      · rw [occ_step_no (.inr (by rw [q]; intro e; cases e; exact hx rfl))]
        have := occ_first (s := s) (c := c) m (a + 1) free (by omega) (by omega)
        refine this.trans ?_
        rw [List.idxOf?_cons]
        simp only [beq_eq_false_iff_ne.mpr hx, Bool.false_eq_true, if_false]
        cases List.idxOf? c (s.cps.toList.drop (a + 1)) with
        | none => rfl
        | some k => simp; omega
end
theorem count_codes (s : List Nat) (c : Nat) : Txt.count ⟨s.toArray⟩ ⟨#[c]⟩ = (s.count c : Nat) := by
  unfold Txt.count
  rw [StrLaws.occ_eq]
  have h := occ_count (s := (⟨s.toArray⟩ : Str)) (c := c) (limit := (⟨s.toArray⟩ : Str).length + 1) ((⟨s.toArray⟩ : Str).length + 1) 0 0 #[] (Nat.le_refl _) (by simp) (by simp [Str.length])
  simp only [Nat.sub_zero, Array.length_toList]
  rw [h]
  simp
theorem index_codes (s : List Nat) (c k : Nat) (h : s.idxOf? c = some k) : Builtin.Str.occurrences ⟨s.toArray⟩ ⟨#[c]⟩ 0 (⟨s.toArray⟩ : Str).length 1 = [k] := by
  rw [StrLaws.occ_eq]
  have h2 := occ_first (s := (⟨s.toArray⟩ : Str)) (c := c) ((⟨s.toArray⟩ : Str).length + 1) 0 0 (Nat.le_refl _) (by simp [Str.length])
  rw [Nat.sub_zero, h2]
  simp [h]
end MPS
end

section
set_option Elab.async false
set_option linter.all false
set_option maxRecDepth 100000
set_option maxHeartbeats 1000000
namespace MPS
open PySem PySem.Spec PyProof.Rows L2

section
variable {L : Lk} {W : WM} {X : Cx} {ρ : List Addr} {H : Hp} {h : MP.Heap}
/-! ### a[i] -/
theorem atIdx_ixN (n : Nat) (i : Int) : MP.atIdx n i = ixN n i := by
  unfold MP.atIdx ixN
  by_cases h0 : 0 ≤ i
  · rw [if_pos h0]
    by_cases h1 : i < (n : Int)
    · rw [if_pos h1, if_pos (by simp [h0, h1])]
    · rw [if_neg h1, if_neg (by simp [h1]), if_neg (by simp; omega)]
  · rw [if_neg h0, if_neg (by simp [h0])]
    by_cases h1 : -(n : Int) ≤ i
    · rw [if_pos h1, if_pos (by simp [h1]; omega)]
    · rw [if_neg h1, if_neg (by simp [h1])]
theorem atI_rep {ms : List MP.V} {us : List V} {n : MP.V} {y : V} {m : MP.V} (r : Reps L ρ H ms us) (r2 : Rep L ρ H n y) (e : MP.idxL ms n = some m) : ∃ i u, y = .int i ∧ atI us i = some u ∧ Rep L ρ H m u := by
  cases n with
  | int i =>
    cases r2
    obtain ⟨k, e1, e2⟩ := bind_some' e
    obtain ⟨u, e3, r1⟩ := Reps.get _ _ _ _ r e2
    refine ⟨i, u, rfl, ?_, r1⟩
    unfold atI
    rw [Reps.length _ _ r, ← atIdx_ixN, e1]
    exact e3
  | _ => cases e
def rIdx (L : Lk) (W : WM) : R2 := fun x y H Q => ∃ ρ h env σ v w, Sta L ρ h env σ H ∧ Rep L ρ H v x ∧ Rep L ρ H w y ∧ Post L W env σ ρ H (Rep L) Q (MP.ofO h (MP.idxV h v w))
theorem ofO_post {env : MP.Env} {σ : L2.St} {Q : VK} {o : Option MP.V} (p : Post L W env σ ρ H (Rep L) Q (MP.ofO h o)) : ∃ v, o = some v ∧ Post L W env σ ρ H (Rep L) Q (.ok v h) := by
  cases o with
  | none => exact p.elim
  | some v => exact ⟨v, rfl, p⟩
theorem ix_M (hK : X.K = L.K) : IxR X (rIdx L W) := by
  intro value slice pins s σ H x y v u Q I rx ry ⟨ρ, h, env, σ', m, n, S, r1, r2, p0⟩ hs
  obtain ⟨z, e, p⟩ := ofO_post p0
  cases m with
  | tup ms =>
    obtain ⟨a, us, rfl, t, rs⟩ := r1
    obtain ⟨i, w, rfl, e1, r3⟩ := atI_rep rs r2 e
    exact ix_seq value slice pins s σ H _ _ v u Q I rx ry (.inr (.inl ⟨a, us, i, w, rfl, rfl, by rw [hK]; exact t, e1, Post.same S p r3⟩)) hs
  | str ms =>
    obtain ⟨o, r1⟩ := r1; subst r1
    cases n with
    | int i =>
      cases r2
      simp only [MP.idxV] at e
      split at e
      · rename_i hl
        rw [Option.map_eq_some_iff] at e
        obtain ⟨c, e1, rfl⟩ := e
        obtain ⟨k, e2, e3⟩ := bind_some' e1
        have hc : c ∈ ms := List.mem_of_getElem? e3
        refine ix_seq value slice pins s σ H _ _ v u Q I rx ry (.inr (.inr ⟨_, i, c, rfl, rfl, by rw [stV_len, ← LINE_line]; exact hl, ?_, Post.same S p ⟨okS_sub o (fun d hd => ?_), rfl⟩⟩)) hs
        · unfold atI
          rw [← atIdx_ixN]
          show ((MP.atIdx ms.length i).bind fun j => ms[j]?) = some c
          exact e1
        · have : d = c := by simpa using hd
          rw [this]; exact hc
      · cases e
    | _ => cases e
  | ref j =>
    simp only [MP.idxV] at e
    have lst : ∀ {ms : List MP.V}, MP.listAt h j = some ms → MP.idxL ms n = some z → wpAny (model X.prog X.w) X.A (subscriptTail value slice v u) (EP X pins σ Q) X.xe s := by
      intro ms q e
      obtain ⟨a, us, rfl, t, rs⟩ := listAt_rep S.sim q r1
      obtain ⟨i, w, rfl, e1, r3⟩ := atI_rep rs r2 e
      exact ix_seq value slice pins s σ H _ _ v u Q I rx ry (.inl ⟨a, us, i, w, rfl, rfl, by rw [hK]; exact t, e1, Post.same S p r3⟩) hs
    cases q : h[j]? with
    | none => rw [q] at e; cases e
    | some ob =>
      rw [q] at e
      cases ob with
      | lst ms => exact lst (by unfold MP.listAt; rw [q]) e
      | ro ms => exact lst (by unfold MP.listAt; rw [q]) e
      | dct kvs =>
        obtain ⟨a, ea, _⟩ := r1
        exact (S.sim.obj j a _ ea q).elim
      | ins _ _ => cases e
  | _ => cases e

/-! ### a[lo:hi] -/
/-- a slice's part -/
def partV : MP.V → Option (Option Int)
  | .non => some none
  | .int i => some (some i)
  | _ => none
theorem cutAt_sIx {n d k : Nat} {v : MP.V} (e : MP.cutAt n d v = some k) : ∃ o, partV v = some o ∧ HT.sIx n d o = k := by
  cases v with
  | non => cases e; exact ⟨none, rfl, rfl⟩
  | int i => cases e; exact ⟨some i, rfl, rfl⟩
  | _ => cases e
theorem slcL_cut {α : Type} {xs ys : List α} {lo hi : MP.V} (e : MP.slcL xs lo hi = some ys) : ∃ a b, partV lo = some a ∧ partV hi = some b ∧ ys = (xs.drop (HT.sIx xs.length 0 a)).take (HT.sIx xs.length xs.length b - HT.sIx xs.length 0 a) := by
  unfold MP.slcL at e
  cases e1 : MP.cutAt xs.length 0 lo with
  | none => rw [e1] at e; cases e
  | some p =>
    cases e2 : MP.cutAt xs.length xs.length hi with
    | none => rw [e1, e2] at e; cases e
    | some q =>
      rw [e1, e2] at e
      cases e
      obtain ⟨a, h1, h2⟩ := cutAt_sIx e1
      obtain ⟨b, h3, h4⟩ := cutAt_sIx e2
      exact ⟨a, b, h1, h3, by rw [h2, h4]⟩
def rSlc (L : Lk) (W : WM) : V → Option Int → Option Int → Hp → VK → Prop := fun x lo hi H Q => ∃ ρ h env σ v a b, Sta L ρ h env σ H ∧ Rep L ρ H v x ∧ partV a = some lo ∧ partV b = some hi ∧ Post L W env σ ρ H (Rep L) Q (MP.slcV h v a b)
theorem sl_M (hK : X.K = L.K) : SlR X (rSlc L W) := by
  intro pins s σ H x v vl vu lo hi sl Q I rx hs pl pu ⟨ρ, h, env, σ', m, a, b, S, r1, ea, eb, p⟩
  cases m with
  | str t =>
    obtain ⟨o, r1⟩ := r1; subst r1
    simp only [MP.slcV] at p
    split at p
    · rename_i hl
      split at p
      · rename_i r er
        obtain ⟨a', b', h1, h2, h3⟩ := slcL_cut er
        rw [ea] at h1; rw [eb] at h2
        cases h1; cases h2
        refine sl_str pins s σ H _ v vl vu lo hi sl Q I rx hs pl pu ⟨_, rfl, by rw [stV_len, ← LINE_line]; exact hl, ?_⟩
        have e : cutS ⟨t.toArray⟩ lo hi = ⟨r.toArray⟩ := by
          unfold cutS
          rw [stV_len, h3]
        rw [e]
        refine Post.same S p ⟨okS_sub o fun c hc => ?_, rfl⟩
        rw [h3] at hc
        exact List.mem_of_mem_drop (List.mem_of_mem_take hc)
      · exact p.elim
    · exact p.elim
  | tup ms =>
    obtain ⟨q, us, rfl, t, rs⟩ := id r1
    simp only [MP.slcV] at p
    split at p
    · rename_i r er
      obtain ⟨a', b', h1, h2, h3⟩ := slcL_cut er
      rw [ea] at h1; rw [eb] at h2
      cases h1; cases h2
      have hlen := Reps.length _ _ rs
      refine sl_tupA pins s σ H _ v vl vu lo hi sl Q I rx hs pl pu ⟨q, us, rfl, by rw [hK]; exact t, fun hw => ?_, fun hw l hl => ?_⟩
      · rw [hlen] at hw
        have : r = ms := by rw [h3, hw.1, hw.2]; simp
        subst this
        exact Post.same S p r1
      · refine Post.tup S p ?_ hl
        rw [h3]
        unfold cutV
        rw [hlen]
        exact Reps.tk _ _ _ (Reps.dr _ _ _ rs)
    · exact p.elim
  | ref i =>
    simp only [MP.slcV] at p
    split at p
    · rename_i ms em
      obtain ⟨q, us, rfl, t, rs⟩ := listAt_rep S.sim em r1
      split at p
      · rename_i r er
        obtain ⟨a', b', h1, h2, h3⟩ := slcL_cut er
        rw [ea] at h1; rw [eb] at h2
        cases h1; cases h2
        have hlen := Reps.length _ _ rs
        refine sl_list pins s σ H _ v vl vu lo hi sl Q I rx hs pl pu ⟨q, us, rfl, by rw [hK]; exact t, fun l hl => Post.lst S p ?_ hl⟩
        rw [h3]
        unfold cutV
        rw [hlen]
        exact Reps.tk _ _ _ (Reps.dr _ _ _ rs)
      · exact p.elim
    · exact p.elim
  | _ => exact (show False from p).elim

/-! ### methods of texts and lists -/
def rBm (L : Lk) (W : WM) (m : MP.Bm) : V → List V → Hp → VK → Prop := fun x xs H Q => ∃ ρ h env σ v vs, Sta L ρ h env σ H ∧ Rep L ρ H v x ∧ Reps L ρ H vs xs ∧ Post L W env σ ρ H (Rep L) Q (MP.bmV m v vs h)
/-- what is written at an object that M knows -/
theorem Post.put {env : MP.Env} {σ : L2.St} {Q : VK} {i : Nat} {a : Addr} {ms ns : List MP.V} {xs ys : List V} {v : MP.V} {u : V} (S : Sta L ρ h env σ H) (p : Post L W env σ ρ H (Rep L) Q (.ok v (h.set i (.lst ns)))) (ea : ρ[i]? = some a) (eh : h[i]? = some (.lst ms)) (hx : H a = some (.lst xs))
    (rn : Reps L ρ H ns ys) (rv : Rep L ρ H v u) : Q u (upd H a (.lst ys)) := by
  have l : Le L ρ H ρ (upd H a (.lst ys)) := Le.write hx (fun _ z => nomatch z) fun _ _ z => nomatch z
  exact p ρ _ _ l ⟨S.sim.write ea eh rfl rfl hx (fun _ z => nomatch z) (fun _ _ z => nomatch z) ⟨ys, upd_same, Reps.mono l _ _ rn⟩, S.env.mono l⟩ (Rep.mono l _ _ rv)
theorem lst_at {i : Nat} {ms : List MP.V} {u : V} (S : Sim L ρ h H) (eh : h[i]? = some (.lst ms)) (r : Rep L ρ H (.ref i) u) : ∃ a xs, u = .ref a ∧ ρ[i]? = some a ∧ H a = some (.lst xs) ∧ Reps L ρ H ms xs := by
  obtain ⟨a, ea, rfl⟩ := r
  obtain ⟨xs, e1, r1⟩ := S.obj i a _ ea eh
  exact ⟨a, xs, rfl, ea, e1, r1⟩
theorem mt_appendM : MtR X "list.append" (rBm L W .append) := by
  intro pins s σ H x xs v us Q I rx rs ⟨ρ, h, env, σ', m, vs, S, r1, r2, p⟩
  unfold MP.bmV at p
  split at p <;> try (first | (exact p.elim) | contradiction)
  rename_i i y _
  obtain ⟨w, rfl, r3⟩ := reps1 r2
  split at p
  · rename_i ys eh
    obtain ⟨a, zs, rfl, ea, hx, r4⟩ := lst_at S.sim eh r1
    split at p
    · rename_i hl
      refine mt_append pins s σ H _ _ v us Q I rx rs ⟨a, zs, w, rfl, rfl, hx, by rw [Reps.length _ _ r4, ← LINE_line]; exact hl, ?_⟩
      exact Post.put S p ea eh hx (Reps.app _ _ _ _ r4 ⟨w, [], rfl, r3, rfl⟩) rfl
    · exact p.elim
  · exact p.elim
theorem mt_popM : MtR X "list.pop" (rBm L W .pop) := by
  intro pins s σ H x xs v us Q I rx rs ⟨ρ, h, env, σ', m, vs, S, r1, r2, p⟩
  unfold MP.bmV at p
  split at p <;> try (first | (exact p.elim) | contradiction)
  rename_i i _
  cases r2
  split at p
  · rename_i ys eh
    obtain ⟨a, zs, rfl, ea, hx, r4⟩ := lst_at S.sim eh r1
    split at p
    · rename_i y ey
      have hl := Reps.length _ _ r4
      rw [List.getLast?_eq_getElem?] at ey
      obtain ⟨w, ew, r5⟩ := Reps.get _ _ _ _ r4 ey
      refine mt_pop pins s σ H _ _ v us Q I rx rs ⟨a, zs, w, rfl, rfl, hx, by rw [hl]; exact ew, ?_⟩
      refine Post.put S p ea eh hx ?_ r5
      rw [List.dropLast_eq_take, List.dropLast_eq_take, hl]
      exact Reps.tk _ _ _ r4
    · exact p.elim
  · exact p.elim
theorem mt_joinM (hK : X.K = L.K) : MtR X "str.join" (rBm L W .join) := by
  intro pins s σ H x xs v us Q I rx rs ⟨ρ, h, env, σ', m, vs, S, r1, r2, p⟩
  unfold MP.bmV at p
  split at p <;> try (first | (exact p.elim) | contradiction)
  rename_i sep y _
  obtain ⟨o1, r1⟩ := r1; subst r1
  obtain ⟨w, rfl, r3⟩ := reps1 r2
  split at p
  · rename_i ss es
    obtain ⟨ms, e1, e2⟩ := bind_some' es
    split at p
    · rename_i hl
      have go : ∀ {a : Addr} {zs : List V}, w = .ref a → (SqL X.K H a zs ∨ SqT X.K H a zs) → Reps L ρ H ms zs → wpAny (model X.prog X.w) X.A (call (.builtin "str.join") (v :: us)) (EP X pins σ Q) X.xe s := by
        intro a zs ew t r4
        subst ew
        obtain ⟨h1, h2⟩ := strs_rep e2 r4
        rw [h1] at t
        refine mt_join pins s σ H _ _ v us Q I rx rs ⟨_, a, _, rfl, rfl, t, ?_, ?_⟩
        · rw [List.map_map, List.length_map, stV_len]
          have : (fun (x : Str) => x.length) ∘ (fun s => (⟨List.toArray s⟩ : Str)) = List.length := by funext z; simp [Str.length]
          rw [show (List.map ((fun x => x.length) ∘ fun s => (⟨List.toArray s⟩ : Str)) ss) = ss.map (·.length) by rw [this]]
          exact hl
        · rw [glued_codes, List.map_map]
          have : ((fun p : Str => p.cps.toList) ∘ fun s => (⟨List.toArray s⟩ : Str)) = id := by funext z; simp
          rw [this, List.map_id]
          exact Post.same S p ⟨okS_join o1 h2, rfl⟩
      cases y with
      | tup ys => cases e1; obtain ⟨a, zs, rfl, t, r4⟩ := r3; exact go rfl (.inr (by rw [hK]; exact t)) r4
      | ref i => obtain ⟨a, zs, rfl, t, r4⟩ := listAt_rep S.sim e1 r3; exact go rfl (.inl (by rw [hK]; exact t)) r4
      | _ => cases e1
    · exact p.elim
  · exact p.elim
theorem mt_splitM : MtR X "str.split" (rBm L W .split) := by
  intro pins s σ H x xs v us Q I rx rs ⟨ρ, h, env, σ', m, vs, S, r1, r2, p⟩
  unfold MP.bmV at p
  split at p <;> try (first | (exact p.elim) | contradiction)
  rename_i t c _
  obtain ⟨o1, r1⟩ := r1; subst r1
  obtain ⟨w, rfl, o2, r3⟩ := reps1 r2
  subst r3
  split at p
  · rename_i hl
    refine mt_split pins s σ H _ _ v us Q I rx rs ⟨_, _, rfl, rfl, rfl, by rw [stV_len, ← LINE_line]; exact hl, fun a ha => ?_⟩
    have e : Txt.split ⟨t.toArray⟩ ⟨[c].toArray⟩ = (MP.splitC c t).map fun p => (⟨p.toArray⟩ : Str) := split_codes t c
    rw [e]
    exact Post.lst S p (strs_reps fun q hq => okS_sub o1 fun d hd => splitC_mem hq d hd) ha
  · exact p.elim
theorem mt_countS : MtR X "str.count" (fun y ys H Q => (∃ t, y = stV t) ∧ rBm L W .count y ys H Q) := by
  intro pins s σ H x xs v us Q I rx rs ⟨⟨t0, e0⟩, ρ, h, env, σ', m, vs, S, r1, r2, p⟩
  unfold MP.bmV at p
  split at p <;> try (first | (exact p.elim) | contradiction)
  · obtain ⟨a, _, e⟩ := r1
    rw [e0] at e; cases e
  · rename_i t c _
    obtain ⟨o1, r1⟩ := r1; subst r1
    obtain ⟨w, rfl, o2, r3⟩ := reps1 r2
    subst r3
    split at p
    · refine mt_count pins s σ H _ _ v us Q I rx rs ⟨_, _, rfl, rfl, ?_⟩
      have e : Txt.count ⟨t.toArray⟩ ⟨[c].toArray⟩ = (t.count c : Nat) := count_codes t c
      rw [e]
      exact Post.same S p rfl
    · exact p.elim
theorem mt_indexS : MtR X "str.index" (fun y ys H Q => (∃ t, y = stV t) ∧ rBm L W .index y ys H Q) := by
  intro pins s σ H x xs v us Q I rx rs ⟨⟨t0, e0⟩, ρ, h, env, σ', m, vs, S, r1, r2, p⟩
  unfold MP.bmV at p
  split at p <;> try (first | (exact p.elim) | contradiction)
  · rename_i t c _
    obtain ⟨o1, r1⟩ := r1; subst r1
    obtain ⟨w, rfl, o2, r3⟩ := reps1 r2
    subst r3
    split at p
    · rename_i k ek
      split at p
      · obtain ⟨t1, rfl⟩ := rx
        cases rs with
        | cons q1 rs =>
          cases rs
          obtain ⟨t2, rfl⟩ := q1
          exact PySem.SC.index (index_codes t c k ek) ⟨.int (k : Nat), H, I.tok _, ⟨_, rfl⟩, Post.same S p rfl⟩
      · exact p.elim
    · exact p.elim
  · obtain ⟨a, _, e⟩ := r1
    rw [e0] at e; cases e
theorem mt_indexL (hK : X.K = L.K) : MtR X "list.index" (fun y ys H Q => (∃ a, y = .ref a) ∧ rBm L W .index y ys H Q) := by
  intro pins s σ H x xs v us Q I rx rs ⟨⟨t0, e0⟩, ρ, h, env, σ', m, vs, S, r1, r2, p⟩
  unfold MP.bmV at p
  split at p <;> try (first | (exact p.elim) | contradiction)
  · obtain ⟨_, e⟩ := r1
    rw [e0] at e; cases e
  · rename_i i y _
    obtain ⟨w, rfl, r3⟩ := reps1 r2
    split at p
    · rename_i ys ey
      obtain ⟨a, zs, rfl, t, r4⟩ := listAt_rep S.sim ey r1
      split at p
      · rename_i c
        obtain ⟨c1, c2⟩ := Bool.and_eq_true_iff.mp c
        split at p
        · rename_i k ek
          obtain ⟨hk, h1, h2⟩ := List.findIdx?_eq_some_iff_getElem.mp ek
          obtain ⟨z, hz, rz⟩ := Reps.get _ _ _ _ r4 (List.getElem?_eq_getElem hk)
          have fz : ∀ (m : Nat) (hm : m < ys.length), MP.flat ys[m] = true := fun m hm => List.all_eq_true.mp c2 _ (List.getElem_mem hm)
          refine mt_index pins s σ H _ _ v us Q I rx rs ⟨a, zs, w, k, z, rfl, rfl, by rw [hK]; exact t, flat_rep c1 r3, flats_rep c2 r4, hz, ?_, fun m z' hm hz' => ?_, Post.same S p rfl⟩
          · rw [flatEq_rep (fz k hk) c1 rz r3]; exact h1
          · have hl := Reps.length _ _ r4
            obtain ⟨q1, q2⟩ := Reps.get _ _ m _ r4 (List.getElem?_eq_getElem (show m < ys.length by omega))
            rw [hz'] at q2
            cases q2.1
            rw [flatEq_rep (fz m (by omega)) c1 q2.2 r3]
            simpa using h2 m hm
        · exact p.elim
      · exact p.elim
    · exact p.elim
theorem mt_countL (hK : X.K = L.K) : MtR X "list.count" (fun y ys H Q => (∃ a, y = .ref a) ∧ rBm L W .count y ys H Q) := by
  intro pins s σ H x xs v us Q I rx rs ⟨⟨t0, e0⟩, ρ, h, env, σ', m, vs, S, r1, r2, p⟩
  unfold MP.bmV at p
  split at p <;> try (first | (exact p.elim) | contradiction)
  · rename_i i k _
    obtain ⟨w, rfl, r3⟩ := reps1 r2
    cases r3
    split at p
    · rename_i is ei
      obtain ⟨ms, e1, e2⟩ := bind_some' ei
      obtain ⟨a, zs, rfl, t, r4⟩ := listAt_rep S.sim e1 r1
      have ez := ints_rep e2 r4
      subst ez
      exact mt_lcount pins s σ H _ _ v us Q I rx rs ⟨a, is, k, rfl, rfl, by rw [hK]; exact t, Post.same S p rfl⟩
    · exact p.elim
  · obtain ⟨_, e⟩ := r1
    rw [e0] at e; cases e
end
end MPS
end

section
set_option Elab.async false
set_option linter.all false
set_option maxRecDepth 100000
set_option maxHeartbeats 1000000
namespace MPS
open PySem PySem.Spec PyProof.Rows L2

/-! ### exceptions, calls -/
/-- its fields: none, or flat values -/
def XFs (L : Lk) (H : Hp) (d : Option Addr) (x : MP.XV) : Prop :=
  (x.fs = [] ∧ d = none) ∨ (x.fs ≠ [] ∧ ∃ (dx : Addr) (ofs : List (Str × V)), d = some dx ∧ H dx = some (.xd ofs) ∧
    ∀ f v, x.fs.lookup f = some v → PySem.W.findIn L.K (.ref (L.ca x.c)) (L.an f) = some none ∧ ∃ u, ofs.lookup (L.an f) = some u ∧ ∀ ρ H', Rep L ρ H' v u)
theorem XFs.mono {L : Lk} {ρ ρ' : List Addr} {H H' : Hp} {d : Option Addr} {x : MP.XV} (l : Le L ρ H ρ' H') : XFs L H d x → XFs L H' d x
  | .inl z => .inl z
  | .inr ⟨z, dx, ofs, e1, e2, k⟩ => .inr ⟨z, dx, ofs, e1, l.xd _ _ e2, k⟩
def XRep (L : Lk) (H : Hp) (cls : Value) (d : Option Addr) (x : MP.XV) : Prop := cls = .ref (L.ca x.c) ∧ XFs L H d x ∧ x.c ∈ L.exs
/-- what __init__ of a class with two fields does -/
def spI (C : Addr) (f1 f2 : Str) : Sp := fun vs H Q _ => ∃ (a : Addr) (y1 y2 : V), vs = [.ref a, y1, y2] ∧ H a = some (exo a C none) ∧
  ∀ dx, H dx = none → dx ≠ a → Q .non (upd (upd (upd H dx (exd dx [(f1, y1)])) a (exo a C (some dx))) dx (exd dx [(f2, y2), (f1, y1)]))
/-- what is wished for of an exception in the air -/
def Wt (L : Lk) (W : WM) : WX := fun cls d σ H => ∃ ρ h env x, Sta L ρ h env σ H ∧ XRep L H cls d x ∧ W x env h ρ H
/-- the promise of a function -/
def spM (L : Lk) (call : List MP.V → MP.Heap → MP.Res MP.V) : Sp := fun vs H Q E => ∃ ρ h as, Sim L ρ h H ∧ Reps L ρ H as vs ∧ match call as h with
  | .ok v h' => ∀ (ρ' : List Addr) (H' : Hp) (u : V), Le L ρ H ρ' H' → Sim L ρ' h' H' → Rep L ρ' H' v u → Q u H'
  | .exc x h' => ∀ (ρ' : List Addr) (H' : Hp) (cls : Value) (d : Option Addr), Le L ρ H ρ' H' → Sim L ρ' h' H' → XRep L H' cls d x → E cls d H'
  | .stuck => False
/-- how a call's arguments are bound: n positional ones, the keywords kn, called names -/
structure Bnd (L : Lk) (fd : FuncData) (ps : List Str) (F : MP.FnD) (n : Nat) (kn : List Nat) (names : List Str) : Prop where
  ex : ∃ g : List Value → List Value → List Value,
    (∀ (s : Shared) (us ws : List Value), L.K.In s.heap → us.length = n → ws.length = names.length → BindsTo s fd ⟨us, names.zip ws⟩ (ps.zip (g us ws))) ∧
    ∀ (ρ : List Addr) (H : Hp) (ms ks as : List MP.V) (vs zs : List V) (us ws : List Value), Reps L ρ H ms vs → Reps L ρ H ks zs → Vals vs us → Vals zs ws → ms.length = n → ks.length = kn.length → MP.bindF F ms (kn.zip ks) = some as →
      ∃ xs, Reps L ρ H as xs ∧ Vals xs (g us ws)
/-- the text's names: functions, constants by name; calls by their pattern (function, positional ones, keywords with their names) -/
structure Tx where
  fns : List (Str × Nat)
  clss : List (Str × Nat)
  glb : List (Str × Nat)
  free : List Str
  ats : List (Str × Nat)
  xcl : List Nat
  pats : List (Nat × Nat × List Nat × List Str)
/-- a function that may be called here -/
structure FnF (L : Lk) (C : MP.Ctx) (X : Cx) (T : Tx) (f : Nat) : Prop where
  kp : PySem.W.keepIn X.K (.ref (L.fa f)) = true
  ok : ∀ F, C.P.fns f = some F → ∃ fd ps k, FnOk X.prog X.w X.K X.mg X.base (L2.CX X.prog X.w) k (L.fa f) fd ps (spM L (C.call f)) ∧ Room k X.A ∧ ∀ n kn names, (f, n, kn, names) ∈ T.pats → Bnd L fd ps F n kn names
/-- how one with two fields is made -/
structure ExcI (L : Lk) (X : Cx) (c f1 f2 : Nat) : Prop where
  ox : OexC X.K (L.ca c)
  fn : ∃ (fI : Addr) (fd : FuncData) (ps : List Str), PySem.W.findIn X.K (.ref (L.ca c)) "__init__" = some (some (.ref fI)) ∧ PySem.W.typeIn X.K (.ref fI) = some (.type "function") ∧ L2.Binds X.K fd ps [] ∧
    FnOk X.prog X.w X.K X.mg X.base (L2.CX X.prog X.w) 1 fI fd ps (spI (L.ca c) (L.an f1) (L.an f2))
  n1 : PySem.W.findIn X.K (.ref (L.ca c)) (L.an f1) = some none
  n2 : PySem.W.findIn X.K (.ref (L.ca c)) (L.an f2) = some none
  ne : L.an f1 ≠ L.an f2
  nf : f1 ≠ f2
/-- an exception class -/
structure ExcF (L : Lk) (C : MP.Ctx) (X : Cx) (c : Nat) : Prop where
  kp : PySem.W.keepIn X.K (.ref (L.ca c)) = true
  rs : Raises X (.ref (L.ca c))
  ci : ExcC X.K (L.ca c)
  mke : ∃ K, C.P.cls c = some K ∧ ((K.xfs = [] ∧ ∃ B newId initId bmB, PySem.ExcBaseFacts B newId initId bmB ∧ PySem.W.excIn X.K (L.ca c) bmB newId = true) ∨ ∃ f1 f2, K.xfs = [f1, f2] ∧ ExcI L X c f1 f2)
  sup : ∃ K, C.P.cls c = some K ∧ ∀ c' ∈ L.exs, PySem.W.exmOne X.K (.ref (L.ca c)) (.ref (L.ca c')) = some (K.sup.contains c') ∧ PySem.W.kitOne X.K (.ref (L.ca c)) (.ref (L.ca c')) = some (K.sup.contains c')
structure Gd (L : Lk) (C : MP.Ctx) (X : Cx) (T : Tx) (W : WM) : Prop where
  hK : X.K = L.K
  calm : X.calm = true
  nd : X.N.Nodup
  un : X.A.units + 150 < cLine
  rm : Room 2 X.A
  tk : Takes X (Wt L W)
  fns : ∀ x f, T.fns.lookup x = some f → X.mg x = some (.ref (L.fa f)) ∧ FnF L C X T f
  glb : ∀ x g v, T.glb.lookup x = some g → C.P.glb g = some v → ∃ u u', X.mg x = some u' ∧ RelV u u' ∧ ∀ ρ H, Rep L ρ H v u
  free : ∀ x ∈ T.free, X.mg x = none
  clss : ∀ x c, T.clss.lookup x = some c → X.mg x = some (.ref (L.ca c)) ∧ c ∈ L.exs
  exc : ∀ c ∈ L.exs, ExcF L C X c
  ats : ∀ x f, T.ats.lookup x = some f → L.an f = x
  xcl : ∀ c ∈ T.xcl, ∃ K f1 f2, C.P.cls c = some K ∧ K.xfs = [f1, f2]
/-- in another context of the same function -/
theorem ExcF.to {L : Lk} {C : MP.Ctx} {X X' : Cx} {c : Nat} (F : ExcF L C X c) (rs : Raises X' (.ref (L.ca c))) (hK : X'.K = X.K) (hi : ∀ f1 f2, ExcI L X c f1 f2 → ExcI L X' c f1 f2) : ExcF L C X' c := by
  obtain ⟨K, k1, k2⟩ := F.mke
  refine ⟨by rw [hK]; exact F.kp, rs, by rw [hK]; exact F.ci, ⟨K, k1, ?_⟩, by rw [hK]; exact F.sup⟩
  rcases k2 with ⟨e, B, n, i, b, z⟩ | ⟨f1, f2, e, z⟩
  · exact .inl ⟨e, B, n, i, b, by rw [hK]; exact z⟩
  · exact .inr ⟨f1, f2, e, hi _ _ z⟩
theorem Post.call {L : Lk} {W : WM} {env : MP.Env} {σ : L2.St} {ρ : List Addr} {H : Hp} {h : MP.Heap} {Q : VK} {call : List MP.V → MP.Heap → MP.Res MP.V} {as : List MP.V} {vs : List V} (S : Sta L ρ h env σ H) (r : Reps L ρ H as vs)
    (p : Post L W env σ ρ H (Rep L) Q (call as h)) : spM L call vs H Q (fun cls d H' => Wt L W cls d σ H') := by
  refine ⟨ρ, h, as, S.sim, r, ?_⟩
  cases e : call as h with
  | ok v h' => rw [e] at p; exact fun ρ' H' u l s q => p ρ' H' u l ⟨s, S.env.mono l⟩ q
  | exc x h' => rw [e] at p; exact fun ρ' H' cls d l s q => ⟨ρ', h', env, x, ⟨s, S.env.mono l⟩, q, p ρ' H' l⟩
  | stuck => rw [e] at p; exact p
/-- f(us, names = ws) by values -/
theorem run_callM {L : Lk} {C : MP.Ctx} {X : Cx} {T : Tx} {W : WM} (G : Gd L C X T W) {f : Nat} (FF : FnF L C X T f) {n : Nat} {kn : List Nat} {names : List Str} (hp : (f, n, kn, names) ∈ T.pats) {pins : List (Addr × Obj)} {s : Shared} {σ : L2.St} {H : Hp} {Q : VK}
    {us ws : List Value} {vs zs : List V} {ρ : List Addr} {h : MP.Heap} {env : MP.Env} {ms ks as : List MP.V} {F : MP.FnD} (I : Inv X pins σ H s) (ru : Vals vs us) (rw_ : Vals zs ws) (rm : Reps L ρ H ms vs) (rk : Reps L ρ H ks zs)
    (hn : ms.length = n) (hk : ks.length = kn.length) (hnm : kn.length = names.length) (hF : C.P.fns f = some F) (hb : MP.bindF F ms (kn.zip ks) = some as) (S : Sta L ρ h env σ H) (p : Post L W env σ ρ H (Rep L) Q (C.call f as h)) :
    wpAny (model X.prog X.w) X.A (call (.ref (L.fa f)) us (names.zip ws)) (EP X pins σ Q) X.xe s := by
  obtain ⟨fd, ps, k, FO, room, B⟩ := FF.ok F hF
  obtain ⟨g, g1, g2⟩ := (B n kn names hp).ex
  have l1 : us.length = n := by rw [← ru.length, Reps.length _ _ rm, hn]
  have l2 : ws.length = names.length := by rw [← rw_.length, Reps.length _ _ rk, hk, hnm]
  obtain ⟨xs, rx, vx⟩ := g2 ρ H ms ks as vs zs us ws rm rk ru rw_ hn hk hb
  have hsp := Post.call S rx p
  refine wpAny_call (codeAny_mono (FO.run X.A X.stack s H ⟨us, names.zip ws⟩ (g us ws) xs Q _ room I.env0 (g1 s us ws (by rw [← G.hK]; exact I.kIn) l1 l2) vx hsp) fun r s' hq => ?_)
  cases r with
  | error e => exact passAt G.tk σ pins H s e s' I hq
  | ok fl =>
    cases fl with
    | ret u => exact I.after hq
    | next => exact False.elim hq
    | brk => exact False.elim hq
    | cont => exact False.elim hq
end MPS
end

section
set_option Elab.async false
set_option linter.all false
set_option maxRecDepth 100000
set_option maxHeartbeats 2000000
namespace MPS
open PySem PySem.Spec PyProof.Rows L2

/-! ### which written expression an expression of M is -/
def litOk : MP.V → Const → Bool
  | .non, .none => true
  | .bl b, .bool c => b == c
  | .int i, .int j => decide (i = j)
  | .str s, .str x => decide (x.cps = s.toArray) && okS s
  | _, _ => false
def visB (sc : Scope) (x : Str) : Bool := match sc.names.lookup x with
  | some .local => true
  | some .cell => true
  | some .free => true
  | _ => false
def plainB : Expr → Bool
  | .Slice .. => false
  | .Starred .. => false
  | _ => true
def noIf : Expr → Bool
  | .IfExp .. => false
  | _ => true
def dbg (x : Str) : Bool := (x == ("__debug__" : Str)) || (x == ("__classdict__" : Str)) || decide (x = ("__name__" : Str))
def glB (sc : Scope) (x : Str) : Bool := decide (sc.names.lookup x = some .globalImplicit) && !dbg x
def biN : MP.Bi → Str
  | .len => "len" | .abs => "abs" | .all => "all" | .any => "any" | .sum => "sum" | .max2 => "max" | .min2 => "min" | .str => "str" | .int => "int" | .tuple => "tuple" | .list => "list" | .lzip => "list" | .lrng => "list" | .sset => "sorted" | _ => "isinstance"
def tyN : MP.Bi → Str
  | .isint => "int" | .isbool => "bool" | .isstr => "str" | .istuple => "tuple" | .islist => "list" | _ => "dict"
/-- a plain call, an isinstance, none -/
def biK : MP.Bi → Nat
  | .isint => 1 | .isbool => 1 | .isstr => 1 | .istuple => 1 | .islist => 1 | .isdict => 1 | .lzip => 2 | .lrng => 3 | .sset => 4 | .ninrng => 5 | _ => 0
def bmN : MP.Bm → Str
  | .append => "append" | .join => "join" | .split => "split" | .pop => "pop" | .index => "index" | .count => "count" | .get2 => "get"
def kwB : List Str → List Keyword → Bool
  | [], [] => true
  | n :: ns, ⟨some m, _, _⟩ :: ks => decide (n = m) && kwB ns ks
  | _, _ => false
def kwE : List Keyword → List Expr
  | [] => []
  | ⟨_, e, _⟩ :: r => e :: kwE r
/-- a name of the block's own -/
def locB (sc : Scope) (x : Str) : Bool := match sc.names.lookup x with
  | some .local => true
  | some .cell => true
  | _ => false
theorem locB_or {sc : Scope} {x : Str} (h : locB sc x = true) : sc.names.lookup x = some .local ∨ sc.names.lookup x = some .cell := by
  unfold locB at h
  split at h
  · exact .inl ‹_›
  · exact .inr ‹_›
  · cases h
mutual
def tgB (N : List Str) (sc : Scope) : MP.Tg → Expr → Bool
  | .nm i, .Name x _ => decide (N[i]? = some x) && locB sc x
  | .tp ts, .Tuple xs _ _ => tgsB N sc ts xs
  | _, _ => false
def tgsB (N : List Str) (sc : Scope) : List MP.Tg → List Expr → Bool
  | [], [] => true
  | t :: ts, x :: xs => tgB N sc t x && tgsB N sc ts xs
  | _, _ => false
end
mutual
def tgI (vs : List Nat) : MP.Tg → Bool
  | .nm i => vs.contains i
  | .tp ts => tgsI vs ts
def tgsI (vs : List Nat) : List MP.Tg → Bool
  | [] => true
  | t :: ts => tgI vs t && tgsI vs ts
end
def noSet : Expr → Bool
  | .Set .. => false
  | _ => true
def isTup : Expr → Bool
  | .Tuple .. => true
  | _ => false
/-- no call of super ahead of a dot -/
def noCall : Expr → Bool
  | .Call .. => false
  | _ => true
structure Ck where
  T : Tx
  N : List Str
mutual
def ckE (c : Ck) : Nat → Scope → MP.Ex → Expr → Bool
  | 0, _, _, _ => false
  | n + 1, sc, .lit v, .Constant k _ _ => litOk v k
  | n + 1, sc, .var i, .Name x _ => visB sc x && decide (c.N[i]? = some x) && !dbg x
  | n + 1, sc, .glob g, .Name x _ => glB sc x && decide (c.T.glb.lookup x = some g)
  | n + 1, sc, .tup es, .Tuple xs _ _ => decide (xs.length ≤ 1000) && ckEs c n sc es xs
  | n + 1, sc, .lst es, .List xs _ => decide (xs.length ≤ 1000) && ckEs c n sc es xs
  | n + 1, sc, .bin op a b, .BinOp l o r _ => decide (o = opP op) && (ckE c n sc a l && ckE c n sc b r)
  | n + 1, sc, .neg a, .UnaryOp .USub x _ => ckE c n sc a x
  | n + 1, sc, .not_ a, .UnaryOp .Not x _ => ckE c n sc a x && noIf x
  | n + 1, sc, .and_ a b, .BoolOp .And (x :: y :: r) _ => ckE c n sc a x && noIf x && ckB c n sc .And b (y :: r)
  | n + 1, sc, .or_ a b, .BoolOp .Or (x :: y :: r) _ => ckE c n sc a x && noIf x && ckB c n sc .Or b (y :: r)
  | n + 1, sc, .cmp op a b, .Compare l [o] [r] _ => decide (o = cmpP op) && (ckE c n sc a l && ckE c n sc b r) && !behindInMarks o r
  | n + 1, sc, .chain o1 o2 a b d, .Compare l [p1, p2] [r, t] _ => decide (p1 = cmpP o1 ∧ p2 = cmpP o2) && (ckE c n sc a l && (ckE c n sc b r && ckE c n sc d t)) && !(behindInMarks p2 t)
  | n + 1, sc, .ite t a b, .IfExp x y z _ => ckE c n sc t x && noIf x && (ckE c n sc a y && ckE c n sc b z)
  | n + 1, sc, .idx a i, .Subscript x y _ => plainB y && (ckE c n sc a x && ckE c n sc i y)
  | n + 1, sc, .slc a lo hi, .Subscript x (.Slice l u none _) _ => ckE c n sc a x && (ckP c n sc lo l && ckP c n sc hi u)
  | n + 1, sc, .rev a, .Subscript x (.Slice none none (some (.UnaryOp .USub (.Constant (.int i) _ _) _)) _) _ => decide (i = 1) && ckE c n sc a x
  | n + 1, sc, .callf f es kn ks, .Call (.Name x _) as kws _ => glB sc x && decide (c.T.fns.lookup x = some f) && ckEs c n sc es as && ckEs c n sc ks (kwE kws) &&
      c.T.pats.any fun p => decide (p.1 = f ∧ p.2.1 = es.length ∧ p.2.2.1 = kn ∧ kn.length = p.2.2.2.length ∧ kn.length = ks.length) && kwB p.2.2.2 kws
  | n + 1, sc, .callb b es, .Call (.Name x _) as [] _ => glB sc x && decide (x = biN b) && c.T.free.contains x &&
      (match biK b, as with
        | 1, [e, .Name t _] => glB sc t && decide (t = tyN b) && c.T.free.contains t && (match es with
          | [m] => plainB e && ckE c n sc m e
          | _ => false)
        | 0, e :: as => ckEs c n sc es (e :: as)
        | 2, [.Call (.Name y _) [e1, e2] [] _] => decide (y = "zip") && glB sc y && c.T.free.contains y && ckEs c n sc es [e1, e2]
        | 3, [.Call (.Name y _) [e1] [] _] => decide (y = "range") && glB sc y && c.T.free.contains y && (match es with
          | [m] => plainB e1 && ckE c n sc m e1
          | _ => false)
        | 4, [.Call (.Name y _) [e1] [] _] => decide (y = "set") && glB sc y && c.T.free.contains y && (match es with
          | [m] => plainB e1 && ckE c n sc m e1
          | _ => false)
        | _, _ => false)
  | n + 1, sc, .callb b es, .Compare l [.NotIn] [.Call (.Name y _) [e1] [] _] _ => decide (biK b = 5) && decide (y = "range") && glB sc y && c.T.free.contains y &&
      (match es with
        | [m1, m2] => ckE c n sc m1 l && (plainB e1 && ckE c n sc m2 e1)
        | _ => false)
  | n + 1, sc, .bmeth o m es, .Call (.Attribute x a apos) as [] pos => decide (a = bmN m) && decide (apos.endLine = pos.line) && decide (as.length < 20) && (ckE c n sc o x && ckEs c n sc es as) && noCall x
  | n + 1, sc, .comp elt tg k ss tests own, .ListComp e [⟨t, i, ifs, 0⟩] s2 _ => ckE c n s2 elt e && (tgB c.N s2 tg t && tgI own tg) && ckI c n sc t k ss i && ckTs c n s2 tests ifs && blkC c.N sc s2 (own.map fun j => ((c.N[j]?).getD "", j))
  | n + 1, sc, .comp2 elt tg k ss tg2 m2 own, .ListComp e [⟨t, i, [], 0⟩, ⟨t2, i2, [], 0⟩] s2 _ => ckE c n s2 elt e && (tgB c.N s2 tg t && tgI own tg) && (tgB c.N s2 tg2 t2 && tgI tg2.names tg2 && tg2.names.all own.contains) && ckI c n sc t k ss i && (noSet i2 && ckE c n s2 m2 i2) && blkC c.N sc s2 (own.map fun j => ((c.N[j]?).getD "", j))
  | _ + 1, _, _, _ => false
def ckEs (c : Ck) : Nat → Scope → List MP.Ex → List Expr → Bool
  | 0, _, _, _ => false
  | n + 1, _, [], [] => true
  | n + 1, sc, m :: ms, e :: es => plainB e && (ckE c n sc m e && ckEs c n sc ms es)
  | _ + 1, _, _, _ => false
/-- the rest of an and, an or -/
def ckB (c : Ck) : Nat → Scope → BoolOp → MP.Ex → List Expr → Bool
  | 0, _, _, _, _ => false
  | n + 1, sc, op, m, [x] => ckE c n sc m x && noIf x
  | n + 1, sc, .And, .and_ a b, x :: y :: r => ckE c n sc a x && noIf x && ckB c n sc .And b (y :: r)
  | n + 1, sc, .Or, .or_ a b, x :: y :: r => ckE c n sc a x && noIf x && ckB c n sc .Or b (y :: r)
  | _ + 1, _, _, _, _ => false
/-- a slice's part -/
def ckP (c : Ck) : Nat → Scope → List MP.Ex → Option Expr → Bool
  | 0, _, _, _ => false
  | n + 1, _, [], none => true
  | n + 1, sc, [m], some e => ckE c n sc m e
  | _ + 1, _, _, _ => false
/-- what is walked -/
def ckI (c : Ck) : Nat → Scope → Expr → MP.Src → List MP.Ex → Expr → Bool
  | 0, _, _, _, _, _ => false
  | n + 1, sc, t, k, ss, e => match k with
    | .val => (match ss with
      | [m] => plainB e && noSet e && ckE c n sc m e
      | _ => false)
    | .range => (match e with
      | .Call (.Name x _) as [] _ => decide (x = "range") && glB sc x && c.T.free.contains x && ckEs c n sc ss as && decide (1 ≤ as.length ∧ as.length ≤ 3)
      | _ => false)
    | .enum => (match e with
      | .Call (.Name x _) as [] _ => decide (x = "enumerate") && glB sc x && c.T.free.contains x && ckEs c n sc ss as && decide (as.length = 1) && isTup t
      | _ => false)
    | .zip => (match e with
      | .Call (.Name x _) as [] _ => decide (x = "zip") && glB sc x && c.T.free.contains x && ckEs c n sc ss as && decide (as.length = 2) && isTup t
      | _ => false)
def ckTs (c : Ck) : Nat → Scope → List MP.Ex → List Expr → Bool
  | 0, _, _, _ => false
  | n + 1, _, [], [] => true
  | n + 1, sc, [m], [e] => ckE c n sc m e && noIf e
  | _ + 1, _, _, _ => false
end
end MPS
end

section
set_option Elab.async false
set_option linter.all false
set_option maxRecDepth 100000
set_option maxHeartbeats 2000000
namespace MPS
open PySem PySem.Spec PyProof.Rows L2

abbrev tv (C : MP.Ctx) (m : MP.Ex) : MP.Env → MP.Heap → MP.Res Bool := fun env h => MP.truth (MP.evE C m env h)
section
variable {L : Lk} {C : MP.Ctx} {X : Cx} {T : Tx} {W : WM} {N : List Str} {sc : Scope}
theorem dbg_no {x : Str} (h : dbg x = false) : (x == ("__debug__" : Str)) = false ∧ (x == ("__classdict__" : Str)) = false ∧ x ≠ "__name__" := by
  unfold dbg at h
  simp only [Bool.or_eq_false_iff, decide_eq_false_iff_not] at h
  exact ⟨h.1.1, h.1.2, h.2⟩
theorem s_lit {v : MP.V} {k : Const} {j : Nat} {pos : Pos} (h : litOk v k = true) : PE X (.Constant k j pos) (tE L W (MP.evE C (.lit v))) := by
  have go : ∀ {u : V}, PE X (.Constant k j pos) (tC u) → (∀ ρ H, Rep L ρ H v u) → PE X (.Constant k j pos) (tE L W (MP.evE C (.lit v))) := fun {u} p r =>
    p.imp fun σ H Q ⟨ρ, h, env, S, q⟩ => Post.same S (by simpa only [MP.evE] using q) (r ρ H)
  unfold litOk at h
  split at h
  · exact go pe_non fun _ _ => rfl
  · have := eq_of_beq h; subst this; exact go pe_bl fun _ _ => rfl
  · have := of_decide_eq_true h; subst this; exact go pe_int fun _ _ => rfl
  · rename_i s x
    rw [Bool.and_eq_true] at h
    have e := of_decide_eq_true h.1
    obtain ⟨cs⟩ := x
    dsimp only at e
    subst e
    exact go pe_str fun _ _ => ⟨h.2, rfl⟩
  · cases h
theorem vis_of {x : Str} (h : visB sc x = true) : Vis sc x := by
  unfold visB at h
  unfold Vis
  split at h <;> simp_all
theorem s_var {i : Nat} {x : Str} {pos : Pos} (hN : X.N[i]? = some x) (hv : Vis X.env.scope x) (hd : dbg x = false) : PE X (.Name x pos) (tE L W (MP.evE C (.var i))) := by
  obtain ⟨d1, d2, _⟩ := dbg_no hd
  refine (pe_var hN hv d1 d2).imp fun σ H Q ⟨ρ, h, env, S, q⟩ => ?_
  simp only [MP.evE] at q
  cases e : env[i]? with
  | none => rw [e] at q; exact q.elim
  | some o =>
    rw [e] at q
    cases o with
    | none => exact q.elim
    | some v =>
      obtain ⟨u, e1, r⟩ := S.env.at_ i v e
      exact ⟨u, e1, Post.same S q r⟩
/-- a scope at its checking, and as it stands in a run (in a comprehension, free names may be cells) -/
def SR (a b : Scope) : Prop := ∀ x k, b.names.lookup x = some k → a.names.lookup x = some k ∨ (k = .free ∧ a.names.lookup x = some .cell)
theorem SR.refl {a : Scope} : SR a a := fun _ _ h => .inl h
theorem SR.keep {a b : Scope} (h : SR a b) {x : Str} {k : NameKind} (e : b.names.lookup x = some k) (n : k ≠ .free) : a.names.lookup x = some k := (h x k e).elim id fun z => (n z.1).elim
theorem SR.vis {a b : Scope} (h : SR a b) {x : Str} (v : visB b x = true) : Vis a x := by
  unfold visB at v
  unfold Vis
  split at v
  · rename_i e; exact .inl (h.keep e (by decide))
  · rename_i e; exact .inr (.inl (h.keep e (by decide)))
  · rename_i e
    rcases h _ _ e with z | ⟨_, z⟩
    · exact .inr (.inr z)
    · exact .inr (.inl z)
  · cases v
theorem relabel_look {env : Env} : ∀ {names : List (Str × NameKind)} {x : Str} {k : NameKind}, names.lookup x = some k →
    (names.map fun (n, k) => if (k == NameKind.free && env.scope.kind == .function && env.kindOf n == some .cell) then (n, NameKind.cell) else (n, k)).lookup x = some k ∨
    (k = .free ∧ (names.map fun (n, k) => if (k == NameKind.free && env.scope.kind == .function && env.kindOf n == some .cell) then (n, NameKind.cell) else (n, k)).lookup x = some .cell)
  | [], _, _, h => by simp at h
  | (n, k') :: r, x, k, h => by
    have ih := @relabel_look env r x k
    simp only [List.map_cons]
    cases hx : x == n with
    | true =>
      simp only [List.lookup_cons, hx] at h
      have h : k' = k := Option.some.inj h
      subst h
      by_cases hc : (k' == NameKind.free && env.scope.kind == .function && env.kindOf n == some .cell) = true
      · rw [if_pos hc]
        simp only [Bool.and_eq_true] at hc
        have : k' = .free := by
          have := hc.1.1
          cases k' <;> first | rfl | (exact absurd this (by decide))
        exact .inr ⟨this, by simp only [List.lookup_cons, hx]⟩
      · rw [if_neg hc]; exact .inl (by simp only [List.lookup_cons, hx])
    | false =>
      simp only [List.lookup_cons, hx] at h
      by_cases hc : (k' == NameKind.free && env.scope.kind == .function && env.kindOf n == some .cell) = true
      · rw [if_pos hc]; simp only [List.lookup_cons, hx]; exact ih h
      · rw [if_neg hc]; simp only [List.lookup_cons, hx]; exact ih h
theorem SR.blk {scope : Scope} {env : Env} : SR (relabel scope env) scope := fun x k h => relabel_look h
theorem gl_of {x : Str} (hS : SR X.env.scope sc) (h : glB sc x = true) : Gl X x ∧ (x == ("__debug__" : Str)) = false ∧ x ≠ "__name__" := by
  unfold glB at h
  rw [Bool.and_eq_true, Bool.not_eq_true'] at h
  obtain ⟨d1, d2, d3⟩ := dbg_no h.2
  refine ⟨?_, d1, d3⟩
  show X.env.scope.names.lookup x = some .globalImplicit
  exact hS.keep (of_decide_eq_true h.1) (by decide)
theorem s_glob (G : Gd L C X T W) {g : Nat} {x : Str} {pos : Pos} (hS : SR X.env.scope sc) (h : glB sc x = true) (hg : T.glb.lookup x = some g) : PE X (.Name x pos) (tE L W (MP.evE C (.glob g))) := by
  obtain ⟨h1, h2, _⟩ := gl_of hS h
  cases e : C.P.glb g with
  | none => exact ⟨fun pins s σ H Q I ⟨ρ, h, env, S, q⟩ => by simp only [MP.evE] at q; rw [e] at q; exact q.elim⟩
  | some v =>
    obtain ⟨u, u', m, r, k⟩ := G.glb x g v hg e
    refine (pe_glob h1 m r h2).imp fun σ H Q ⟨ρ, h, env, S, q⟩ => ?_
    simp only [MP.evE] at q
    rw [e] at q
    exact Post.same S q (k ρ H)
theorem s_nil : PA X [] (tA L W (MP.evEs C [])) := pa_nil.imp fun σ H Q ⟨ρ, h, env, S, q⟩ => by
  simp only [MP.evEs] at q
  exact q ρ H [] Le.refl S rfl
theorem star_plain {e : Expr} {es : List Expr} {env : Env} (h : plainB e = true) : starEach (e :: es) env = (false, eval e env) :: starEach es env := by
  cases e <;> first | rfl | cases h
theorem s_cons {m : MP.Ex} {ms : List MP.Ex} {e : Expr} {es : List Expr} (hp : plainB e = true) (h1 : PE X e (tE L W (MP.evE C m))) (h2 : PA X es (tA L W (MP.evEs C ms))) : PA X (e :: es) (tA L W (MP.evEs C (m :: ms))) := by
  refine (pa_cons h1 h2 (star_plain hp)).imp fun σ H Q ⟨ρ, h, env, S, q⟩ => ?_
  simp only [MP.evEs] at q
  refine ⟨ρ, h, env, S, q.bind.imp fun u H1 ⟨ρ1, h1, v, l1, S1, r1, p1⟩ => ?_⟩
  refine ⟨ρ1, h1, env, S1, p1.bind.imp fun us H2 ⟨ρ2, h2, vs, l2, S2, r2, p2⟩ => ?_⟩
  exact p2 ρ2 H2 (u :: us) Le.refl S2 ⟨u, us, rfl, Rep.mono l2 _ _ r1, r2⟩
theorem s_tup {ms : List MP.Ex} {es : List Expr} {k : Nat} {pos : Pos} (hl : es.length ≤ 1000) (hm : ∀ env h vs h', MP.evEs C ms env h = .ok vs h' → vs.length = es.length) (h : PA X es (tA L W (MP.evEs C ms))) : PE X (.Tuple es k pos) (tE L W (MP.evE C (.tup ms))) := by
  refine (pe_tup h).imp fun σ H Q ⟨ρ, h, env, S, q⟩ => ?_
  simp only [MP.evE] at q
  cases e : MP.evEs C ms env h with
  | ok vs h' =>
    have hlen := hm env h vs h' e
    rw [e] at q
    refine ⟨ρ, h, env, S, ?_⟩
    rw [e]
    intro ρ' H' us l s r
    refine ⟨?_, fun p hp => ?_⟩
    · rw [Reps.length _ _ r, hlen, sizeLine_eq]; omega
    · exact Post.tup s (Post.mono l q) r hp
  | exc x h' => rw [e] at q; exact ⟨ρ, h, env, S, by rw [e]; exact q⟩
  | stuck => rw [e] at q; exact q.elim
theorem s_lst {ms : List MP.Ex} {es : List Expr} {pos : Pos} (hl : es.length ≤ 1000) (hm : ∀ env h vs h', MP.evEs C ms env h = .ok vs h' → vs.length = es.length) (h : PA X es (tA L W (MP.evEs C ms))) : PE X (.List es pos) (tE L W (MP.evE C (.lst ms))) := by
  refine (pe_lst h).imp fun σ H Q ⟨ρ, h, env, S, q⟩ => ?_
  simp only [MP.evE] at q
  cases e : MP.evEs C ms env h with
  | ok vs h' =>
    have hlen := hm env h vs h' e
    rw [e] at q
    refine ⟨ρ, h, env, S, ?_⟩
    rw [e]
    intro ρ' H' us l s r
    refine ⟨?_, fun p hp => ?_⟩
    · rw [Reps.length _ _ r, hlen, sizeLine_eq]; omega
    · exact Post.lst s (Post.mono l q) r hp
  | exc x h' => rw [e] at q; exact ⟨ρ, h, env, S, by rw [e]; exact q⟩
  | stuck => rw [e] at q; exact q.elim
theorem s_bin (G : Gd L C X T W) {op : MP.Op} {a b : MP.Ex} {l r : Expr} {pos : Pos} (h1 : PE X l (tE L W (MP.evE C a))) (h2 : PE X r (tE L W (MP.evE C b))) : PE X (.BinOp l (opP op) r pos) (tE L W (MP.evE C (.bin op a b))) := by
  refine (pe_op (op_bin (W := W) G.hK op) h1 h2).imp fun σ H Q q => ?_
  simp only [MP.evE] at q
  exact tE_bind2 (fun ρ h env σ v w x y H S r1 r2 p => ⟨ρ, h, env, σ, v, w, S, r1, r2, p⟩) q
theorem s_neg {a : MP.Ex} {x : Expr} {pos : Pos} (h1 : PE X x (tE L W (MP.evE C a))) : PE X (.UnaryOp .USub x pos) (tE L W (MP.evE C (.neg a))) := by
  refine (pe_un un_neg h1).imp fun σ H Q q => ?_
  simp only [MP.evE] at q
  refine tE_bind1 (r := fun x H Q => rU (fun i => .int (-i)) x H Q) (fun ρ h env σ v x H S r p => ?_) q
  cases v with
  | int i => cases r; exact ⟨i, rfl, Post.same S p rfl⟩
  | _ => exact (show False from p).elim
theorem s_cmp (G : Gd L C X T W) {op : MP.Cmp} {a b : MP.Ex} {l r : Expr} {pos : Pos} (hm : behindInMarks (cmpP op) r = false) (h1 : PE X l (tE L W (MP.evE C a))) (h2 : PE X r (tE L W (MP.evE C b))) : PE X (.Compare l [cmpP op] [r] pos) (tE L W (MP.evE C (.cmp op a b))) := by
  refine (pe_cmpR (op_cmp (W := W) G.un G.hK op) h1 h2 hm).imp fun σ H Q q => ?_
  simp only [MP.evE] at q
  exact tE_bind2 (fun ρ h env σ v w x y H S r1 r2 p => ⟨ρ, h, env, σ, v, w, S, r1, r2, p⟩) (tE_gc q)
/-- a reading of a value that is a truth, as a test's -/
theorem tE_tT {f : RM} {σ : L2.St} {H : Hp} {Q : Bool → Hp → Prop} (q : tT L W (fun env h => MP.truth (f env h)) σ H Q) : tE L W f σ H fun x H' => ∃ k, x = .bl k ∧ Q k H' := by
  obtain ⟨ρ, h, env, S, p⟩ := q
  refine ⟨ρ, h, env, S, ?_⟩
  dsimp only at p
  cases e : f env h with
  | ok v h' =>
    rw [e] at p
    cases v with
    | bl b => exact fun ρ' H' u l s r => ⟨b, r, p ρ' H' b l s rfl⟩
    | _ => exact (show False from p).elim
  | exc x h' => rw [e] at p; exact p
  | stuck => rw [e] at p; exact p
theorem t_cmp (G : Gd L C X T W) {op : MP.Cmp} {a b : MP.Ex} {l r : Expr} {pos : Pos} (hm : behindInMarks (cmpP op) r = false) (h1 : PE X l (tE L W (MP.evE C a))) (h2 : PE X r (tE L W (MP.evE C b))) : PT X (.Compare l [cmpP op] [r] pos) (tT L W (tv C (.cmp op a b))) := by
  refine (pt_cmpR (op_cmp (W := W) G.un G.hK op) h1 h2 hm).imp fun σ H Q q => ?_
  have q := tE_tT q
  simp only [MP.evE] at q
  exact tE_bind2 (fun ρ h env σ v w x y H S r1 r2 p => ⟨ρ, h, env, σ, v, w, S, r1, r2, p⟩) (tE_gc q)
/-- an expression that is no and, or, not, comparison, choice: as a test -/
def plainT : Expr → Bool
  | .UnaryOp .Not _ _ => false
  | .BoolOp .. => false
  | .IfExp .. => false
  | .Compare .. => false
  | _ => true
theorem t_plain {m : MP.Ex} {e : Expr} (hp : plainT e = true) (h1 : PE X e (tE L W (MP.evE C m))) : PT X e (tT L W (tv C m)) := by
  refine (pt_val h1 ?_).imp fun σ H Q q => ?_
  · intro whole
    cases e <;> first | rfl | (cases hp; done) | skip
    rename_i op x pos
    cases op <;> first | rfl | cases hp
  · obtain ⟨ρ, h, env, S, p⟩ := tE_tT q
    exact ⟨ρ, h, env, S, p⟩
theorem t_not {a : MP.Ex} {x : Expr} {pos : Pos} (h1 : PT X x (tT L W (tv C a))) : PT X (.UnaryOp .Not x pos) (tT L W (tv C (.not_ a))) := by
  refine (pt_not h1).imp fun σ H Q ⟨ρ, h, env, S, q⟩ => ?_
  refine ⟨ρ, h, env, S, ?_⟩
  simp only [tv, MP.evE] at q ⊢
  cases e : MP.truth (MP.evE C a env h) with
  | ok v h' => rw [e] at q; exact fun ρ' H' u l s r => q ρ' H' (!u) l s (by cases r; rfl)
  | exc x h' => rw [e] at q; exact q
  | stuck => rw [e] at q; exact q
theorem s_not {a : MP.Ex} {x : Expr} {pos : Pos} (h1 : PE X x (tE L W (MP.evE C a))) : PE X (.UnaryOp .Not x pos) (tE L W (MP.evE C (.not_ a))) := by
  refine (pe_not h1).imp fun σ H Q ⟨ρ, h, env, S, q⟩ => ?_
  refine ⟨ρ, h, env, S, ?_⟩
  simp only [MP.evE] at q
  cases e : MP.evE C a env h with
  | ok v h' =>
    rw [e] at q
    cases v with
    | bl b => exact fun ρ' H' u l s r => ⟨b, r, q ρ' H' _ l s rfl⟩
    | _ => exact (show False from q).elim
  | exc x h' => rw [e] at q; exact q
  | stuck => rw [e] at q; exact q
/-- first a truth, then by it -/
theorem tT_bind {f : MP.Env → MP.Heap → MP.Res Bool} {g : Bool → MP.Env → MP.Heap → MP.Res MP.V} {σ : L2.St} {H : Hp} {Q : VK} {R : Bool → Hp → Prop}
    (q : tE L W (fun env h => (f env h).bind fun b h1 => g b env h1) σ H Q) (k : ∀ b H1, tE L W (g b) σ H1 Q → R b H1) : tT L W f σ H R := by
  obtain ⟨ρ, h, env, S, p⟩ := q
  exact ⟨ρ, h, env, S, p.bind.imp fun u H1 ⟨ρ1, h1, v, l1, S1, r1, p1⟩ => by rw [show u = v from r1]; exact k v H1 ⟨ρ1, h1, env, S1, p1⟩⟩
theorem tT_bindT {f : MP.Env → MP.Heap → MP.Res Bool} {g : Bool → MP.Env → MP.Heap → MP.Res Bool} {σ : L2.St} {H : Hp} {Q : Bool → Hp → Prop} {R : Bool → Hp → Prop}
    (q : tT L W (fun env h => (f env h).bind fun b h1 => g b env h1) σ H Q) (k : ∀ b H1, tT L W (g b) σ H1 Q → R b H1) : tT L W f σ H R := by
  obtain ⟨ρ, h, env, S, p⟩ := q
  exact ⟨ρ, h, env, S, p.bind.imp fun u H1 ⟨ρ1, h1, v, l1, S1, r1, p1⟩ => by rw [show u = v from r1]; exact k v H1 ⟨ρ1, h1, env, S1, p1⟩⟩
theorem tT_ret {b : Bool} {σ : L2.St} {H : Hp} {Q : Bool → Hp → Prop} (q : tT L W (fun _ h => .ok b h) σ H Q) : Q b H := by
  obtain ⟨ρ, h, env, S, p⟩ := q
  exact p ρ H b Le.refl S rfl
theorem tE_ret {v : MP.V} {u : V} {σ : L2.St} {H : Hp} {Q : VK} (q : tE L W (fun _ h => .ok v h) σ H Q) (r : ∀ ρ, Rep L ρ H v u) : Q u H := by
  obtain ⟨ρ, h, env, S, p⟩ := q
  exact p ρ H u Le.refl S (r ρ)
/-- the truth of what is reckoned by a truth -/
theorem truth_bind {f : MP.Res Bool} {g : Bool → MP.Heap → MP.Res MP.V} : MP.truth (f.bind g) = f.bind fun b h => MP.truth (g b h) := by
  cases f <;> rfl
theorem truth_ok {f : MP.Res Bool} : MP.truth (f.bind fun b h => .ok (.bl b) h) = f := by
  cases f <;> rfl
theorem s_ite {t a b : MP.Ex} {x y z : Expr} {pos : Pos} (h0 : PT X x (tT L W (tv C t))) (h1 : PE X y (tE L W (MP.evE C a))) (h2 : PE X z (tE L W (MP.evE C b))) : PE X (.IfExp x y z pos) (tE L W (MP.evE C (.ite t a b))) := by
  refine (pe_ifExp h0 h1 h2).imp fun σ H Q q => ?_
  simp only [MP.evE] at q
  refine tT_bind (g := fun b' env h => if b' = true then MP.evE C a env h else MP.evE C b env h) q fun c H1 p => ?_
  cases c with
  | true => rw [if_pos rfl]; simpa using p
  | false => rw [if_neg Bool.false_ne_true]; simpa using p
/-! and, or -/
theorem b_and {a b : MP.Ex} {x y : Expr} {r : List Expr} {pos : Pos} (h0 : PT X x (tT L W (tv C a))) (h1 : PE X x (tE L W (MP.evE C a))) (h2 : PE X (.BoolOp .And (y :: r) pos) (tE L W (MP.evE C b))) (h3 : PW X (.BoolOp .And (y :: r) pos) (tT L W (tv C b))) :
    PE X (.BoolOp .And (x :: y :: r) pos) (tE L W (MP.evE C (.and_ a b))) ∧ PW X (.BoolOp .And (x :: y :: r) pos) (tT L W (tv C (.and_ a b))) := by
  refine ⟨(pe_and h1 h2).imp fun σ H Q q => ?_, ⟨fun wh pins s σ H Q I q => (pw_and h0 h3).run wh pins s σ H Q I ?_⟩⟩
  · simp only [MP.evE] at q
    have q2 := tT_bind (g := fun b' env h => if b' = true then (MP.truth (MP.evE C b env h)).bind fun y h2 => .ok (.bl y) h2 else .ok (.bl false) h) (R := fun c H1 => if c = true then tE L W (MP.evE C b) σ H1 Q else Q (.bl false) H1) q fun c H1 p => by
      cases c with
      | true =>
        rw [if_pos rfl]
        obtain ⟨ρ, h, env, S, p⟩ := p
        refine ⟨ρ, h, env, S, ?_⟩
        dsimp only at p
        rw [if_pos rfl] at p
        cases e : MP.evE C b env h with
        | ok v h' =>
          rw [e] at p
          cases v with
          | bl c => exact p
          | _ => exact (show False from p).elim
        | exc x h' => rw [e] at p; exact p
        | stuck => rw [e] at p; exact p
      | false =>
        rw [if_neg Bool.false_ne_true]
        obtain ⟨ρ, h, env, S, p⟩ := p
        dsimp only at p
        rw [if_neg Bool.false_ne_true] at p
        exact p ρ H1 _ Le.refl S rfl
    exact tE_tT q2
  · have e : (tv C (.and_ a b)) = fun env h => (tv C a env h).bind fun c h1 => if c = true then tv C b env h1 else .ok false h1 := by
      funext env h
      simp only [tv, MP.evE]
      rw [truth_bind]
      congr 1
      funext c h1
      cases c with
      | true => exact truth_ok
      | false => rfl
    rw [e] at q
    refine tT_bindT (g := fun c env h1 => if c = true then tv C b env h1 else .ok false h1) q fun c H1 p => ?_
    cases c with
    | true => rw [if_pos rfl]; simpa using p
    | false => rw [if_neg Bool.false_ne_true]; exact tT_ret (by simpa using p)
theorem b_or {a b : MP.Ex} {x y : Expr} {r : List Expr} {pos : Pos} (h0 : PT X x (tT L W (tv C a))) (h1 : PE X x (tE L W (MP.evE C a))) (h2 : PE X (.BoolOp .Or (y :: r) pos) (tE L W (MP.evE C b))) (h3 : PW X (.BoolOp .Or (y :: r) pos) (tT L W (tv C b))) :
    PE X (.BoolOp .Or (x :: y :: r) pos) (tE L W (MP.evE C (.or_ a b))) ∧ PW X (.BoolOp .Or (x :: y :: r) pos) (tT L W (tv C (.or_ a b))) := by
  refine ⟨(pe_or h1 h2).imp fun σ H Q q => ?_, ⟨fun wh pins s σ H Q I q => (pw_or h0 h3).run wh pins s σ H Q I ?_⟩⟩
  · simp only [MP.evE] at q
    have q2 := tT_bind (g := fun b' env h => if b' = true then .ok (.bl true) h else (MP.truth (MP.evE C b env h)).bind fun y h2 => .ok (.bl y) h2) (R := fun c H1 => if c = true then Q (.bl true) H1 else tE L W (MP.evE C b) σ H1 Q) q fun c H1 p => by
      cases c with
      | false =>
        rw [if_neg Bool.false_ne_true]
        obtain ⟨ρ, h, env, S, p⟩ := p
        refine ⟨ρ, h, env, S, ?_⟩
        dsimp only at p
        rw [if_neg Bool.false_ne_true] at p
        cases e : MP.evE C b env h with
        | ok v h' =>
          rw [e] at p
          cases v with
          | bl c => exact p
          | _ => exact (show False from p).elim
        | exc x h' => rw [e] at p; exact p
        | stuck => rw [e] at p; exact p
      | true =>
        rw [if_pos rfl]
        obtain ⟨ρ, h, env, S, p⟩ := p
        dsimp only at p
        rw [if_pos rfl] at p
        exact p ρ H1 _ Le.refl S rfl
    exact tE_tT q2
  · have e : (tv C (.or_ a b)) = fun env h => (tv C a env h).bind fun c h1 => if c = true then .ok true h1 else tv C b env h1 := by
      funext env h
      simp only [tv, MP.evE]
      rw [truth_bind]
      congr 1
      funext c h1
      cases c with
      | false => exact truth_ok
      | true => rfl
    rw [e] at q
    refine tT_bindT (g := fun c env h1 => if c = true then .ok true h1 else tv C b env h1) q fun c H1 p => ?_
    cases c with
    | false => rw [if_neg Bool.false_ne_true]; simpa using p
    | true => rw [if_pos rfl]; exact tT_ret (by simpa using p)
end
end MPS
end

section
set_option Elab.async false
set_option linter.all false
set_option maxRecDepth 100000
set_option maxHeartbeats 2000000
namespace MPS
open PySem PySem.Spec PyProof.Rows L2

section
variable {L : Lk} {C : MP.Ctx} {X : Cx} {T : Tx} {W : WM} {N : List Str} {sc : Scope}
/-- the first comparison of a chain -/
def rCmp1 (L : Lk) (op : MP.Cmp) : R2 := fun x y H Q => ∃ ρ h v w c, Sim L ρ h H ∧ Rep L ρ H v x ∧ Rep L ρ H w y ∧ MP.cmpV op h v w = some c ∧ Q (.bl c) H
theorem s_chain_go {o1 o2 : MP.Cmp} {a b d : MP.Ex} {σ : L2.St} {H : Hp} {Q : VK} (q : tE L W (MP.evE C (.chain o1 o2 a b d)) σ H Q) :
    tChain (rCmp1 L o1) (rCmp L W o2) (tE L W (MP.evE C a)) (tE L W (MP.evE C b)) (tE L W (MP.evE C d)) σ H Q := by
  obtain ⟨ρ, h, env, S, p⟩ := q
  simp only [MP.evE] at p
  refine ⟨ρ, h, env, S, p.bind.imp fun u H1 ⟨ρ1, h1, v, l1, S1, r1, p1⟩ => ?_⟩
  refine ⟨ρ1, h1, env, S1, p1.bind.imp fun y H2 ⟨ρ2, h2, w, l2, S2, r2, p2⟩ => ?_⟩
  cases e : MP.cmpV o1 h2 v w with
  | none => dsimp only at p2; rw [e] at p2; exact p2.elim
  | some c =>
    dsimp only at p2
    rw [e] at p2
    refine ⟨ρ2, h2, v, w, c, S2.sim, Rep.mono l2 v u r1, r2, e, c, rfl, ?_⟩
    cases c with
    | false => rw [if_neg Bool.false_ne_true]; exact Post.same S2 p2 rfl
    | true =>
      rw [if_pos rfl]
      refine ⟨ρ2, h2, env, S2, p2.bind.imp fun z H3 ⟨ρ3, h3, x3, l3, S3, r3, p3⟩ => ?_⟩
      exact ⟨ρ3, h3, env, σ, w, x3, S3, Rep.mono l3 w y r2, r3, p3⟩
theorem s_chain (G : Gd L C X T W) {o1 o2 : MP.Cmp} {a b d : MP.Ex} {l r t : Expr} {pos : Pos} (hm : behindInMarks (cmpP o2) t = false) (h1 : PE X l (tE L W (MP.evE C a))) (h2 : PE X r (tE L W (MP.evE C b))) (h3 : PE X t (tE L W (MP.evE C d))) :
    PE X (.Compare l [cmpP o1, cmpP o2] [r, t] pos) (tE L W (MP.evE C (.chain o1 o2 a b d))) ∧ PT X (.Compare l [cmpP o1, cmpP o2] [r, t] pos) (tT L W (tv C (.chain o1 o2 a b d))) := by
  have hl : lastMarks [cmpP o1, cmpP o2] [r, t] = false := hm
  refine ⟨(pe_chain (r := rCmp1 L o1) (op_cmp1 G.un G.hK o1) (op_cmp (W := W) G.un G.hK o2) h1 h2 h3 hl).imp fun σ H Q q => s_chain_go q, (pt_chain (r := rCmp1 L o1) (op_cmp1 G.un G.hK o1) (op_cmp (W := W) G.un G.hK o2) h1 h2 h3 hl).imp fun σ H Q q => s_chain_go (tE_tT q)⟩
theorem s_idx (G : Gd L C X T W) {a i : MP.Ex} {x y : Expr} {pos : Pos} (hp : plainB y = true) (h1 : PE X x (tE L W (MP.evE C a))) (h2 : PE X y (tE L W (MP.evE C i))) : PE X (.Subscript x y pos) (tE L W (MP.evE C (.idx a i))) := by
  refine (pe_ix (ix_M (W := W) G.hK) h1 h2 ?_).imp fun σ H Q q => ?_
  · intro o i
    cases y <;> first | rfl | cases hp
  · simp only [MP.evE] at q
    exact tE_bind2 (fun ρ h env σ v w x y H S r1 r2 p => ⟨ρ, h, env, σ, v, w, S, r1, r2, p⟩) (tE_gc q)
/-- a slice's part -/
def tP (L : Lk) (W : WM) (f : MP.Env → MP.Heap → MP.Res (List MP.V)) : TO := fun σ H Q => ∃ ρ h env, Sta L ρ h env σ H ∧ Post L W env σ ρ H (Reps L) (fun xs H' => ∃ o, (xs = [] ∧ o = none ∨ ∃ i, xs = [.int i] ∧ o = some i) ∧ Q o H') (f env h)
theorem p_none : PO X none (tP L W (MP.evEs C [])) := by
  refine ⟨fun pins s σ H Q I ⟨ρ, h, env, S, q⟩ => po_none.run pins s σ H Q I ?_⟩
  simp only [MP.evEs] at q
  obtain ⟨o, ho, p⟩ := q ρ H [] Le.refl S rfl
  rcases ho with ⟨_, rfl⟩ | ⟨i, z, _⟩
  · exact p
  · cases z
theorem p_some {m : MP.Ex} {e : Expr} (h1 : PE X e (tE L W (MP.evE C m))) : PO X (some e) (tP L W (MP.evEs C [m])) := by
  refine ⟨fun pins s σ H Q I ⟨ρ, h, env, S, q⟩ => (po_some h1).run pins s σ H Q I ?_⟩
  refine ⟨ρ, h, env, S, ?_⟩
  simp only [MP.evEs] at q
  refine q.bind.imp fun u H1 ⟨ρ1, h1, v, l1, S1, r1, p1⟩ => ?_
  obtain ⟨o, ho, p⟩ := p1 ρ1 H1 [u] Le.refl S1 ⟨u, [], rfl, r1, rfl⟩
  rcases ho with ⟨z, _⟩ | ⟨i, z, rfl⟩
  · cases z
  · cases z; exact ⟨i, rfl, p⟩
theorem s_slc (G : Gd L C X T W) {a : MP.Ex} {lo hi : List MP.Ex} {x : Expr} {l u : Option Expr} {p2 pos : Pos} (h1 : PE X x (tE L W (MP.evE C a))) (h2 : PO X l (tP L W (MP.evEs C lo))) (h3 : PO X u (tP L W (MP.evEs C hi))) :
    PE X (.Subscript x (.Slice l u none p2) pos) (tE L W (MP.evE C (.slc a lo hi))) := by
  refine (pe_slice (sl_M (L := L) (W := W) G.hK) h1 h2 h3).imp fun σ H Q q => ?_
  obtain ⟨ρ, h, env, S, p⟩ := q
  simp only [MP.evE] at p
  refine ⟨ρ, h, env, S, p.bind.imp fun u H1 ⟨ρ1, h1, v, l1, S1, r1, p1⟩ => ?_⟩
  refine ⟨ρ1, h1, env, S1, p1.bind.imp fun y H2 ⟨ρ2, h2, w, l2, S2, r2, p2⟩ => ?_⟩
  have part : ∀ {ρ : List Addr} {H : Hp} {ws : List MP.V} {ys : List V} {b : MP.V}, MP.partOf ws = some b → Reps L ρ H ws ys → ∃ o, (ys = [] ∧ o = none ∨ ∃ i, ys = [.int i] ∧ o = some i) ∧ partV b = some o := by
    intro ρ H ws ys b e r
    match ws, e with
    | [], e => cases e; cases r; exact ⟨none, .inl ⟨rfl, rfl⟩, rfl⟩
    | [.int i], e =>
      cases e
      obtain ⟨u, rfl, r1⟩ := reps1 r
      cases r1
      exact ⟨some i, .inr ⟨i, rfl, rfl⟩, rfl⟩
  dsimp only at p2
  cases e1 : MP.partOf w with
  | none => rw [e1] at p2; exact p2.elim
  | some b1 =>
    rw [e1] at p2
    obtain ⟨o1, ho1, hp1⟩ := part e1 r2
    refine ⟨o1, ho1, ρ2, h2, env, S2, p2.bind.imp fun z H3 ⟨ρ3, h3, w3, l3, S3, r3, p3⟩ => ?_⟩
    dsimp only at p3
    cases e2 : MP.partOf w3 with
    | none => rw [e2] at p3; exact p3.elim
    | some b2 =>
      rw [e2] at p3
      obtain ⟨o2, ho2, hp2⟩ := part e2 r3
      exact ⟨o2, ho2, ρ3, h3, env, σ, v, b1, b2, S3, Rep.mono (l2.trans l3) v u r1, hp1, hp2, p3⟩
end
end MPS
end

section
set_option Elab.async false
set_option linter.all false
set_option maxRecDepth 100000
set_option maxHeartbeats 2000000
namespace HT
open PySem PySem.Spec PyProof.Rows
section
variable {prog : Program} {w : World} {A : Around} {E : Value → Shared → Prop} {s : Shared}
theorem sliceApplied_rev {sl : Addr} {n : Nat} {t : Tok} {Q : Int × Int × Nat → Shared → Prop} (hs : s.heap.IsSliceOf sl .none .none (.int (-1) t))
    (h : Q ((n : Int) - 1, -1, n) s) : wpAny (model prog w) A (Builtin.Slice.sliceApplied (.ref sl) (pure (n : Int))) Q E s := by
  obtain ⟨os, hos, hcs, hds⟩ := id hs
  unfold Builtin.Slice.sliceApplied Builtin.Slice.sliceFields
  refine wpAny_bind (wpAny_bind (wpAny_field hos hds (x := .none) rfl (wpAny_bind (wpAny_field hos hds (x := .none) rfl (wpAny_bind (wpAny_field hos hds (x := .int (-1) t) rfl (wpAny_pure ?_)))))))
  refine wpAny_bind (slicePart_int ?_)
  show wpAny _ _ (if ((-1 : Int) == 0) = true then _ else _) _ _ s
  rw [if_neg (by decide)]
  refine wpAny_bind (slicePart_none (wpAny_bind (slicePart_none (wpAny_bind (wpAny_pure ?_)))))
  show wpAny _ _ (match Builtin.Slice.sliceAdjust none none (-1) (n : Int) with | (lo, hi) => pure (lo, (-1 : Int), Builtin.Slice.slicePlaces lo hi (-1))) _ _ s
  have e : Builtin.Slice.sliceAdjust none none (-1) (n : Int) = ((n : Int) - 1, -1) := by
    unfold Builtin.Slice.sliceAdjust
    simp
  rw [e]
  show wpAny _ _ (pure ((n : Int) - 1, (-1 : Int), Builtin.Slice.slicePlaces ((n : Int) - 1) (-1) (-1))) _ _ s
  have e2 : Builtin.Slice.slicePlaces ((n : Int) - 1) (-1) (-1) = n := by
    unfold Builtin.Slice.slicePlaces
    simp
    try omega
  rw [e2]
  exact wpAny_pure h
theorem pick_rev (xs : Array Value) : ((List.range xs.size).filterMap fun (m : Nat) => xs[(((xs.size : Int) - 1) + (m : Int) * (-1)).toNat]?).toArray = (xs.toList.reverse).toArray := by
  congr 1
  obtain ⟨l⟩ := xs
  show (List.range l.length).filterMap (fun (m : Nat) => l.toArray[(((l.length : Int) - 1) + (m : Int) * (-1)).toNat]?) = l.reverse
  have : ∀ k, k ≤ l.length → (List.range k).filterMap (fun (m : Nat) => l.toArray[(((l.length : Int) - 1) + (m : Int) * (-1)).toNat]?) = l.reverse.take k := by
    intro k
    induction k with
    | zero => intro _; rfl
    | succ k ih =>
      intro hk
      rw [List.range_succ, List.filterMap_append, ih (by omega), List.take_succ]
      congr 1
      have e : (((l.length : Int) - 1) + (k : Int) * (-1)).toNat = l.length - 1 - k := by omega
      simp only [List.filterMap_cons, List.filterMap_nil, e]
      have h1 : l.length - 1 - k < l.length := by omega
      rw [List.getElem?_toArray, List.getElem?_eq_getElem h1, List.getElem?_reverse (by omega), List.getElem?_eq_getElem h1]
      rfl
  rw [this l.length (Nat.le_refl _), List.take_of_length_le (by simp)]
theorem getItem_tuple_rev {t sl : Addr} {items : Array Value} {k : Tok} {Q : Value → Shared → Prop} (ht : IsTup s.heap t items) (hs : s.heap.IsSliceOf sl .none .none (.int (-1) k))
    (h : Q (.ref s.heap.objs.size) { s with heap := s.heap.push { cls := .type "tuple", data := .seq (items.toList.reverse).toArray } })
    (hsz : items.size ≤ sizeLine) : wpAny (model prog w) A (getItem (.ref t) (.ref sl)) Q E s := by
  have htake : sizeOk (.seq (items.toList.reverse).toArray) := by
    show (items.toList.reverse).toArray.size ≤ sizeLine
    rw [List.size_toArray, List.length_reverse, Array.length_toList]
    exact hsz
  obtain ⟨os, hos, hcs, hds⟩ := id hs
  have hTs : s.TypeIs (.ref sl) "slice" := ⟨os, hos, hcs⟩
  unfold getItem
  try with_reducible refine wpAny_holding ?_
  first | refine wpAny_bind (wpAny_pure ?_) | skip
  refine wpAny_bind (wpAny_sequenceKey ht.typeIs (by decide) ?_)
  refine wpAny_bind (wpAny_callSpecial?_slot (name := Str.ofString "__getitem__") ht.typeIs PyProof.Rows.slot_tuple_getitem
    (wpAny_call_entry PyProof.Rows.slot_tuple_getitem ht.typeIs entry_tuple_getitem ?_ (args_tuple_getitem _ _)))
  show wpAny _ _ (Builtin.Tuple.tupleItemsOf (.ref t) >>= _) _ _ s
  refine wpAny_bind (tupleItemsOf_ ht ?_)
  refine wpAny_bind (wpAny_typeOf hTs ?_)
  rw [if_pos (by decide)]
  refine wpAny_bind (sliceApplied_rev hs ?_)
  have hno : ¬ ((((items.size : Int) - 1) == 0 && (-1 : Int) == 1 && items.size == items.size) = true) := by
    intro q
    rw [Bool.and_eq_true, Bool.and_eq_true] at q
    exact absurd (eq_of_beq q.1.2) (by decide)
  show wpAny _ _ (if (((items.size : Int) - 1) == 0 && (-1 : Int) == 1 && items.size == items.size) = true then _ else _) _ _ s
  rw [if_neg hno, pick_rev]
  first
    | exact wpAny_bind (m := Builtin.Tuple.tupleExact _) (wpAny_newObj_type (wpAny_pure ⟨_, rfl, wpAny_pure h⟩) htake)
    | exact wpAny_bind (m := Builtin.Tuple.tupleExact _) (wpAny_newObj_type (wpAny_bind (wpAny_pure (wpAny_pure ⟨_, rfl, wpAny_pure h⟩))) htake)
    | exact wpAny_bind (wpAny_bind (m := Builtin.Tuple.tupleExact _) (wpAny_newObj_type (wpAny_pure (wpAny_pure ⟨_, rfl, wpAny_pure h⟩)) htake))
    | exact wpAny_bind (wpAny_bind (m := Builtin.Tuple.tupleExact _) (wpAny_newObj_type (wpAny_pure ⟨_, rfl, wpAny_pure h⟩) htake))
end
end HT
namespace MPS
open PySem PySem.Spec PyProof.Rows L2
section
variable {L : Lk} {C : MP.Ctx} {X : Cx} {T : Tx} {W : WM} {N : List Str} {sc : Scope}
def tRevA (K : PySem.W.Frag) (te : TE) : TE := fun σ H Q => te σ H fun x H1 => (∃ a xs, x = .ref a ∧ SqL K H1 a xs ∧ ∀ p, H1 p = none → Q (.ref p) (upd H1 p (.lst xs.reverse))) ∨ (∃ a xs, x = .ref a ∧ SqT K H1 a xs ∧ ∀ p, H1 p = none → Q (.ref p) (upd H1 p (.tup xs.reverse)))
theorem pe_revA {e : Expr} {te : TE} {k : Nat} {p1 p2 p3 pos : Pos} (he : PE X e te) : PE X (.Subscript e (.Slice none none (some (.UnaryOp .USub (.Constant (.int 1) k p1) p2)) p3) pos) (tRevA X.K te) := by
  refine ⟨fun pins s σ H Q I h => ?_⟩
  refine Subscript_ (thn (he.run pins s σ H _ I h) fun v s1 ⟨x, H1, I1, r1, q1⟩ => ?_)
  have hst : PO X (some (.UnaryOp .USub (.Constant (.int 1) k p1) p2)) (tPart (tUn (rU fun i => .int (-i)) (tC (.int 1)))) := po_some (pe_un un_neg pe_int)
  refine wpAny_Slice (thn (po_none.run pins s1 σ H1 (fun o H2 => o = none ∧ H2 = H1) I1 ⟨rfl, rfl⟩) fun vl s2 ⟨l, H2, I2, pl, el, e2⟩ => ?_)
  subst el e2
  refine thn (po_none.run pins s2 σ H2 (fun o H3 => o = none ∧ H3 = H2) I2 ⟨rfl, rfl⟩) fun vu s3 ⟨u, H3, I3, pu, eu, e3⟩ => ?_
  subst eu e3
  refine thn (hst.run pins s3 σ H3 (fun o H4 => o = some (-1) ∧ H4 = H3) I3 ⟨1, rfl, -1, rfl, rfl, rfl⟩) fun vs s4 ⟨o, H4, I4, ps, eo, e4⟩ => ?_
  subst eo e4
  have I5 : Inv X pins σ H4 { s4 with heap := s4.heap.push { cls := .type "slice", data := .fields #[vl, vu, vs] } } := I4.kept (t' := s4.toks) fun b ob q => Heap.get?_push_of_some _ q
  rcases q1 with ⟨a, xs, ex, hx, q⟩ | ⟨a, xs, ex, hx, q⟩
  · subst ex
    cases r1
    obtain ⟨its, r, ht, hz⟩ := I5.list hx
    have hlen := r.length
    show wpAny (model X.prog X.w) X.A (subscriptTail e (.Slice none none (some (.UnaryOp .USub (.Constant (.int 1) k p1) p2)) p3) (.ref a) (.ref s4.heap.objs.size)) (EP X pins σ Q) X.xe { s4 with heap := s4.heap.push { cls := .type "slice", data := .fields #[vl, vu, vs] } }
    refine tail_any (ops := [.ref a, .ref s4.heap.objs.size]) ht.isList.typeIs (PySem.slot_list_getitem.lookup) ?_ (by with_unfolding_all rfl)
    refine wpAny_getItem_list_slice ht.isList (Heap.IsSliceOf.new _ vl vu vs) pl pu ps (by decide) ?_ (by rw [List.size_toArray]; omega)
    rw [PySem.W.krv_pick]
    refine ⟨.ref _, _, I5.laid (t' := s4.toks) (o := .lst xs.reverse) (fun b ob q => Heap.get?_push_of_some _ q) (Nat.le_refl _) ?_, rfl, q _ (I5.hok.fresh (Nat.le_refl _))⟩
    exact ⟨by rw [List.length_reverse]; exact hz, _, 0, r.reverse, Heap.get?_push_size _ rfl⟩
  · subst ex
    cases r1
    obtain ⟨its, r, ht, hz⟩ := I5.tuple hx
    have hlen : its.toArray.size = xs.length := by rw [List.size_toArray]; exact r.length.symm
    cases pl
    cases pu
    cases ps
    show wpAny (model X.prog X.w) X.A (subscriptTail e (.Slice none none (some (.UnaryOp .USub (.Constant (.int 1) k p1) p2)) p3) (.ref a) (.ref s4.heap.objs.size)) (EP X pins σ Q) X.xe _
    refine tail_any (ops := [.ref a, .ref s4.heap.objs.size]) ht.typeIs (PyProof.Rows.slot_tuple_getitem.lookup) ?_ (by with_unfolding_all rfl)
    refine HT.getItem_tuple_rev ht (Heap.IsSliceOf.new _ _ _ _) ?_ (by rw [hlen]; exact hz)
    refine ⟨.ref _, _, I5.laid (t' := s4.toks) (o := .tup xs.reverse) (fun b ob q => Heap.get?_push_of_some _ q) (Nat.le_refl _) ?_, rfl, q _ (I5.hok.fresh (Nat.le_refl _))⟩
    exact ⟨by rw [List.length_reverse]; exact hz, _, r.reverse, IsTup.new _ _⟩
theorem s_rev (G : Gd L C X T W) {a : MP.Ex} {x : Expr} {k : Nat} {p1 p2 p3 pos : Pos} (h1 : PE X x (tE L W (MP.evE C a))) :
    PE X (.Subscript x (.Slice none none (some (.UnaryOp .USub (.Constant (.int 1) k p1) p2)) p3) pos) (tE L W (MP.evE C (.rev a))) := by
  refine (pe_revA h1).imp fun σ H Q q => ?_
  simp only [MP.evE] at q
  refine tE_bind1 (r := fun x H1 Q => (∃ a xs, x = .ref a ∧ SqL X.K H1 a xs ∧ ∀ p, H1 p = none → Q (.ref p) (upd H1 p (.lst xs.reverse))) ∨ (∃ a xs, x = .ref a ∧ SqT X.K H1 a xs ∧ ∀ p, H1 p = none → Q (.ref p) (upd H1 p (.tup xs.reverse)))) (fun ρ h env σ v x H S r p => ?_) q
  cases v with
  | ref i =>
    simp only [MP.revV] at p
    cases e : MP.listAt h i with
    | none => rw [e] at p; exact p.elim
    | some ms =>
      rw [e] at p
      obtain ⟨b, us, rfl, t, rs⟩ := listAt_rep S.sim e r
      exact .inl ⟨b, us, rfl, by rw [G.hK]; exact t, fun l hl => Post.lst S p (Reps.rv _ _ rs) hl⟩
  | tup ms =>
    simp only [MP.revV] at p
    obtain ⟨b, us, rfl, t, rs⟩ := r
    exact .inr ⟨b, us, rfl, by rw [G.hK]; exact t, fun l hl => Post.tup S p (Reps.rv _ _ rs) hl⟩
  | _ => exact (show False from p).elim
end
end MPS
end

section
set_option Elab.async false
set_option linter.all false
set_option maxRecDepth 100000
set_option maxHeartbeats 2000000
namespace HT
open PySem PySem.Spec PyProof.Rows L2
theorem meets_enum1 {v : Value} {o : Obj} {H : Heap → Prop} (B : Begins v o H) :
    Meets (Builtin.«enumerate.__new__» ⟨[.type "enumerate", v], []⟩) (fun _ R s => H s.heap ∧
      R (.ok (.ret (.ref (s.heap.push o).objs.size))) { s with heap := (s.heap.push o).push { cls := .type "enumerate", data := .fields #[.none, .bool false, .ref s.heap.objs.size, rawInt 0, .none, .none] } }) :=
  .of_wp fun prog w A R s h => by
    obtain ⟨hp, g, d, tk, os⟩ := s; obtain ⟨h1, h⟩ := h
    have hsub := sub_enumerate
    have q1 : ∀ {A' : Around} {E : Value → Shared → Prop} {Q : Value → Shared → Prop}, Q (.ref hp.objs.size) ⟨hp.push o, g, d, tk, os⟩ → wpAny (model prog w) A' (pyIter v) Q E ⟨hp, g, d, tk, os⟩ :=
      fun q => B.iter prog w _ _ ⟨hp, g, d, tk, os⟩ _ h1 q
    wp_walk using q1
    refine wpAny_stack_any fun st => wpAny_pure ?_
    split
    · rename_i c _ _ _ _ _
      cases (c == Value.type "enumerate")
      · wp_walk using q1
        exact ⟨_, rfl, h⟩
      · wp_walk using q1
        exact ⟨_, rfl, h⟩
    · wp_walk using q1
      exact ⟨_, rfl, h⟩
section
variable {prog : Program} {w : World} {A : Around} {E : Value → Shared → Prop} {s : Shared}
theorem enum1_begins {v : Value} {o : Obj} {H : Heap → Prop} {Q : Value → Shared → Prop} (B : Begins v o H) (h1 : H s.heap)
    (h : ∀ h', IsEnum h' (s.heap.objs.size + 1) s.heap.objs.size 0 .none → h'.get? s.heap.objs.size = some o → h'.objs.size = s.heap.objs.size + 2 →
      (∀ b o, s.heap.get? b = some o → h'.get? b = some o) → Q (.ref (s.heap.objs.size + 1)) { s with heap := h' }) :
    wpAny (model prog w) A (call (.type "enumerate") [v]) Q E s := by
  refine callType_new F.called_enumerate (by decide) (F.typeCall_enumerate_1 _) (F.newCall_enumerate_1 _) (fun obj => F.args_object_init_2 obj _) F.entry_enumerate_new
    (meets_enum1 B) ⟨h1, ?_⟩
  have hz : (s.heap.push o).objs.size = s.heap.objs.size + 1 := Heap.size_push ..
  show _ ∧ _
  rw [hz]
  have he : IsEnum ((s.heap.push o).push { cls := .type "enumerate", data := .fields #[.none, .bool false, .ref s.heap.objs.size, rawInt 0, .none, .none] }) (s.heap.objs.size + 1) s.heap.objs.size 0 .none := by
    have := Heap.get?_push_size (s.heap.push o) (o := { cls := .type "enumerate", data := .fields #[.none, .bool false, .ref s.heap.objs.size, rawInt 0, .none, .none] }) rfl
    rw [hz] at this; exact this
  refine ⟨⟨_, he, rfl⟩, h _ he (Heap.get?_push_of_some _ (Heap.get?_push_size _ B.free)) (by rw [Heap.size_push, hz]) fun b o x => Heap.get?_push_of_some _ (Heap.get?_push_of_some _ x)⟩
end
/-- the tuple at a, its items in new pairs -/
def IteT (K : PySem.W.Frag) (a : Addr) : It :=
  ⟨fun i H => ∃ (xs : List V) (x : V), SqT K H a xs ∧ xs[i]? = some x, fun i H v H' => ∃ T x, v = .ref T ∧ H T = none ∧ H' = upd H T (.tup [.int (i : Nat), x]) ∧ ∀ xs, SqT K H a xs → xs[i]? = some x, fun i H => ∃ xs : List V, SqT K H a xs ∧ xs.length ≤ i⟩
theorem turn_enumT {P : Program} {w : World} {K : PySem.W.Frag} {elts : List Expr} {kk : Nat} {tpos : Pos} (a e it : Addr) (hai : a ≠ it) (hea : e ≠ a) :
    Turn P w K (.Tuple elts kk tpos) (IteT K a) [e, it] e (fun i h => (∃ old, IsEnum h e it ((i : Nat) : Int) old) ∧ h.IsTupleIter it a i ∧ e ≠ it) where
  mem := by simp
  obj := fun i h st b hb => by
    obtain ⟨⟨old, he⟩, ⟨o, ho, hc, hd⟩, _⟩ := st
    have e' : b = e ∨ b = it := by simpa using hb
    rcases e' with z | z
    · rw [z]; exact ⟨_, he, fun v q => nomatch q⟩
    · rw [z]; exact ⟨o, ho, fun v q => by rw [hd] at q; cases q⟩
  keep := fun i h h' st k => let ⟨⟨old, he⟩, hi, hne⟩ := st; ⟨⟨old, k e (by simp) _ he⟩, hi.at fun o q => k it (by simp) o q, hne⟩
  item := by
    intro X hP hw hK hc i pins s σ H E I hf st hg
    subst hP hw hK
    obtain ⟨⟨old, he⟩, hit, hne⟩ := st
    obtain ⟨xs, x, hq, hx⟩ := hg
    obtain ⟨its, rv, p, hz⟩ := I.tuple hq
    obtain ⟨u, hu, ru⟩ := rv.get hx
    have hel : e < s.heap.objs.size := Heap.lt_size he
    have hil : it < s.heap.objs.size := by obtain ⟨_, q, _⟩ := hit; exact Heap.lt_size q
    have hu2 : its.toArray[i]? = some u := by simpa using hu
    have hlt : i < its.toArray.size := (Array.getElem?_eq_some_iff.mp hu2).1
    refine wpAny_pyNext_enum_itemC (fp := [it, a]) (Draws.tuple (A := X.A.in1) (show X.A.in1.handled = none from I.ok.hd hc) it a hai its.toArray) he ⟨hit, p⟩ hlt hne (by simp [hne, hea]) fun y h' tk hP ho hs' hT hsz hk => ?_
    have hy : y = u := by have : its.toArray[i]? = some y := hP; rw [hu2] at this; cases this; rfl
    subst hy
    obtain ⟨hit', -⟩ := hs'
    refine ⟨_, rfl, wpAny_letOwnedTupleGo_enum (s := { s with heap := h', toks := tk + 1 }) ho fun h'' he' sb => ?_⟩
    have hT2 : h''.get? s.heap.objs.size = some { cls := .type "tuple", data := .seq #[.int i tk, y] } := (sb.2 _ (Nat.ne_of_gt hel)).trans hT
    have new : ObjOk X.prog X.w (upd H s.heap.objs.size (.tup [.int (i : Nat), x])) h'' s.heap.objs.size (.tup [.int (i : Nat), x]) :=
      ⟨by show 2 ≤ sizeLine; decide, [.int i tk, y], .cons ⟨_, rfl⟩ (.cons ru .nil), ⟨_, hT2, rfl, _, rfl⟩⟩
    have I1 : Inv X pins σ (upd H s.heap.objs.size (.tup [.int (i : Nat), x])) { s with heap := h'', toks := tk + 1 } :=
      I.turnedNew (ch := [e, it]) (fun b ob hb q => (sb.2 b (fun z => hb (by simp [z]))).trans (hk b ob (fun z => hb (by simp [z])) (fun z => hb (by simp [z])) q)) hf (Nat.le_refl _) new
    refine ⟨.ref s.heap.objs.size, _, I1, rfl, ⟨_, x, rfl, I.hok.fresh (Nat.le_refl _), rfl, fun ys hy => by rw [I.tuple_inj hy hq]; exact hx⟩, ⟨⟨y, ?_⟩, hit'.at fun o q => (sb.2 it (Ne.symm hne)).trans q, hne⟩, fun b hb => ?_⟩
    · have e1 : ((i + 1 : Nat) : Int) = (i : Int) + 1 := by omega
      rw [e1]; exact he'
    · have hb' : b < s.heap.objs.size := by
        have e' : b = e ∨ b = it := by simpa using hb
        rcases e' with z | z
        · rw [z]; exact hel
        · rw [z]; exact hil
      rw [upd_ne (Nat.ne_of_lt hb')]
      exact (hf b hb).1
  done := by
    intro X hP hw hK hc i pins s σ H E I hf st hg
    subst hP hw hK
    obtain ⟨⟨old, he⟩, hit, hne⟩ := st
    obtain ⟨xs, hq, hx⟩ := hg
    obtain ⟨its, rv, p, hz⟩ := I.tuple hq
    obtain ⟨f0, f1, f2, f3, f4, f5⟩ := hf it (by simp)
    have hl := rv.length
    have hn : its.toArray[i]? = none := by simp; omega
    have hT : s.TypeIs (.ref e) "enumerate" := ⟨_, he, rfl⟩
    unfold pyNext
    refine wpAny_bind (wpAny_attempt (wpAny_callSpecial?_slot (name := Str.ofString "__next__") hT F.slot_enumerate_next
      (wpAny_call_entry F.slot_enumerate_next hT F.entry_enumerate_next ?_ (F.args_enumerate_next_1 _))))
    show wpAny _ _ (field (.ref e) 2 >>= _) _ _ _
    refine wpAny_bind (wpAny_field he rfl (x := .ref it) rfl ?_)
    refine wpAny_bind (wpAny_nextOf_tuple_end (I.ok.hd hc) hit p hn fun h' y he' hx' => ?_)
    obtain ⟨o, ho, hc⟩ := hx'
    refine wpAny_bind (wpAny_isInstance (T := "StopIteration") (b := true) ⟨o, ho, hc⟩ isSubtype_stop ?_)
    exact wpAny_pure ⟨rfl, I.turned (t' := s.toks) (fun b o hb q => he' b o hb q) f0 f1 f3 f4 f5⟩
  self := fun A i s Q E st h => let ⟨⟨_, he⟩, _⟩ := st; wpAny_pyIter_enum he h
def iEnumA (K : PySem.W.Frag) (ta : TA) : TI := fun σ H R => ta σ H fun vs H1 => ∃ a xs, vs = [.ref a] ∧ ((SqL K H1 a xs ∧ R (Ite K a) H1) ∨ (SqT K H1 a xs ∧ R (IteT K a) H1))
theorem pi_enumA {X : Cx} {e : Expr} {ta : TA} {p pos tpos : Pos} {elts : List Expr} {kk : Nat} (hg : Gl X "enumerate") (hm : X.mg "enumerate" = none) (ha : PA X [e] ta) (hs : starEach [e] X.env = [(false, eval e X.env)] := by rfl) :
    PI X (.Tuple elts kk tpos) (.Call (.Name "enumerate" p) [e] [] pos) (iEnumA X.K ta) := by
  refine ⟨fun pins s σ H R I h => ?_⟩
  refine Call_ (ld_blt I hg hm boot_enumerate (PyProof.Rows.callWith_type1 (thn (ha.run pos pins s σ H _ I h) fun us s1 ⟨vs, H1, I1, r1, q1⟩ => ?_) hs rfl))
  obtain ⟨a, xs, ex, q1⟩ := q1
  subst ex
  cases r1 with
  | cons r rr =>
    cases rr
    cases r
    have fresh2 : ∀ b ∈ [s1.heap.objs.size + 1, s1.heap.objs.size], FpOk X pins H1 b := fun b hb => by
      have e' : b = s1.heap.objs.size + 1 ∨ b = s1.heap.objs.size := by simpa using hb
      have hle : s1.heap.objs.size ≤ b := by
        rcases e' with z | z
        · rw [z]; exact Nat.le_add_right _ _
        · rw [z]; exact Nat.le_refl _
      exact I1.fpOk hle (I1.hok.fresh hle)
    rcases q1 with ⟨hq, q⟩ | ⟨hq, q⟩
    · obtain ⟨its, rv, p', hz⟩ := I1.list hq
      refine call_enumerate_list p'.isList fun h' he hit hsz hk => wpAny_pyIter_enum he ?_
      have I2 : Inv X pins σ H1 { s1 with heap := h' } := I1.kept (t' := s1.toks) hk
      exact ⟨s1.heap.objs.size + 1, [s1.heap.objs.size + 1, s1.heap.objs.size], _, _, H1, rfl, I2, turn_enum a (s1.heap.objs.size + 1) s1.heap.objs.size, ⟨⟨.none, he⟩, hit, Nat.succ_ne_self _⟩, fresh2, q⟩
    · obtain ⟨its, rv, p', hz⟩ := I1.tuple hq
      obtain ⟨o1, ho1, _⟩ := id p'
      have hal : a < s1.heap.objs.size := Heap.lt_size ho1
      refine enum1_begins (begins_tuple a its.toArray) (show s1.heap.IsTuple a its.toArray from p') fun h' he hit hsz hk => wpAny_pyIter_enum he ?_
      have I2 : Inv X pins σ H1 { s1 with heap := h' } := I1.kept (t' := s1.toks) hk
      refine ⟨s1.heap.objs.size + 1, [s1.heap.objs.size + 1, s1.heap.objs.size], _, _, H1, rfl, I2, turn_enumT a (s1.heap.objs.size + 1) s1.heap.objs.size (Nat.ne_of_lt hal) (Nat.ne_of_gt (Nat.lt_succ_of_lt hal)), ⟨⟨.none, he⟩, ⟨_, hit, rfl, rfl⟩, Nat.succ_ne_self _⟩, fresh2, q⟩
end HT
end

section
set_option Elab.async false
set_option linter.all false
set_option maxRecDepth 100000
set_option maxHeartbeats 2000000
namespace MPS
open PySem PySem.Spec PyProof.Rows L2

section
variable {L : Lk} {C : MP.Ctx} {X : Cx} {T : Tx} {W : WM} {N : List Str} {sc : Scope}
theorem evEs_len : ∀ {ms : List MP.Ex} {env : MP.Env} {h : MP.Heap} {vs : List MP.V} {h' : MP.Heap}, MP.evEs C ms env h = .ok vs h' → vs.length = ms.length
  | [], env, h, vs, h', e => by simp only [MP.evEs] at e; cases e; rfl
  | m :: ms, env, h, vs, h', e => by
    simp only [MP.evEs] at e
    cases e1 : MP.evE C m env h with
    | ok v h1 =>
      rw [e1] at e
      simp only [MP.Res.bind] at e
      cases e2 : MP.evEs C ms env h1 with
      | ok ws h2 =>
        rw [e2] at e
        simp only [MP.Res.bind] at e
        cases e
        simp [evEs_len e2]
      | exc x h2 => rw [e2] at e; cases e
      | stuck => rw [e2] at e; cases e
    | exc x h1 => rw [e1] at e; cases e
    | stuck => rw [e1] at e; cases e
/-- an end of which more is known -/
theorem Post.known {α β : Type} {env : MP.Env} {σ : L2.St} {ρ : List Addr} {H : Hp} {RR : List Addr → Hp → α → β → Prop} {Q : β → Hp → Prop} {r : MP.Res α} {P : α → Prop} (k : ∀ v h', r = .ok v h' → P v) (p : Post L W env σ ρ H (fun ρ H v u => RR ρ H v u ∧ P v) Q r) : Post L W env σ ρ H RR Q r := by
  cases r with
  | ok v h' => exact fun ρ' H' u l s q => p ρ' H' u l s ⟨q, k v h' rfl⟩
  | exc x h' => exact p
  | stuck => exact p
theorem star_noany : ∀ {es : List Expr} {env : Env} {pos : Pos}, es.all plainB = true → (backTo pos (starEach es env)).any (·.1) = false
  | [], _, _, _ => rfl
  | e :: es, env, pos, h => by
    rw [List.all_cons, Bool.and_eq_true] at h
    rw [star_plain h.1]
    show (false || (backTo pos (starEach es env)).any (·.1)) = false
    rw [star_noany h.2]; rfl
theorem star_allno : ∀ {es : List Expr} {env : Env} {pos : Pos}, es.all plainB = true → (backTo pos (starEach es env)).all (fun x => !x.1) = true
  | [], _, _, _ => rfl
  | e :: es, env, pos, h => by
    rw [List.all_cons, Bool.and_eq_true] at h
    rw [star_plain h.1]
    show (true && (backTo pos (starEach es env)).all (fun x => !x.1)) = true
    rw [star_allno h.2]; rfl
theorem kw_all : ∀ {ns : List Str} {ks : List Keyword} {env : Env} {pos : Pos}, kwB ns ks = true → (backToKw pos (keywordEach ks env)).all (·.1.isSome) = true ∧ (backToKw pos (keywordEach ks env)).filterMap (·.1) = ns ∧ (backToKw pos (keywordEach ks env)).any (·.1.isNone) = false
  | [], [], _, _, _ => ⟨rfl, rfl, rfl⟩
  | n :: ns, ⟨some m, e, kp⟩ :: ks, env, pos, h => by
    unfold kwB at h
    rw [Bool.and_eq_true, decide_eq_true_eq] at h
    obtain ⟨rfl, h2⟩ := h
    obtain ⟨a, b, c⟩ := kw_all (env := env) (pos := pos) h2
    refine ⟨?_, ?_, ?_⟩
    · show (true && (backToKw pos (keywordEach ks env)).all (·.1.isSome)) = true
      rw [a]; rfl
    · show n :: (backToKw pos (keywordEach ks env)).filterMap (·.1) = n :: ns
      rw [b]
    · show (false || (backToKw pos (keywordEach ks env)).any (·.1.isNone)) = false
      rw [c]; rfl
  | [], _ :: _, _, _, h => by cases h
  | _ :: _, [], _, _, h => by cases h
  | _ :: _, ⟨none, _, _⟩ :: _, _, _, h => by cases h
theorem s_knil : PK X [] (tA L W (MP.evEs C [])) := ⟨fun pos pins s σ H Q I ⟨ρ, h, env, S, q⟩ => pk_nil.run pos pins s σ H Q I (by
  simp only [MP.evEs] at q
  exact q ρ H [] Le.refl S rfl)⟩
theorem s_kcons {m : MP.Ex} {ms : List MP.Ex} {n : Option Str} {e : Expr} {p : Pos} {ks : List Keyword} (h1 : PE X e (tE L W (MP.evE C m))) (h2 : PK X ks (tA L W (MP.evEs C ms))) : PK X (⟨n, e, p⟩ :: ks) (tA L W (MP.evEs C (m :: ms))) := by
  refine ⟨fun pos pins s σ H Q I ⟨ρ, h, env, S, q⟩ => (pk_cons h1 h2).run pos pins s σ H Q I ?_⟩
  simp only [MP.evEs] at q
  refine ⟨ρ, h, env, S, q.bind.imp fun u H1 ⟨ρ1, h1, v, l1, S1, r1, p1⟩ => ?_⟩
  refine ⟨ρ1, h1, env, S1, p1.bind.imp fun us H2 ⟨ρ2, h2, vs, l2, S2, r2, p2⟩ => ?_⟩
  exact p2 ρ2 H2 (u :: us) Le.refl S2 ⟨u, us, rfl, Rep.mono l2 _ _ r1, r2⟩
/-- f(.., k = ..) of the text -/
theorem s_callf (G : Gd L C X T W) {f : Nat} {es ks : List MP.Ex} {kn : List Nat} {x : Str} {p pos : Pos} {as : List Expr} {kws : List Keyword} {names : List Str} (hS : SR X.env.scope sc) (hg : glB sc x = true) (hf : T.fns.lookup x = some f)
    (hp : (f, es.length, kn, names) ∈ T.pats) (hk1 : kn.length = names.length) (hk2 : kn.length = ks.length) (hkw : kwB names kws = true) (hpl : as.all plainB = true) (h0 : as = [] → es = []) (ha : PA X as (tA L W (MP.evEs C es))) (hk : PK X kws (tA L W (MP.evEs C ks))) :
    PE X (.Call (.Name x p) as kws pos) (tE L W (MP.evE C (.callf f es kn ks))) := by
  obtain ⟨g1, g2, _⟩ := gl_of hS hg
  obtain ⟨m1, FF⟩ := G.fns x f hf
  obtain ⟨k1, k2, k3⟩ := kw_all (env := X.env) (pos := pos) hkw
  refine ⟨fun pins s σ H Q I q => ?_⟩
  simp only [MP.evE] at q
  obtain ⟨ρ, h, env, S, q⟩ := tE_gc q
  refine wpAny_Call_Name_kw (ld_glob I g1 m1 ?_ g2)
  have main : ∀ {s1 : Shared} {H1 : Hp} {us : List Value} {vs : List V}, Inv X pins σ H1 s1 → Vals vs us → Mid L W env σ ρ H (fun ρ H v u => Reps L ρ H v u ∧ v.length = es.length) (Rep L) Q (fun vs h1 => (MP.evEs C ks env h1).bind fun ws h2 => match C.P.fns f with
      | some F => match MP.bindF F vs (kn.zip ws) with
        | some as => C.call f as h2
        | none => .stuck
      | none => .stuck) vs H1 → wpAny (model X.prog X.w) X.A (evalAll ((backToKw pos (keywordEach kws X.env)).map (·.2)))
      (fun ws s₂ => X.K.In s₂.heap ∧ wpAny (model X.prog X.w) X.A (call (.ref (L.fa f)) ([] ++ us) (((backToKw pos (keywordEach kws X.env)).filterMap (·.1)).zip ws)) (EP X pins σ Q) X.xe s₂) X.xe s1 := by
    intro s1 H1 us vs I1 rv ⟨ρ1, h1, ms, l1, S1, ⟨r1, n1⟩, p1⟩
    refine thn (hk.run pos pins s1 σ H1 _ I1 ⟨ρ1, h1, env, S1, Post.known (fun v h' e => evEs_len e) p1.bind⟩) fun ws s2 ⟨zs, H2, I2, rz, ρ2, h2, ws', l2, S2, ⟨r2, n2⟩, p2⟩ => ⟨I2.kIn, ?_⟩
    rw [k2]
    dsimp only at p2
    cases eF : C.P.fns f with
    | none => rw [eF] at p2; exact p2.elim
    | some F =>
      rw [eF] at p2
      dsimp only at p2
      cases eB : MP.bindF F ms (kn.zip ws') with
      | none => rw [eB] at p2; exact p2.elim
      | some args =>
        rw [eB] at p2
        exact run_callM G FF hp I2 rv rz (Reps.mono l2 _ _ r1) r2 n1 (by rw [n2, hk2]) hk1 eF eB S2 p2
  have qk := Post.known (fun v h' e => evEs_len e) (Post.bind (RR := fun ρ H v u => Reps L ρ H v u ∧ v.length = es.length) q)
  cases as with
  | nil =>
    refine PySem.W.callWith_KW0 (h₀ := X.base) I.ok.mod.kin FF.kp k1 ?_ (by rw [k3]; rfl)
    have he := h0 rfl
    subst he
    simp only [MP.evEs] at q
    exact main I .nil ⟨ρ, h, [], Le.refl, S, ⟨rfl, rfl⟩, q⟩
  | cons e rest =>
    rw [List.all_cons, Bool.and_eq_true] at hpl
    refine PySem.W.callWith_KW (h₀ := X.base) I.ok.mod.kin FF.kp k1 ?_ (by rw [k3, star_noany (by rw [List.all_cons, hpl.1, hpl.2]; rfl)]; rfl) (star_plain hpl.1)
    refine thn (ha.run pos pins s σ H _ I ⟨ρ, h, env, S, qk⟩) fun us s1 ⟨vs, H1, I1, rv, mid⟩ => ?_
    exact main I1 rv mid
/-- a built-in function or type -/
theorem biV_eq {b : MP.Bi} {es : List MP.Ex} {σ : L2.St} {H : Hp} {Q : VK} (q : tE L W (MP.evE C (.callb b es)) σ H Q) : tCB (rBi L W b) (tA L W (MP.evEs C es)) σ H Q := by
  simp only [MP.evE] at q
  obtain ⟨ρ, h, env, S, q⟩ := tE_gc q
  exact ⟨ρ, h, env, S, q.bind.imp fun us H1 ⟨ρ1, h1, vs, l1, S1, r1, p1⟩ => ⟨ρ1, h1, env, σ, vs, S1, r1, p1⟩⟩
theorem s_callb (G : Gd L C X T W) {b : MP.Bi} {ms : List MP.Ex} {x : Str} {p pos : Pos} {e : Expr} {es : List Expr} (hS : SR X.env.scope sc) (hg : glB sc x = true) (hb : biK b = 0) (hx : x = biN b) (hm : X.mg x = none) (hpl : (e :: es).all plainB = true) (ha : PA X (e :: es) (tA L W (MP.evEs C ms))) :
    PE X (.Call (.Name x p) (e :: es) [] pos) (tE L W (MP.evE C (.callb b ms))) := by
  obtain ⟨g1, g2, g3⟩ := gl_of hS hg
  rw [List.all_cons, Bool.and_eq_true] at hpl
  have fn : ∀ {id : String}, bootBuiltins x = some (.builtin id) → CallR X (.builtin id) (rBi L W b) → PE X (.Call (.Name x p) (e :: es) [] pos) (tE L W (MP.evE C (.callb b ms))) := fun hv hc =>
    (pe_callB hc g1 hm hv ha g3 g2 (star_plain hpl.1) (star_noany hpl.2)).imp fun σ H Q q => biV_eq q
  have ty : ∀ {id : String}, bootBuiltins x = some (.type id) → CallR X (.type id) (rBi L W b) → PE X (.Call (.Name x p) (e :: es) [] pos) (tE L W (MP.evE C (.callb b ms))) := fun hv hc =>
    (pe_callTy hc g1 hm hv ha g3 g2 (star_plain hpl.1) (star_noany hpl.2)).imp fun σ H Q q => biV_eq q
  cases b with
  | len => exact fn (by subst hx; rfl) (cr_len G.hK)
  | abs => exact fn (by subst hx; rfl) cr_abs
  | all => exact fn (by subst hx; rfl) (cr_all' G.calm G.hK)
  | any => exact fn (by subst hx; rfl) (cr_any' G.calm G.hK)
  | sum => exact fn (by subst hx; rfl) (cr_sum' G.calm G.hK)
  | max2 => exact fn (by subst hx; rfl) (cr_max2 G.calm)
  | min2 => exact fn (by subst hx; rfl) (cr_min2 G.calm)
  | str => exact ty (by subst hx; rfl) cr_str
  | int => exact ty (by subst hx; rfl) cr_int
  | tuple => exact ty (by subst hx; rfl) (cr_tuple G.hK)
  | list => exact ty (by subst hx; rfl) (cr_list G.hK)
  | _ => cases hb
/-- isinstance(e, T) -/
theorem s_isin (G : Gd L C X T W) {b : MP.Bi} {m : MP.Ex} {x t : Str} {p p2 pos : Pos} {e : Expr} (hS : SR X.env.scope sc) (hg : glB sc x = true) (hb : biK b = 1) (hx : x = biN b) (hm : X.mg x = none) (hg2 : glB sc t = true) (ht : t = tyN b) (hm2 : X.mg t = none) (hpl : plainB e = true)
    (h1 : PE X e (tE L W (MP.evE C m))) : PE X (.Call (.Name x p) [e, .Name t p2] [] pos) (tE L W (MP.evE C (.callb b [m]))) := by
  obtain ⟨g1, g2, g3⟩ := gl_of hS hg
  obtain ⟨t1, t2, t3⟩ := gl_of hS hg2
  have go : ∀ {S : String} {f : Nat → Bool}, isTy b = some (S, f) → bootBuiltins x = some (.builtin "isinstance") → bootBuiltins t = some (.type S) → PE X (.Call (.Name x p) [e, .Name t p2] [] pos) (tE L W (MP.evE C (.callb b [m]))) := by
    intro S f hT hv hv2
    have ha : PA X [e, .Name t p2] _ := pa_cons h1 (pa_cons (pe_bltn (v := .ty S) t1 hm2 hv2 rfl t3 t2) pa_nil) (star_plain hpl)
    refine (pe_callB (cr_is (L := L) (W := W) G.hK b S f hT) g1 hm hv ha g3 g2 (star_plain hpl) rfl).imp fun σ H Q q => ?_
    simp only [MP.evE, MP.evEs] at q
    obtain ⟨ρ, h, env, S, q⟩ := tE_gc q
    have q : Post L W env σ ρ H (Rep L) Q ((MP.evE C m env h).bind fun v h1 => MP.biV b [v] h1) := by
      dsimp only at q
      cases e1 : MP.evE C m env h with
      | ok v h' => rw [e1] at q; exact q
      | exc x h' => rw [e1] at q; exact q
      | stuck => rw [e1] at q; exact q
    exact ⟨ρ, h, env, S, q.bind.imp fun u H1 ⟨ρ1, h1, v, l1, S1, r1, p1⟩ => ⟨u, ρ1, h1, env, σ, v, rfl, S1, r1, p1⟩⟩
  cases b with
  | isint => exact go rfl (by subst hx; rfl) (by subst ht; rfl)
  | isbool => exact go rfl (by subst hx; rfl) (by subst ht; rfl)
  | isstr => exact go rfl (by subst hx; rfl) (by subst ht; rfl)
  | istuple => exact go rfl (by subst hx; rfl) (by subst ht; rfl)
  | islist => exact go rfl (by subst hx; rfl) (by subst ht; rfl)
  | isdict => exact go rfl (by subst hx; rfl) (by subst ht; rfl)
  | _ => cases hb
/-- a method of a built-in type, by the receiver's -/
def tBMA (X : Cx) (name : Str) (r : V → List V → Hp → VK → Prop) (to : TE) (t : TA) : TE := fun σ H Q => to σ H fun x H1 => (∃ T id, PlainAttrs T ∧ Slot T name id ∧ typeOf (.builtin id) = pure (.type "method_descriptor") ∧ tyV X.K T x H1 ∧ MtR X id fun y ys H Q => y = x ∧ r y ys H Q) ∧ t σ H1 fun xs H2 => r x xs H2 Q
theorem pe_bma {o e : Expr} {es : List Expr} {to : TE} {t : TA} {name : Str} {apos cpos : Pos} {r : V → List V → Hp → VK → Prop} (ho : PE X o to) (ha : PA X (e :: es) t) (hbase : attributeBase o name X.env (eval o X.env) = eval o X.env)
    (hfew : ((backTo cpos (starEach (e :: es) X.env)).all (fun x => !x.1) && (backToKw cpos (keywordEach [] X.env)).all (fun x => x.1.isSome)
      && decide ((e :: es).length + ([] : List Keyword).length + (if ([] : List Keyword).isEmpty then 0 else 1) < 30)) = true)
    (hline : (apos.endLine == cpos.line) = true) (hs : starEach (e :: es) X.env = (false, eval e X.env) :: starEach es X.env) (hplain : (backTo cpos (starEach es X.env)).any (·.1) = false) :
    PE X (.Call (.Attribute o name apos) (e :: es) [] cpos) (tBMA X name r to t) := by
  refine ⟨fun pins s σ H Q I h => ?_⟩
  refine wpAny_Call_method_late hbase hfew hline rfl (thn (ho.run pins s σ H _ I h) fun v s1 ⟨x, H1, I1, r1, ⟨T, id, pa, slot, hty, ty, hm⟩, q1⟩ => ?_)
  obtain ⟨h1, h2⟩ := tyV_is I1 r1 ty
  refine ⟨T, id, pa, slot, hty, h1, h2, ?_⟩
  have hA := ha.run cpos pins s1 σ H1 _ I1 q1
  rw [hs] at hA ⊢
  refine Calls.callWith_builtin (by show (false || (backTo cpos (starEach es X.env)).any (·.1)) = false; rw [hplain] <;> rfl) (Calls.evalArgs_plain ?_)
  exact thn hA fun us s2 ⟨vs, H2, I2, r2, q2⟩ => hm pins s2 σ H2 x vs v us Q I2 r1 r2 ⟨rfl, q2⟩
theorem pe_bma0 {o : Expr} {to : TE} {name : Str} {apos cpos : Pos} {r : V → List V → Hp → VK → Prop} (ho : PE X o to) (hbase : attributeBase o name X.env (eval o X.env) = eval o X.env)
    (hline : (apos.endLine == cpos.line) = true) :
    PE X (.Call (.Attribute o name apos) [] [] cpos) (tBMA X name r to tNil) := by
  refine ⟨fun pins s σ H Q I h => ?_⟩
  refine wpAny_Call_method0_late hbase hline (thn (ho.run pins s σ H _ I h) fun v s1 ⟨x, H1, I1, r1, ⟨T, id, pa, slot, hty, ty, hm⟩, q1⟩ => ?_)
  obtain ⟨h1, h2⟩ := tyV_is I1 r1 ty
  exact ⟨T, id, pa, slot, hty, h1, h2, Calls.callWith_builtin rfl (PySem.evalArgs_none (hm pins s1 σ H1 x [] v [] Q I1 r1 .nil ⟨rfl, q1⟩))⟩
theorem base_of {o : Expr} {name : Str} {env : Env} {whole : Sem Value} (h : noCall o = true) : attributeBase o name env whole = whole := by
  cases o <;> first | rfl | cases h
theorem bm_tyK {X : Cx} (hK : X.K = L.K) {m : MP.Bm} {v : MP.V} {x : V} {ρ : List Addr} {h : MP.Heap} {H : Hp} (S : Sim L ρ h H) (r : Rep L ρ H v x) (e : MP.bmT m v h = true) :
    ∃ T id, PlainAttrs T ∧ Slot T (bmN m) id ∧ typeOf (.builtin id) = pure (.type "method_descriptor") ∧ tyV X.K T x H ∧ MtR X id fun y ys H Q => y = x ∧ rBm L W m y ys H Q := by
  have lst : ∀ {i : Nat}, (MP.lstAt h i).isSome = true → Rep L ρ H (.ref i) x → ∃ a, x = .ref a ∧ tyV X.K "list" x H := by
    intro i e r
    unfold MP.lstAt at e
    cases q : h[i]? with
    | none => rw [q] at e; cases e
    | some o =>
      rw [q] at e
      cases o with
      | lst ms =>
        obtain ⟨a, us, rfl, t, _⟩ := listAt_rep S (ms := ms) (by unfold MP.listAt; rw [q]) r
        exact ⟨a, rfl, .inl ⟨rfl, us, by rw [hK]; exact t⟩⟩
      | _ => cases e
  have rlst : ∀ {i : Nat}, (MP.listAt h i).isSome = true → Rep L ρ H (.ref i) x → ∃ a, x = .ref a ∧ tyV X.K "list" x H := by
    intro i e r
    cases q : MP.listAt h i with
    | none => rw [q] at e; cases e
    | some ms =>
      obtain ⟨a, us, rfl, t, _⟩ := listAt_rep S q r
      exact ⟨a, rfl, .inl ⟨rfl, us, by rw [hK]; exact t⟩⟩
  have sub : ∀ {id : String} {r : V → List V → Hp → VK → Prop}, MtR X id r → MtR X id fun y ys H Q => y = x ∧ r y ys H Q := fun k pins s σ H y ys v us Q I rx rs q => k pins s σ H y ys v us Q I rx rs q.2
  cases m with
  | append =>
    cases v with
    | ref i => obtain ⟨a, rfl, ty⟩ := lst e r; exact ⟨_, _, F.plainAttrs_list, F.slot_list_append, F.type_list_append, ty, sub mt_appendM⟩
    | _ => cases e
  | pop =>
    cases v with
    | ref i => obtain ⟨a, rfl, ty⟩ := lst e r; exact ⟨_, _, F.plainAttrs_list, F.slot_list_pop, F.type_list_pop, ty, sub mt_popM⟩
    | _ => cases e
  | join =>
    cases v with
    | str s => obtain ⟨_, rfl⟩ := r; exact ⟨_, _, F.plainAttrs_str, F.slot_str_join, F.type_str_join, rfl, sub (mt_joinM hK)⟩
    | _ => cases e
  | split =>
    cases v with
    | str s => obtain ⟨_, rfl⟩ := r; exact ⟨_, _, F.plainAttrs_str, F.slot_str_split, F.type_str_split, rfl, sub mt_splitM⟩
    | _ => cases e
  | index =>
    cases v with
    | str s =>
      obtain ⟨_, rfl⟩ := r
      exact ⟨_, _, F.plainAttrs_str, F.slot_str_index, F.type_str_index, rfl, fun pins s σ H y ys v us Q I rx rs q => mt_indexS pins s σ H y ys v us Q I rx rs ⟨⟨_, q.1⟩, q.2⟩⟩
    | ref i =>
      obtain ⟨a, rfl, ty⟩ := rlst e r
      exact ⟨_, _, F.plainAttrs_list, F.slot_list_index, F.type_list_index, ty, fun pins s σ H y ys v us Q I rx rs q => mt_indexL hK pins s σ H y ys v us Q I rx rs ⟨⟨_, q.1⟩, q.2⟩⟩
    | _ => cases e
  | count =>
    cases v with
    | str s =>
      obtain ⟨_, rfl⟩ := r
      exact ⟨_, _, F.plainAttrs_str, F.slot_str_count, F.type_str_count, rfl, fun pins s σ H y ys v us Q I rx rs q => mt_countS pins s σ H y ys v us Q I rx rs ⟨⟨_, q.1⟩, q.2⟩⟩
    | ref i =>
      obtain ⟨a, rfl, ty⟩ := rlst e r
      exact ⟨_, _, F.plainAttrs_list, F.slot_list_count, F.type_list_count, ty, fun pins s σ H y ys v us Q I rx rs q => mt_countL hK pins s σ H y ys v us Q I rx rs ⟨⟨_, q.1⟩, q.2⟩⟩
    | _ => cases e
  | _ => cases v <;> cases e
theorem bm_ty (G : Gd L C X T W) {m : MP.Bm} {v : MP.V} {x : V} {ρ : List Addr} {h : MP.Heap} {H : Hp} (S : Sim L ρ h H) (r : Rep L ρ H v x) (e : MP.bmT m v h = true) :
    ∃ T id, PlainAttrs T ∧ Slot T (bmN m) id ∧ typeOf (.builtin id) = pure (.type "method_descriptor") ∧ tyV X.K T x H ∧ MtR X id fun y ys H Q => y = x ∧ rBm L W m y ys H Q := bm_tyK G.hK S r e
theorem s_bmeth (G : Gd L C X T W) {o : MP.Ex} {m : MP.Bm} {ms : List MP.Ex} {x : Expr} {as : List Expr} {apos pos : Pos} (hl : apos.endLine = pos.line) (hn : as.length < 20) (hc : noCall x = true) (hpl : as.all plainB = true) (h0 : as = [] → ms = []) (ho : PE X x (tE L W (MP.evE C o))) (ha : PA X as (tA L W (MP.evEs C ms))) :
    PE X (.Call (.Attribute x (bmN m) apos) as [] pos) (tE L W (MP.evE C (.bmeth o m ms))) := by
  have hline : (apos.endLine == pos.line) = true := by rw [hl]; simp
  have go : ∀ {ta : TA} {σ : L2.St} {H : Hp} {Q : VK}, (∀ σ H Q, tA L W (MP.evEs C ms) σ H Q → ta σ H Q) → tE L W (MP.evE C (.bmeth o m ms)) σ H Q → tBMA X (bmN m) (rBm L W m) (tE L W (MP.evE C o)) ta σ H Q := by
    intro ta σ H Q k q
    simp only [MP.evE] at q
    obtain ⟨ρ, h, env, S, q⟩ := tE_gc q
    refine ⟨ρ, h, env, S, q.bind.imp fun u H1 ⟨ρ1, h1, v, l1, S1, r1, p1⟩ => ?_⟩
    dsimp only at p1
    split at p1
    · rename_i c
      refine ⟨bm_ty G S1.sim r1 c, k _ _ _ ⟨ρ1, h1, env, S1, p1.bind.imp fun us H2 ⟨ρ2, h2, vs, l2, S2, r2, p2⟩ => ?_⟩⟩
      exact ⟨ρ2, h2, env, σ, v, vs, S2, Rep.mono l2 _ _ r1, r2, p2⟩
    · exact p1.elim
  cases as with
  | nil =>
    have e := h0 rfl
    subst e
    exact (pe_bma0 ho (base_of hc) hline).imp fun σ H Q q => go (fun σ H Q ⟨ρ, h, env, S, q⟩ => by
      simp only [MP.evEs] at q
      exact q ρ H [] Le.refl S rfl) q
  | cons e es =>
    have hp2 := hpl
    rw [List.all_cons, Bool.and_eq_true] at hpl
    refine (pe_bma ho ha (base_of hc) ?_ hline (star_plain hpl.1) (star_noany hpl.2)).imp fun σ H Q q => go (fun σ H Q q => q) q
    rw [star_allno hp2]
    simp only [List.length_cons] at hn
    simp only [keywordEach, backToKw, List.map_nil, List.all_nil, Bool.true_and, decide_eq_true_eq, List.length_cons, List.length_nil, List.isEmpty_nil, if_true]
    omega
end
end MPS
end

section
set_option Elab.async false
set_option linter.all false
set_option maxRecDepth 100000
set_option maxHeartbeats 2000000
namespace MPS
open PySem PySem.Spec PyProof.Rows L2

/-! ### targets -/
section
variable {L : Lk} {C : MP.Ctx} {X : Cx} {T : Tx} {W : WM} {N : List Str} {sc : Scope}
theorem wipe_set {σ : L2.St} {i : Nat} {v : Option V} : ∀ {vs : List Nat}, i ∈ vs → wipe (σ.set i v) vs = wipe σ vs
  | [], h => by simp at h
  | w :: vs, h => by
    simp only [wipe]
    by_cases e : i ∈ vs
    · rw [wipe_set e]
    · have hw : i = w := by rcases List.mem_cons.mp h with h | h; exact h; exact (e h).elim
      subst hw
      have go : ∀ (ws : List Nat), i ∉ ws → wipe (σ.set i v) ws = (wipe σ ws).set i v := by
        intro ws hn
        induction ws with
        | nil => rfl
        | cons z ws ih =>
          simp only [List.mem_cons, not_or] at hn
          simp only [wipe]
          rw [ih hn.2, List.set_comm _ _ hn.1]
      rw [go vs e, List.set_set]
def gM (L : Lk) (t : MP.Tg) : TG := fun x σ H Q => ∃ ρ h env v env', Sta L ρ h env σ H ∧ Rep L ρ H v x ∧ MP.bindT h t v env = some env' ∧ ∀ σ', Sta L ρ h env' σ' H → (∀ vs, tgI vs t = true → wipe σ' vs = wipe σ vs) → Q σ' H
def gMs (L : Lk) (ts : List MP.Tg) : TGs := fun xs σ H Q => ∃ ρ h env vs env', Sta L ρ h env σ H ∧ Reps L ρ H vs xs ∧ MP.bindTs h ts vs env = some env' ∧ ∀ σ', Sta L ρ h env' σ' H → (∀ vs, tgsI vs ts = true → wipe σ' vs = wipe σ vs) → Q σ' H
theorem _root_.L2.PG.imp {e : Expr} {t t' : TG} (p : PG X e t) (k : ∀ v σ H Q, t' v σ H Q → t v σ H Q) : PG X e t' := ⟨fun pins s σ H v u Q I r q => p.run pins s σ H v u Q I r (k _ _ _ _ q)⟩
theorem _root_.L2.PGs.imp {e : List Expr} {t t' : TGs} (p : PGs X e t) (k : ∀ v σ H Q, t' v σ H Q → t v σ H Q) : PGs X e t' := ⟨fun pins s σ H v u Q I r q => p.run pins s σ H v u Q I r (k _ _ _ _ q)⟩
theorem bindTs_len {h : MP.Heap} : ∀ {ts : List MP.Tg} {vs : List MP.V} {env env' : MP.Env}, MP.bindTs h ts vs env = some env' → vs.length = ts.length
  | [], [], _, _, _ => rfl
  | t :: ts, v :: vs, env, env', e => by
    simp only [MP.bindTs] at e
    cases e1 : MP.bindT h t v env with
    | none => rw [e1] at e; cases e
    | some env1 => rw [e1] at e; simp [bindTs_len e]
  | [], _ :: _, _, _, e => by simp [MP.bindTs] at e
  | _ :: _, [], _, _, e => by simp [MP.bindTs] at e
mutual
theorem tg_ok (hS : SR X.env.scope sc) (hf : ∀ x, sc.names.lookup x = some .cell → X.fn x = true) (hK : X.K = L.K) (hc : X.calm = true) (hN : X.N.Nodup) : ∀ (t : MP.Tg) (e : Expr), tgB X.N sc t e = true → PG X e (gM L t)
  | .nm i, e, b => by
    cases e <;> first | (simp [tgB] at b; done) | skip
    rename_i x pos
    simp only [tgB, Bool.and_eq_true, decide_eq_true_eq] at b
    have pn : PG X (.Name x pos) (gName i) := by
      rcases locB_or b.2 with lc | lc
      · have lc := hS.keep lc (by decide)
        exact pg_name hN b.1 (.inl lc) (.inr lc)
      · have l2 := hS.keep lc (by decide)
        exact pg_name hN b.1 (.inr l2) (.inl (hf _ lc))
    refine pn.imp fun x σ H Q ⟨ρ, h, env, v, env', S, r, e, k⟩ => ?_
    simp only [MP.bindT] at e
    cases e
    refine k _ ⟨S.sim, S.env.set r i⟩ fun vs hv => ?_
    simp only [tgI, List.contains_eq_mem, decide_eq_true_eq] at hv
    exact wipe_set hv
  | .tp ts, e, b => by
    cases e <;> first | (simp [tgB] at b; done) | skip
    rename_i xs k pos
    simp only [tgB] at b
    obtain ⟨p, hn, hst⟩ := tgs_ok hS hf hK hc hN ts xs b
    refine ⟨fun pins s σ H v u Q I rv ⟨ρ, h, env, w, env', S, r, e, kk⟩ => ?_⟩
    cases w with
    | tup vs =>
      simp only [MP.bindT] at e
      obtain ⟨a, us, rfl, t, rs⟩ := r
      exact (pg_tup hc p hn hst).run pins s σ H _ u Q I rv ⟨a, us, rfl, by rw [hK]; exact t, by rw [Reps.length _ _ rs, bindTs_len e], ρ, h, env, vs, env', S, rs, e, fun σ' S' hw => kk σ' S' fun vs hv => hw vs (by simpa only [tgI] using hv)⟩
    | ref i =>
      simp only [MP.bindT] at e
      cases el : MP.listAt h i with
      | none => rw [el] at e; cases e
      | some vs =>
        rw [el] at e
        obtain ⟨a, us, rfl, t, rs⟩ := listAt_rep S.sim el r
        exact (pg_lst hc p hn hst).run pins s σ H _ u Q I rv ⟨a, us, rfl, by rw [hK]; exact t, by rw [Reps.length _ _ rs, bindTs_len e], ρ, h, env, vs, env', S, rs, e, fun σ' S' hw => kk σ' S' fun vs hv => hw vs (by simpa only [tgI] using hv)⟩
    | _ => simp [MP.bindT] at e
theorem tgs_ok (hS : SR X.env.scope sc) (hf : ∀ x, sc.names.lookup x = some .cell → X.fn x = true) (hK : X.K = L.K) (hc : X.calm = true) (hN : X.N.Nodup) : ∀ (ts : List MP.Tg) (es : List Expr), tgsB X.N sc ts es = true → PGs X es (gMs L ts) ∧ (assignEach es X.env).length = ts.length ∧ (assignEach es X.env).findIdx? (·.1) = none
  | [], [], _ => ⟨pgs_nil.imp fun xs σ H Q ⟨ρ, h, env, vs, env', S, r, e, k⟩ => by
      cases vs with
      | nil => simp only [MP.bindTs] at e; cases e; cases r; exact ⟨rfl, k _ S fun _ _ => rfl⟩
      | cons _ _ => simp [MP.bindTs] at e, rfl, rfl⟩
  | t :: ts, x :: xs, b => by
    simp only [tgsB, Bool.and_eq_true] at b
    have p1 := tg_ok hS hf hK hc hN t x b.1
    obtain ⟨p2, hn, hst⟩ := tgs_ok hS hf hK hc hN ts xs b.2
    have hx : assignEach (x :: xs) X.env = (false, assign x X.env) :: assignEach xs X.env := by
      cases x <;> first | rfl | (cases t <;> simp [tgB] at b)
    refine ⟨(pgs_cons p1 p2 (by rw [hx]; rfl)).imp fun us σ H Q ⟨ρ, h, env, vs, env', S, r, e, k⟩ => ?_, by rw [hx]; simp [hn], by rw [hx, List.findIdx?_cons]; simp [hst]⟩
    cases vs with
    | nil => simp [MP.bindTs] at e
    | cons v vs =>
      simp only [MP.bindTs] at e
      obtain ⟨u, us', rfl, r1, r2⟩ := r
      cases e1 : MP.bindT h t v env with
      | none => rw [e1] at e; cases e
      | some env1 =>
        rw [e1] at e
        exact ⟨u, us', rfl, ρ, h, env, v, env1, S, r1, e1, fun σ' S' hw => ⟨ρ, h, env1, vs, env', S', r2, e, fun σ2 S2 hw2 => k σ2 S2 fun ws hv => by
          simp only [tgsI, Bool.and_eq_true] at hv
          rw [hw2 ws hv.2, hw ws hv.1]⟩⟩
  | [], _ :: _, b => by simp [tgsB] at b
  | _ :: _, [], b => by simp [tgsB] at b
end

/-! ### what is walked -/
abbrev Wkp := List MP.V × List (Nat × MP.Obj)
def Wk (L : Lk) (J : It) (ρ0 : List Addr) (H0 : Hp) (p : Wkp) : Prop := ∀ (ρ : List Addr) (h : MP.Heap) (H : Hp) (i : Nat), Le L ρ0 H0 ρ H → Sim L ρ h H → MP.stays h p.2 = true →
  (∀ v, p.1[i]? = some v → J.go i H ∧ ∀ x H', J.yld i H x H' → Le L ρ H ρ H' ∧ Sim L ρ h H' ∧ Rep L ρ H' v x) ∧ (p.1.length ≤ i → J.stop i H)
def srcM (C : MP.Ctx) (k : MP.Src) (ss : List MP.Ex) (env : MP.Env) (h : MP.Heap) : MP.Res Wkp := (MP.evEs C ss env h).bind fun vs h1 => match MP.srcOf k vs h1 with
  | some p => .ok p h1
  | none => .stuck
def iM (L : Lk) (W : WM) (f : MP.Env → MP.Heap → MP.Res Wkp) : TI := fun σ H R => ∃ ρ h env, Sta L ρ h env σ H ∧ Post L W env σ ρ H (fun ρ H p J => Wk L J ρ H p) R (f env h)
theorem _root_.L2.PI.imp {t e : Expr} {w w' : TI} (p : PI X t e w) (k : ∀ σ H R, w' σ H R → w σ H R) : PI X t e w' := ⟨fun pins s σ H R I q => p.run pins s σ H R I (k _ _ _ q)⟩
theorem stays_one {h : MP.Heap} {i : Nat} {o : MP.Obj} {l : List (Nat × MP.Obj)} (hm : (i, o) ∈ l) (st : MP.stays h l = true) : h[i]? = some o := by
  unfold MP.stays at st
  exact of_decide_eq_true (List.all_eq_true.mp st _ hm)
theorem stays_list {ρ0 ρ : List Addr} {H0 H : Hp} {h : MP.Heap} {i : Nat} {a : Addr} {o : MP.Obj} {ms : List MP.V} {l : List (Nat × MP.Obj)} (hm : (i, o) ∈ l) (st : MP.stays h l = true) (ho : o = .lst ms ∨ o = .ro ms) (ea : ρ0[i]? = some a) (le : Le L ρ0 H0 ρ H) (S : Sim L ρ h H) :
    ∃ us, SqL L.K H a us ∧ Reps L ρ H ms us := by
  have e := stays_one hm st
  have el : MP.listAt h i = some ms := by
    unfold MP.listAt
    rw [e]
    rcases ho with rfl | rfl <;> rfl
  obtain ⟨b, us, eb, t, rs⟩ := listAt_rep S el (u := .ref a) ⟨a, le.ad i a ea, rfl⟩
  cases eb
  exact ⟨us, t, rs⟩
theorem wk_list {ρ0 : List Addr} {H0 : Hp} {i : Nat} {a : Addr} {o : MP.Obj} {ms : List MP.V} (ho : o = .lst ms ∨ o = .ro ms) (ea : ρ0[i]? = some a) : Wk L (Itl L.K a) ρ0 H0 (ms, [(i, o)]) := by
  intro ρ h H k le S st
  obtain ⟨us, t, rs⟩ := stays_list (by simp) st ho ea le S
  refine ⟨fun v hv => ?_, fun hl => ⟨us, t, by rw [Reps.length _ _ rs]; exact hl⟩⟩
  obtain ⟨u, hu, ru⟩ := Reps.get _ _ _ _ rs hv
  refine ⟨⟨us, u, t, hu⟩, fun x H' y => ?_⟩
  obtain ⟨rfl, y⟩ := y
  have := y us t
  rw [hu] at this
  cases this
  exact ⟨Le.refl, S, ru⟩
theorem wk_tup {ρ0 : List Addr} {H0 : Hp} {a : Addr} {ms : List MP.V} {us : List V} (t : SqT L.K H0 a us) (rs : Reps L ρ0 H0 ms us) : Wk L (Itt L.K a) ρ0 H0 (ms, []) := by
  intro ρ h H k le S st
  have t := le.tp a us t
  have rs := Reps.mono le _ _ rs
  refine ⟨fun v hv => ?_, fun hl => ⟨us, t, by rw [Reps.length _ _ rs]; exact hl⟩⟩
  obtain ⟨u, hu, ru⟩ := Reps.get _ _ _ _ rs hv
  refine ⟨⟨us, u, t, hu⟩, fun x H' y => ?_⟩
  obtain ⟨rfl, y⟩ := y
  have := y us t
  rw [hu] at this
  cases this
  exact ⟨Le.refl, S, ru⟩
theorem wk_str {ρ0 : List Addr} {H0 : Hp} {s : List Nat} (ok : okS s = true) : Wk L (Its ⟨s.toArray⟩) ρ0 H0 (s.map fun c => .str [c], []) := by
  intro ρ h H k le S st
  refine ⟨fun v hv => ?_, fun hl => by
    have hl : (s.map fun c => MP.V.str [c]).length ≤ k := hl
    show (⟨s.toArray⟩ : Str).cps.size ≤ k
    simpa using hl⟩
  rw [List.getElem?_map, Option.map_eq_some_iff] at hv
  obtain ⟨c, hc, rfl⟩ := hv
  refine ⟨by
    show k < (⟨s.toArray⟩ : Str).cps.size
    simpa using (List.getElem?_eq_some_iff.mp hc).1, fun x H' y => ?_⟩
  obtain ⟨rfl, d, hd, rfl⟩ := y
  have hd : s[k]? = some d := by simpa using hd
  rw [hc] at hd
  cases hd
  exact ⟨Le.refl, S, okS_sub ok fun d hd => by
    have : d = c := by simpa using hd
    rw [this]; exact List.mem_of_getElem? hc, rfl⟩
theorem rangeV_get {a c : Int} {n i : Nat} {v : MP.V} (e : (MP.rangeV a n c)[i]? = some v) : i < n ∧ v = .int (a + (i : Nat) * c) := by
  unfold MP.rangeV at e
  rw [List.getElem?_map, Option.map_eq_some_iff] at e
  obtain ⟨k, hk, rfl⟩ := e
  obtain ⟨h1, h2⟩ := List.getElem?_eq_some_iff.mp hk
  simp at h1 h2
  subst h2
  exact ⟨h1, rfl⟩
theorem wk_rng {ρ0 : List Addr} {H0 : Hp} {a : Int} {n : Nat} : Wk L (Itr a n) ρ0 H0 (MP.rangeV a n 1, []) := by
  intro ρ h H k le S st
  refine ⟨fun v hv => ?_, fun hl => by
    show n ≤ k
    simpa [MP.rangeV] using hl⟩
  obtain ⟨h1, rfl⟩ := rangeV_get hv
  refine ⟨h1, fun x H' y => ?_⟩
  obtain ⟨rfl, rfl⟩ := y
  exact ⟨Le.refl, S, by rw [Int.mul_one]; exact rfl⟩
theorem wk_rngC {ρ0 : List Addr} {H0 : Hp} {a c : Int} {n : Nat} : Wk L (Itc a c n) ρ0 H0 (MP.rangeV a n c, []) := by
  intro ρ h H k le S st
  refine ⟨fun v hv => ?_, fun hl => by
    show n ≤ k
    simpa [MP.rangeV] using hl⟩
  obtain ⟨h1, rfl⟩ := rangeV_get hv
  refine ⟨h1, fun x H' y => ?_⟩
  obtain ⟨rfl, rfl⟩ := y
  exact ⟨Le.refl, S, rfl⟩
theorem enumV_get : ∀ {ms : List MP.V} {k i : Nat} {v : MP.V}, (MP.enumV k ms)[i]? = some v → ∃ m, ms[i]? = some m ∧ v = .tup [.int ((k + i : Nat) : Int), m]
  | [], k, i, v, e => by simp [MP.enumV] at e
  | m :: ms, k, 0, v, e => by simp [MP.enumV] at e; exact ⟨m, rfl, by simp [← e]⟩
  | m :: ms, k, i + 1, v, e => by
    simp [MP.enumV] at e
    obtain ⟨m', h1, h2⟩ := enumV_get e
    exact ⟨m', by simpa using h1, by rw [h2]; congr 3; omega⟩
theorem enumV_len : ∀ {ms : List MP.V} {k : Nat}, (MP.enumV k ms).length = ms.length
  | [], _ => rfl
  | m :: ms, k => by simp [MP.enumV, enumV_len]
theorem tup_new {ρ : List Addr} {h : MP.Heap} {H : Hp} {T : Addr} {ms : List MP.V} {us : List V} (S : Sim L ρ h H) (hT : H T = none) (rs : Reps L ρ H ms us) : Le L ρ H ρ (upd H T (.tup us)) ∧ Sim L ρ h (upd H T (.tup us)) ∧ Rep L ρ (upd H T (.tup us)) (.tup ms) (.ref T) :=
  ⟨Le.newT hT, S.grow hT, T, us, rfl, SqT.of upd_same, Reps.mono (Le.newT hT) ms us rs⟩
theorem wk_enum {ρ0 : List Addr} {H0 : Hp} {i : Nat} {a : Addr} {o : MP.Obj} {ms : List MP.V} (ho : o = .lst ms ∨ o = .ro ms) (ea : ρ0[i]? = some a) : Wk L (Ite L.K a) ρ0 H0 (MP.enumV 0 ms, [(i, o)]) := by
  intro ρ h H k le S st
  obtain ⟨us, t, rs⟩ := stays_list (by simp) st ho ea le S
  refine ⟨fun v hv => ?_, fun hl => ⟨us, t, by rw [Reps.length _ _ rs, ← enumV_len (k := 0)]; exact hl⟩⟩
  obtain ⟨m, hm, rfl⟩ := enumV_get hv
  obtain ⟨u, hu, ru⟩ := Reps.get _ _ _ _ rs hm
  refine ⟨⟨us, u, t, hu⟩, fun x H' y => ?_⟩
  obtain ⟨T, x', rfl, hT, rfl, y⟩ := y
  have := y us t
  rw [hu] at this
  cases this
  exact tup_new S hT ⟨_, _, rfl, by simp [Rep], _, _, rfl, ru, rfl⟩
theorem wk_enumT {ρ0 : List Addr} {H0 : Hp} {a : Addr} {ms : List MP.V} {us : List V} (t : SqT L.K H0 a us) (rs : Reps L ρ0 H0 ms us) : Wk L (HT.IteT L.K a) ρ0 H0 (MP.enumV 0 ms, []) := by
  intro ρ h H k le S st
  have t := le.tp a us t
  have rs := Reps.mono le _ _ rs
  refine ⟨fun v hv => ?_, fun hl => ⟨us, t, by rw [Reps.length _ _ rs, ← enumV_len (k := 0)]; exact hl⟩⟩
  obtain ⟨m, hm, rfl⟩ := enumV_get hv
  obtain ⟨u, hu, ru⟩ := Reps.get _ _ _ _ rs hm
  refine ⟨⟨us, u, t, hu⟩, fun x H' y => ?_⟩
  obtain ⟨T, x', rfl, hT, rfl, y⟩ := y
  have := y us t
  rw [hu] at this
  cases this
  exact tup_new S hT ⟨_, _, rfl, by simp [Rep], _, _, rfl, ru, rfl⟩
theorem zipV_get : ∀ {xs ys : List MP.V} {i : Nat} {v : MP.V}, (MP.zipV xs ys)[i]? = some v → ∃ x y, xs[i]? = some x ∧ ys[i]? = some y ∧ v = .tup [x, y]
  | [], _, i, v, e => by simp [MP.zipV] at e
  | _ :: _, [], i, v, e => by simp [MP.zipV] at e
  | x :: xs, y :: ys, 0, v, e => by simp [MP.zipV] at e; exact ⟨x, y, rfl, rfl, e.symm⟩
  | x :: xs, y :: ys, i + 1, v, e => by
    simp [MP.zipV] at e
    obtain ⟨a, b, h1, h2, h3⟩ := zipV_get e
    exact ⟨a, b, by simpa using h1, by simpa using h2, h3⟩
theorem zipV_len : ∀ {xs ys : List MP.V}, (MP.zipV xs ys).length = min xs.length ys.length
  | [], _ => by simp [MP.zipV]
  | _ :: _, [] => by simp [MP.zipV]
  | x :: xs, y :: ys => by simp only [MP.zipV, List.length_cons, zipV_len]; omega
theorem wk_zip {ρ0 : List Addr} {H0 : Hp} {i j : Nat} {a b : Addr} {o p : MP.Obj} {ms ns : List MP.V} (ho : o = .lst ms ∨ o = .ro ms) (hp : p = .lst ns ∨ p = .ro ns) (ea : ρ0[i]? = some a) (eb : ρ0[j]? = some b) : Wk L (Itz L.K a b) ρ0 H0 (MP.zipV ms ns, [(i, o), (j, p)]) := by
  intro ρ h H k le S st
  obtain ⟨us, t, rs⟩ := stays_list (by simp) st ho ea le S
  obtain ⟨ws, t2, rs2⟩ := stays_list (by simp) st hp eb le S
  refine ⟨fun v hv => ?_, fun hl => ⟨us, ws, t, t2, by
    rw [Reps.length _ _ rs, Reps.length _ _ rs2]
    have hl : (MP.zipV ms ns).length ≤ k := hl
    rw [zipV_len] at hl; omega⟩⟩
  obtain ⟨m, n, hm, hn, rfl⟩ := zipV_get hv
  obtain ⟨u, hu, ru⟩ := Reps.get _ _ _ _ rs hm
  obtain ⟨w, hw, rw_⟩ := Reps.get _ _ _ _ rs2 hn
  refine ⟨⟨us, ws, u, w, t, t2, hu, hw⟩, fun x H' y => ?_⟩
  obtain ⟨T, x', y', rfl, hT, rfl, y1, y2⟩ := y
  have e1 := y1 us t
  have e2 := y2 ws t2
  rw [hu] at e1; rw [hw] at e2
  cases e1; cases e2
  exact tup_new S hT ⟨_, _, rfl, ru, _, _, rfl, rw_, rfl⟩
theorem wk_zipT {ρ0 : List Addr} {H0 : Hp} {a b : Addr} {ms ns : List MP.V} {us ws : List V} (t : SqT L.K H0 a us) (rs : Reps L ρ0 H0 ms us) (t2 : SqT L.K H0 b ws) (rs2 : Reps L ρ0 H0 ns ws) : Wk L (RZ.ItzT L.K a b) ρ0 H0 (MP.zipV ms ns, []) := by
  intro ρ h H k le S st
  have t := le.tp a us t
  have rs := Reps.mono le _ _ rs
  have t2 := le.tp b ws t2
  have rs2 := Reps.mono le _ _ rs2
  refine ⟨fun v hv => ?_, fun hl => ⟨us, ws, t, t2, by
    rw [Reps.length _ _ rs, Reps.length _ _ rs2]
    have hl : (MP.zipV ms ns).length ≤ k := hl
    rw [zipV_len] at hl; omega⟩⟩
  obtain ⟨m, n, hm, hn, rfl⟩ := zipV_get hv
  obtain ⟨u, hu, ru⟩ := Reps.get _ _ _ _ rs hm
  obtain ⟨w, hw, rw_⟩ := Reps.get _ _ _ _ rs2 hn
  refine ⟨⟨us, ws, u, w, t, t2, hu, hw⟩, fun x H' y => ?_⟩
  obtain ⟨T, x', y', rfl, hT, rfl, y1, y2⟩ := y
  have e1 := y1 us t
  have e2 := y2 ws t2
  rw [hu] at e1; rw [hw] at e2
  cases e1; cases e2
  exact tup_new S hT ⟨_, _, rfl, ru, _, _, rfl, rw_, rfl⟩

theorem srcM_len {k : MP.Src} {ss : List MP.Ex} {env : MP.Env} {σ : L2.St} {ρ : List Addr} {H : Hp} {h : MP.Heap} {R : It → Hp → Prop} (q : Post L W env σ ρ H (fun ρ H p J => Wk L J ρ H p) R (srcM C k ss env h)) :
    Post L W env σ ρ H (Reps L) (Mid L W env σ ρ H (fun ρ H v u => Reps L ρ H v u ∧ v.length = ss.length) (fun ρ H p J => Wk L J ρ H p) R (fun vs h1 => match MP.srcOf k vs h1 with
      | some p => .ok p h1
      | none => .stuck)) (MP.evEs C ss env h) := Post.known (fun v h' e => evEs_len e) q.bind
theorem src_ok {env : MP.Env} {σ : L2.St} {ρ : List Addr} {H : Hp} {h : MP.Heap} {R : It → Hp → Prop} {p : Wkp} {J : It} (S : Sta L ρ h env σ H) (q : Post L W env σ ρ H (fun ρ H p J => Wk L J ρ H p) R (.ok p h)) (w : Wk L J ρ H p) : R J H := q ρ H J Le.refl S w
theorem lim_ok {i : Int} (h : MP.lim i = true) : -(2 ^ 62) ≤ i ∧ i < 2 ^ 62 := by
  unfold MP.lim at h
  have := of_decide_eq_true h
  omega
/-- a tuple, a list, a text -/
theorem i_val (hK : X.K = L.K) {m : MP.Ex} {tg e : Expr} (he : PE X e (tE L W (MP.evE C m))) : PI X tg e (iM L W (srcM C .val [m])) := by
  refine ⟨fun pins s σ H R I ⟨ρ, h, env, S, q⟩ => ?_⟩
  have q : Post L W env σ ρ H (fun ρ H p J => Wk L J ρ H p) R ((MP.evE C m env h).bind fun v h1 => match MP.srcOf .val [v] h1 with
      | some p => .ok p h1
      | none => .stuck) := by
    unfold srcM at q
    simp only [MP.evEs] at q
    cases e1 : MP.evE C m env h with
    | ok v h' => rw [e1] at q; exact q
    | exc x h' => rw [e1] at q; exact q
    | stuck => rw [e1] at q; exact q
  refine thn (he.run pins s σ H _ I ⟨ρ, h, env, S, q.bind⟩) fun v s1 ⟨x, H1, I1, r1, ρ1, h1, mv, l1, S1, rm, p1⟩ => ?_
  have lst : ∀ {i : Nat} {a : Addr} {o : MP.Obj} {ms : List MP.V}, (o = .lst ms ∨ o = .ro ms) → h1[i]? = some o → ρ1[i]? = some a → v = .ref a → Post L W env σ ρ1 H1 (fun ρ H p J => Wk L J ρ H p) R (.ok (ms, [(i, o)]) h1) → wpAny (model X.prog X.w) X.A (pyIter v) (PIE X pins σ tg R) X.xe s1 := by
    intro i a o ms ho ei ea ev q
    subst ev
    have el : MP.listAt h1 i = some ms := by
      unfold MP.listAt
      rw [ei]
      rcases ho with rfl | rfl <;> rfl
    obtain ⟨b, us, eb, t, rs⟩ := listAt_rep S1.sim el (u := .ref a) ⟨a, ea, rfl⟩
    cases eb
    rw [← hK] at t
    obtain ⟨its, rv, p, hz⟩ := I1.list t
    have w := wk_list (L := L) (H0 := H1) ho ea
    rw [← hK] at w
    exact wpAny_pyIter_list p.isList (pi_one (tk := s1.toks) I1 _ (turn_list a _) ⟨_, Heap.get?_push_size _ rfl, rfl, rfl⟩ (src_ok S1 q w))
  simp only [MP.srcOf] at p1
  cases mv with
  | tup ms =>
    obtain ⟨a, us, rfl, t, rs⟩ := rm
    cases r1
    have w := wk_tup t rs
    rw [← hK] at t w
    obtain ⟨its, rv, p, hz⟩ := I1.tuple t
    exact wpAny_pyIter_tuple (show s1.heap.IsTuple a its.toArray from p) (pi_one (tk := s1.toks) I1 _ (turn_tuple a _) ⟨_, Heap.get?_push_size _ rfl, rfl, rfl⟩ (src_ok S1 p1 w))
  | str t =>
    obtain ⟨ok, rfl⟩ := rm
    obtain ⟨tk, rfl⟩ := r1
    have w := wk_str (L := L) (ρ0 := ρ1) (H0 := H1) ok
    have q := src_ok S1 p1 w
    cases ha : (⟨t.toArray⟩ : Str).cps.all (· < 128)
    · exact wpAny_pyIter_wide ha (pi_one (tk := s1.toks) I1 _ (turn_str _ _ tk "str_iterator" (.inr rfl)) ⟨_, Heap.get?_push_size _ rfl, rfl, rfl⟩ q)
    · exact wpAny_pyIter_ascii ha (pi_one (tk := s1.toks) I1 _ (turn_str _ _ tk "str_ascii_iterator" (.inl rfl)) ⟨_, Heap.get?_push_size _ rfl, rfl, rfl⟩ q)
  | ref i =>
    obtain ⟨a, ea, rfl⟩ := rm
    cases r1
    simp only [MP.walkOf] at p1
    cases ei : h1[i]? with
    | none => rw [ei] at p1; exact p1.elim
    | some o =>
      rw [ei] at p1
      cases o with
      | lst ms => exact lst (.inl rfl) ei ea rfl p1
      | ro ms => exact lst (.inr rfl) ei ea rfl p1
      | dct _ => exact (show False from p1).elim
      | ins _ _ => exact (show False from p1).elim
  | _ => exact (show False from p1).elim
theorem star1 {a : Expr} {env : Env} (h : plainB a = true) : starEach [a] env = [(false, eval a env)] := star_plain h
theorem star2 {a b : Expr} {env : Env} (h : plainB a = true) (h2 : plainB b = true) : starEach [a, b] env = [(false, eval a env), (false, eval b env)] := by rw [star_plain h, star1 h2]
theorem i_rng1 {m : MP.Ex} {tg a : Expr} {p pos : Pos} (hg : Gl X "range") (hm : X.mg "range" = none) (hp : plainB a = true) (ha : PA X [a] (tA L W (MP.evEs C [m]))) : PI X tg (.Call (.Name "range" p) [a] [] pos) (iM L W (srcM C .range [m])) := by
  refine (pi_range1 hg hm ha (star1 hp)).imp fun σ H R ⟨ρ, h, env, S, q⟩ => ⟨ρ, h, env, S, (srcM_len q).imp fun us H1 ⟨ρ1, h1, vs, l1, S1, ⟨rs, hl⟩, p1⟩ => ?_⟩
  match vs, hl with
  | [v], _ =>
    simp only [MP.srcOf] at p1
    obtain ⟨u, rfl, r⟩ := reps1 rs
    cases v with
    | int i =>
      cases r
      dsimp only at p1
      split at p1
      · rename_i p' e
        split at e
        · rename_i c
          cases e
          exact ⟨i, rfl, (lim_ok c).1, (lim_ok c).2, src_ok S1 p1 wk_rng⟩
        · cases e
      · exact p1.elim
    | _ => exact (show False from p1).elim
theorem i_rng2 {ss : List MP.Ex} {tg a b : Expr} {p pos : Pos} (h2 : ss.length = 2) (hg : Gl X "range") (hm : X.mg "range" = none) (hp : plainB a = true) (hp2 : plainB b = true) (ha : PA X [a, b] (tA L W (MP.evEs C ss))) : PI X tg (.Call (.Name "range" p) [a, b] [] pos) (iM L W (srcM C .range ss)) := by
  refine (pi_range2 hg hm ha (star2 hp hp2) (star1 hp2)).imp fun σ H R ⟨ρ, h, env, S, q⟩ => ⟨ρ, h, env, S, (srcM_len q).imp fun us H1 ⟨ρ1, h1, vs, l1, S1, ⟨rs, hl⟩, p1⟩ => ?_⟩
  rw [h2] at hl
  match vs, hl with
  | [v, w], _ =>
    obtain ⟨u, u2, rfl, r, r2⟩ := reps2 rs
    cases v with
    | int i =>
      cases w with
      | int j =>
        cases r; cases r2
        simp only [MP.srcOf] at p1
        split at p1
        · rename_i p' e
          split at e
          · rename_i c
            cases e
            obtain ⟨c1, c2⟩ := Bool.and_eq_true_iff.mp c
            exact ⟨i, j, rfl, ⟨(lim_ok c1).1, (lim_ok c1).2, (lim_ok c2).1, (lim_ok c2).2⟩, src_ok S1 p1 wk_rng⟩
          · cases e
        · exact p1.elim
      | _ => exact (show False from p1).elim
    | _ => exact (show False from p1).elim
theorem i_rng3 {ss : List MP.Ex} {tg a b d : Expr} {p pos : Pos} (h3 : ss.length = 3) (hg : Gl X "range") (hm : X.mg "range" = none) (hp : plainB a = true) (hp2 : plainB b = true) (hp3 : plainB d = true) (ha : PA X [a, b, d] (tA L W (MP.evEs C ss))) : PI X tg (.Call (.Name "range" p) [a, b, d] [] pos) (iM L W (srcM C .range ss)) := by
  refine (pi_range3 hg hm ha (star_plain hp) (by rw [star2 hp2 hp3]; rfl)).imp fun σ H R ⟨ρ, h, env, S, q⟩ => ⟨ρ, h, env, S, (srcM_len q).imp fun us H1 ⟨ρ1, h1, vs, l1, S1, ⟨rs, hl⟩, p1⟩ => ?_⟩
  rw [h3] at hl
  match vs, hl with
  | [v, w, z], _ =>
    obtain ⟨u, us', rfl, r, rs'⟩ := rs
    obtain ⟨u2, u3, rfl, r2, r3⟩ := reps2 rs'
    cases v with
    | int i =>
      cases w with
      | int j =>
        cases z with
        | int k =>
          cases r; cases r2; cases r3
          simp only [MP.srcOf] at p1
          split at p1
          · rename_i p' e
            split at e
            · rename_i c
              cases e
              obtain ⟨c1, c3⟩ := Bool.and_eq_true_iff.mp c
              obtain ⟨c1, c2⟩ := Bool.and_eq_true_iff.mp c1
              have c3 := of_decide_eq_true c3
              subst c3
              exact ⟨i, j, -1, _, rfl, RgC.neg (lim_ok c1).1 (lim_ok c1).2 (lim_ok c2).1 (lim_ok c2).2, src_ok S1 p1 wk_rngC⟩
            · cases e
          · exact p1.elim
        | _ => exact (show False from p1).elim
      | _ => exact (show False from p1).elim
    | _ => exact (show False from p1).elim
theorem walk_list {h : MP.Heap} {i : Nat} {p : List MP.V × Option (Nat × MP.Obj)} (e : MP.walkOf h (.ref i) = some p) : ∃ o ms, (o = .lst ms ∨ o = .ro ms) ∧ h[i]? = some o ∧ p = (ms, some (i, o)) := by
  simp only [MP.walkOf] at e
  cases ei : h[i]? with
  | none => rw [ei] at e; cases e
  | some o =>
    rw [ei] at e
    cases o with
    | lst ms => cases e; exact ⟨_, ms, .inl rfl, rfl, rfl⟩
    | ro ms => cases e; exact ⟨_, ms, .inr rfl, rfl, rfl⟩
    | _ => cases e
theorem list_of {ρ : List Addr} {h : MP.Heap} {H : Hp} {i : Nat} {o : MP.Obj} {ms : List MP.V} {u : V} (S : Sim L ρ h H) (ho : o = .lst ms ∨ o = .ro ms) (ei : h[i]? = some o) (r : Rep L ρ H (.ref i) u) : ∃ a us, u = .ref a ∧ ρ[i]? = some a ∧ SqL L.K H a us ∧ Reps L ρ H ms us := by
  have el : MP.listAt h i = some ms := by
    unfold MP.listAt
    rw [ei]
    rcases ho with rfl | rfl <;> rfl
  obtain ⟨a, ea, rfl⟩ := id r
  obtain ⟨b, us, eb, t, rs⟩ := listAt_rep S el r
  cases eb
  exact ⟨a, us, rfl, ea, t, rs⟩
theorem i_enum (hK : X.K = L.K) {m : MP.Ex} {a : Expr} {p pos tpos : Pos} {elts : List Expr} {kk : Nat} (hg : Gl X "enumerate") (hm : X.mg "enumerate" = none) (hp : plainB a = true) (ha : PA X [a] (tA L W (MP.evEs C [m]))) : PI X (.Tuple elts kk tpos) (.Call (.Name "enumerate" p) [a] [] pos) (iM L W (srcM C .enum [m])) := by
  refine (HT.pi_enumA hg hm ha (star1 hp)).imp fun σ H R ⟨ρ, h, env, S, q⟩ => ⟨ρ, h, env, S, (srcM_len q).imp fun us H1 ⟨ρ1, h1, vs, l1, S1, ⟨rs, hl⟩, p1⟩ => ?_⟩
  match vs, hl with
  | [v], _ =>
    obtain ⟨u, rfl, r⟩ := reps1 rs
    cases v with
    | ref i =>
      simp only [MP.srcOf] at p1
      cases ew : MP.walkOf h1 (.ref i) with
      | none => rw [ew] at p1; exact p1.elim
      | some w =>
        rw [ew] at p1
        obtain ⟨o, ms, ho, ei, rfl⟩ := walk_list ew
        obtain ⟨b, us, rfl, ea, t, _⟩ := list_of S1.sim ho ei r
        have w := wk_enum (L := L) (H0 := H1) ho ea
        rw [← hK] at t w
        exact ⟨b, us, rfl, .inl ⟨t, src_ok S1 p1 w⟩⟩
    | tup ms =>
      obtain ⟨b, us, rfl, t, rs⟩ := r
      have w := wk_enumT (L := L) (H0 := H1) t rs
      rw [← hK] at t w
      exact ⟨b, us, rfl, .inr ⟨t, src_ok S1 p1 w⟩⟩
    | _ => exact (show False from p1).elim
theorem i_zip (hK : X.K = L.K) {ss : List MP.Ex} {a b : Expr} {p pos tpos : Pos} {elts : List Expr} {kk : Nat} (h2 : ss.length = 2) (hg : Gl X "zip") (hm : X.mg "zip" = none) (hp : plainB a = true) (hp2 : plainB b = true) (ha : PA X [a, b] (tA L W (MP.evEs C ss))) : PI X (.Tuple elts kk tpos) (.Call (.Name "zip" p) [a, b] [] pos) (iM L W (srcM C .zip ss)) := by
  refine (RZ.pi_zipA hg hm ha (star_plain hp) (by rw [star1 hp2]; rfl)).imp fun σ H R ⟨ρ, h, env, S, q⟩ => ⟨ρ, h, env, S, (srcM_len q).imp fun us H1 ⟨ρ1, h1, vs, l1, S1, ⟨rs, hl⟩, p1⟩ => ?_⟩
  rw [h2] at hl
  match vs, hl with
  | [v, w], _ =>
    obtain ⟨u, u2, rfl, r, r2⟩ := reps2 rs
    cases v with
    | ref i =>
      cases w with
      | ref j =>
        simp only [MP.srcOf] at p1
        cases ew : MP.walkOf h1 (.ref i) with
        | none => rw [ew] at p1; exact p1.elim
        | some w =>
          cases ew2 : MP.walkOf h1 (.ref j) with
          | none => rw [ew, ew2] at p1; exact p1.elim
          | some w2 =>
            rw [ew, ew2] at p1
            obtain ⟨o, ms, ho, ei, rfl⟩ := walk_list ew
            obtain ⟨o2, ms2, ho2, ei2, rfl⟩ := walk_list ew2
            obtain ⟨b, us, rfl, ea, t, _⟩ := list_of S1.sim ho ei r
            obtain ⟨b2, us2, rfl, ea2, t2, _⟩ := list_of S1.sim ho2 ei2 r2
            have w := wk_zip (L := L) (H0 := H1) ho ho2 ea ea2
            rw [← hK] at t t2 w
            exact ⟨b, b2, us, us2, rfl, .inl ⟨t, t2, src_ok S1 p1 w⟩⟩
      | _ => exact (show False from p1).elim
    | tup ms =>
      cases w with
      | tup ns =>
        obtain ⟨a1, us1, rfl, t, rs1⟩ := r
        obtain ⟨a2, us2, rfl, t2, rs2⟩ := r2
        have w := wk_zipT t rs1 t2 rs2
        rw [← hK] at t t2 w
        exact ⟨a1, a2, us1, us2, rfl, .inr ⟨t, t2, src_ok S1 p1 w⟩⟩
      | _ => exact (show False from p1).elim
    | _ => exact (show False from p1).elim
end
end MPS
end

section
set_option Elab.async false
set_option linter.all false
set_option maxRecDepth 100000
set_option maxHeartbeats 2000000
namespace MPS
open PySem PySem.Spec PyProof.Rows L2

section
variable {L : Lk} {C : MP.Ctx} {X : Cx} {T : Tx} {W : WM} {N : List Str} {sc : Scope}
abbrev W0 : WM := fun _ _ _ _ _ => False
theorem EnvR.unset {ρ : List Addr} {H : Hp} {env : MP.Env} {σ : L2.St} (e : EnvR L ρ H env σ) (i : Nat) : EnvR L ρ H (env.set i none) (σ.set i none) := by
  refine ⟨by simp [e.len], fun j w q => ?_⟩
  by_cases hj : i = j
  · subst hj
    have hi : i < env.length := by
      have := (List.getElem?_eq_some_iff.mp q).1
      simpa using this
    rw [List.getElem?_set_self hi] at q
    cases q
  · rw [List.getElem?_set_ne hj] at q
    obtain ⟨w', e1, r1⟩ := e.at_ j w q
    exact ⟨w', by rw [List.getElem?_set_ne hj]; exact e1, r1⟩
theorem EnvR.wipe {ρ : List Addr} {H : Hp} {env : MP.Env} {σ : L2.St} (e : EnvR L ρ H env σ) : ∀ vs : List Nat, EnvR L ρ H (MP.wipeE env vs) (wipe σ vs)
  | [] => e
  | v :: vs => (EnvR.wipe e vs).unset v
theorem wipe_sub {σ : L2.St} {vs : List Nat} : ∀ {ws : List Nat}, (∀ i ∈ ws, i ∈ vs) → wipe (wipe σ ws) vs = wipe σ vs
  | [], _ => rfl
  | w :: ws, h => by
    simp only [wipe]
    rw [wipe_set (h w (by simp)), wipe_sub fun i hi => h i (List.mem_cons_of_mem _ hi)]
/-- the context of a comprehension's block -/
theorem Gd.blk (G : Gd L C X T W) (s : Shared) (H : Hp) (scope : Scope) (cenv : Env) (fp : List Addr) : Gd L C (X.blk s H scope cenv fp) T W0 := by
  refine ⟨G.hK, G.calm, G.nd, G.un, G.rm, ?_, fun x f e => ⟨(G.fns x f e).1, (G.fns x f e).2.kp, (G.fns x f e).2.ok⟩, G.glb, G.free, G.clss, fun c hc => (G.exc c hc).to (G.exc c hc).rs rfl fun f1 f2 z => ⟨z.ox, z.fn, z.n1, z.n2, z.ne, z.nf⟩, G.ats, G.xcl⟩
  intro u s' q
  obtain ⟨a, B, sI, pins, σ, H, cls, d, e, I, nb, up, sky, na, os, ag, w⟩ := q
  obtain ⟨ρ, h, env, x, _, _, z⟩ := w
  exact z
theorem tT_gc1 {f : RM} {σ : L2.St} {H : Hp} {Q : Bool → Hp → Prop} (q : tT L W (fun env h => MP.truth (MP.gcR h (f env h))) σ H Q) : tT L W (fun env h => MP.truth (f env h)) σ H Q := by
  obtain ⟨ρ, h, env, S, p0⟩ := q
  refine ⟨ρ, h, env, S, ?_⟩
  dsimp only at p0 ⊢
  have p : Post L W env σ ρ H (Rep L) (fun x H' => ∃ k, x = .bl k ∧ Q k H') (MP.gcR h (f env h)) := by
    cases e : MP.gcR h (f env h) with
    | ok v h' =>
      rw [e] at p0
      cases v with
      | bl b => exact fun ρ' H' u l s r => ⟨b, r, p0 ρ' H' b l s rfl⟩
      | _ => exact (show False from p0).elim
    | exc x h' => rw [e] at p0; exact p0
    | stuck => rw [e] at p0; exact p0
  have p := p.gc S
  cases e : f env h with
  | ok v h' =>
    rw [e] at p p0
    have hv : ∃ b, v = .bl b := by
      unfold MP.gcR at p0
      dsimp only at p0
      split at p0 <;> cases v <;> first | exact ⟨_, rfl⟩ | exact (show False from p0).elim
    obtain ⟨b, rfl⟩ := hv
    intro ρ' H' u l s r
    cases r
    obtain ⟨k, ek, hq⟩ := p ρ' H' (.bl b) l s rfl
    cases ek
    exact hq
  | exc x h' => rw [e] at p; exact p
  | stuck => rw [e] at p; exact p
theorem ts_nil : PTs X [] (tT L W (MP.evT C [])) := ⟨fun pins s σ H Q I ⟨ρ, h, env, S, q⟩ => pts_nil.run pins s σ H Q I (by
  simp only [MP.evT] at q
  exact q ρ H true Le.refl S rfl)⟩
theorem ts_one {m : MP.Ex} {e : Expr} (p : PT X e (tT L W (tv C m))) : PTs X [e] (tT L W (MP.evT C [m])) := by
  refine ⟨fun pins s σ H Q I q => (pts_one p).run pins s σ H Q I (tT_gc1 ?_)⟩
  obtain ⟨ρ, h, env, S, q⟩ := q
  refine ⟨ρ, h, env, S, ?_⟩
  simp only [MP.evT] at q ⊢
  cases e : MP.truth (MP.gcR h (MP.evE C m env h)) with
  | ok b h' => rw [e] at q; cases b <;> exact q
  | exc x h' => rw [e] at q; exact q
  | stuck => rw [e] at q; exact q
/-- what a comprehension wants, from a run of M -/
theorem s_comp_go (hK : X.K = L.K) {elt : MP.Ex} {tg : MP.Tg} {k : MP.Src} {ss tests : List MP.Ex} {own : List Nat} (ht : tgI own tg = true) {σ : L2.St} {H : Hp} {Q : VK} (q : tE L W (MP.evE C (.comp elt tg k ss tests own)) σ H Q) :
    tLc (iM L W (srcM C k ss)) (gM L tg) (tT L W0 (MP.evT C tests)) (tE L W0 (MP.evE C elt)) own σ H Q := by
  obtain ⟨ρ, h, env, S, q⟩ := q
  simp only [MP.evE] at q
  have q : Post L W env σ ρ H (Rep L) Q ((srcM C k ss env h).bind fun p h1 => MP.compL (fun e g => MP.evE C elt e g) (fun e g => MP.evT C tests e g) (MP.wipeE env own) tg p.2 h1.length p.1 (h1 ++ [.lst []])) := by
    unfold srcM
    cases e1 : MP.evEs C ss env h with
    | ok v h' =>
      rw [e1] at q
      simp only [MP.Res.bind] at q ⊢
      cases e2 : MP.srcOf k v h' with
      | none => rw [e2] at q; exact q
      | some p => rw [e2] at q; exact q
    | exc x h' => rw [e1] at q; exact q
    | stuck => rw [e1] at q; exact q
  refine ⟨ρ, h, env, S, q.bind.imp fun J H1 ⟨ρ1, h1, p, l1, S1, wk, q1⟩ => ?_⟩
  dsimp only at q1
  intro D hD
  obtain ⟨xs, st⟩ := p
  dsimp only at q1
  have lD : Le L ρ1 H1 (ρ1 ++ [D]) (upd H1 D (.lst [])) := Le.new hD
  have aD : (ρ1 ++ [D])[h1.length]? = some D := by rw [← S1.sim.len]; simp
  have SD : Sim L (ρ1 ++ [D]) (h1 ++ [.lst []]) (upd H1 D (.lst [])) := S1.sim.push hD ⟨[], upd_same, rfl⟩
  let run := fun (ys : List MP.V) (h' : MP.Heap) => MP.compL (fun e g => MP.evE C elt e g) (fun e g => MP.evT C tests e g) (MP.wipeE env own) tg st h1.length ys h'
  let Wi := fun (i : Nat) (H' : Hp) => i ≤ xs.length ∧ ∃ ρ' h', Le L (ρ1 ++ [D]) (upd H1 D (.lst [])) ρ' H' ∧ Sim L ρ' h' H' ∧ Post L W env σ ρ' H' (Rep L) Q (run (xs.drop i) h')
  refine ⟨fun i m H' => m = xs.length - i ∧ Wi i H', ⟨xs.length, by simp, Nat.zero_le _, ρ1 ++ [D], h1 ++ [.lst []], Le.refl, SD, by simpa only [run, List.drop_zero] using Post.mono lD q1⟩, ?_⟩
  rintro i m H' ⟨rfl, hi, ρ', h', l', S', q'⟩
  have lw := (wk ρ' h' H' i (lD.trans l') S')
  have eD : ρ'[h1.length]? = some D := l'.ad _ _ aD
  by_cases hlt : i < xs.length
  · obtain ⟨v, hv⟩ : ∃ v, xs[i]? = some v := ⟨xs[i], by simp [hlt]⟩
    have hdrop : xs.drop i = v :: xs.drop (i + 1) := by
      rw [List.drop_eq_getElem_cons hlt]
      congr 1
      have := List.getElem?_eq_getElem hlt
      rw [this] at hv
      exact Option.some.inj hv
    rw [hdrop] at q'
    simp only [run, MP.compL] at q'
    by_cases hst : MP.stays h' st = true
    · rw [if_pos hst] at q'
      obtain ⟨hgo, hy⟩ := (lw hst).1 v hv
      cases eb : MP.bindT h' tg v (MP.wipeE env own) with
      | none => rw [eb] at q'; exact q'.elim
      | some env1 =>
        rw [eb] at q'
        dsimp only at q'
        refine .inr ⟨hgo, Wi (i + 1), fun H2 w => ⟨_, by omega, rfl, w⟩, fun x H2 y => ?_⟩
        obtain ⟨l2, S2, r2⟩ := hy x H2 y
        have l12 := (lD.trans l').trans l2
        have E2 : EnvR L ρ' H2 (MP.wipeE env own) (wipe σ own) := (S1.env.mono l12).wipe own
        refine ⟨ρ', h', _, v, env1, ⟨S2, E2⟩, r2, eb, fun σ2 S3 hw => ?_⟩
        refine ⟨by rw [hw own ht, wipe_sub fun _ h => h], ρ', h', env1, S3, ?_⟩
        -- the tests
        cases et : MP.evT C tests env1 h' with
        | exc x h2 => rw [et] at q'; exact q'.elim
        | stuck => rw [et] at q'; exact q'.elim
        | ok b h2 =>
          rw [et] at q'
          intro ρ3 H3 u l3 S3 r3
          have r3 : u = b := r3
          subst r3
          cases u with
          | false =>
            rw [if_neg Bool.false_ne_true]
            exact ⟨hlt, ρ3, h2, l'.trans (l2.trans l3), S3.sim, Post.mono (l2.trans l3) q'⟩
          | true =>
            rw [if_pos rfl]
            refine ⟨ρ3, h2, env1, S3, Post.gc S3 ?_⟩
            dsimp only at q'
            cases ee : MP.gcR h2 (MP.evE C elt env1 h2) with
            | exc x h3 => rw [ee] at q'; exact q'.elim
            | stuck => rw [ee] at q'; exact q'.elim
            | ok y h3 =>
              rw [ee] at q'
              dsimp only at q'
              intro ρ4 H4 u l4 S4 r4
              have e4 : ρ4[h1.length]? = some D := l4.ad _ _ (l3.ad _ _ (l2.ad _ _ eD))
              cases eo : h3[h1.length]? with
              | none => rw [eo] at q'; exact q'.elim
              | some ob =>
                rw [eo] at q'
                cases ob with
                | lst acc =>
                  dsimp only at q'
                  obtain ⟨us, hus, rus⟩ := S4.sim.obj _ _ _ e4 eo
                  by_cases hl : acc.length < MP.LINE
                  · rw [if_pos hl] at q'
                    have lw : Le L ρ4 H4 ρ4 (upd H4 D (.lst (us ++ [u]))) := Le.write hus (fun _ z => nomatch z) fun _ _ z => nomatch z
                    refine ⟨us, hus, by rw [Reps.length _ _ rus, ← LINE_line]; exact hl, hlt, ρ4, _, (l'.trans (l2.trans (l3.trans l4))).trans lw, ?_, Post.mono ((l2.trans (l3.trans l4)).trans lw) q'⟩
                    exact S4.sim.write e4 eo rfl rfl hus (fun _ z => nomatch z) (fun _ _ z => nomatch z) ⟨_, upd_same, Reps.mono lw _ _ (Reps.app _ _ _ _ rus ⟨u, [], rfl, r4, rfl⟩)⟩
                  · rw [if_neg hl] at q'; exact q'.elim
                | _ => exact (show False from q').elim
    · rw [if_neg hst] at q'; exact q'.elim
  · have hx : xs.drop i = [] := List.drop_eq_nil_of_le (by omega)
    rw [hx] at q'
    simp only [run, MP.compL] at q'
    by_cases hst : MP.stays h' st = true
    · rw [if_pos hst] at q'
      exact .inl ⟨(lw hst).2 (by show xs.length ≤ i; omega), q' ρ' H' _ Le.refl ⟨S', S1.env.mono (lD.trans l')⟩ ⟨D, eD, rfl⟩⟩
    · rw [if_neg hst] at q'; exact q'.elim
end
end MPS
end

section
set_option Elab.async false
set_option linter.all false
set_option maxRecDepth 100000
set_option maxHeartbeats 2000000
namespace MPS
open PySem PySem.Spec PyProof.Rows L2

section
variable {L : Lk} {C : MP.Ctx} {X : Cx} {T : Tx} {W : WM} {N : List Str} {sc : Scope}
/-- what a comprehension with two generators wants, from a run of M -/
theorem s_comp2_go (hK : X.K = L.K) {elt s2 : MP.Ex} {tg1 tg2 : MP.Tg} {k : MP.Src} {ss : List MP.Ex} {own : List Nat} (ht : tgI own tg1 = true) (ht2 : tgI tg2.names tg2 = true) (hown : ∀ i ∈ tg2.names, i ∈ own) {σ : L2.St} {H : Hp} {Q : VK} (q : tE L W (MP.evE C (.comp2 elt tg1 k ss tg2 s2 own)) σ H Q) :
    tLc2 (iM L W (srcM C k ss)) (gM L tg1) (tT L W0 (MP.evT C [])) (iM L W0 (srcM C .val [s2])) (gM L tg2) (tT L W0 (MP.evT C [])) (tE L W0 (MP.evE C elt)) own tg2.names σ H Q := by
  obtain ⟨ρ, h, env, S, q⟩ := q
  simp only [MP.evE] at q
  obtain ⟨bd, hbd⟩ : ∃ bd : Nat → MP.Env → MP.Heap → MP.Res MP.V, bd = fun D e g => (MP.evE C s2 e g).bind fun v g1 => match MP.srcOf .val [v] g1 with
        | some (ys, st2) => MP.compL (fun e g => MP.evE C elt e g) (fun _ g => .ok true g) (MP.wipeE e tg2.names) tg2 st2 D ys g1
        | none => .stuck := ⟨_, rfl⟩
  have q : Post L W env σ ρ H (Rep L) Q ((srcM C k ss env h).bind fun p h1 => MP.compO (bd h1.length) (MP.wipeE env own) tg1 p.2 h1.length p.1 (h1 ++ [.lst []])) := by
    rw [hbd]
    unfold srcM
    cases e1 : MP.evEs C ss env h with
    | ok v h' =>
      rw [e1] at q
      simp only [MP.Res.bind] at q ⊢
      cases e2 : MP.srcOf k v h' with
      | none => rw [e2] at q; exact q
      | some p => rw [e2] at q; exact q
    | exc x h' => rw [e1] at q; exact q
    | stuck => rw [e1] at q; exact q
  refine ⟨ρ, h, env, S, q.bind.imp fun J H1 ⟨ρ1, h1, p, l1, S1, wk, q1⟩ => ?_⟩
  dsimp only at q1
  intro D hD
  obtain ⟨xs, st⟩ := p
  dsimp only at q1
  have lD : Le L ρ1 H1 (ρ1 ++ [D]) (upd H1 D (.lst [])) := Le.new hD
  have aD : (ρ1 ++ [D])[h1.length]? = some D := by rw [← S1.sim.len]; simp
  have SD : Sim L (ρ1 ++ [D]) (h1 ++ [.lst []]) (upd H1 D (.lst [])) := S1.sim.push hD ⟨[], upd_same, rfl⟩
  let run := fun (ys : List MP.V) (h' : MP.Heap) => MP.compO (bd h1.length) (MP.wipeE env own) tg1 st h1.length ys h'
  let Wi := fun (i : Nat) (H' : Hp) => i ≤ xs.length ∧ ∃ ρ' h', Le L (ρ1 ++ [D]) (upd H1 D (.lst [])) ρ' H' ∧ Sim L ρ' h' H' ∧ Post L W env σ ρ' H' (Rep L) Q (run (xs.drop i) h')
  refine ⟨fun i m H' => m = xs.length - i ∧ Wi i H', ⟨xs.length, by simp, Nat.zero_le _, ρ1 ++ [D], h1 ++ [.lst []], Le.refl, SD, by simpa only [run, List.drop_zero] using Post.mono lD q1⟩, ?_⟩
  rintro i m H' ⟨rfl, hi, ρ', h', l', S', q'⟩
  have lw := (wk ρ' h' H' i (lD.trans l') S')
  have eD : ρ'[h1.length]? = some D := l'.ad _ _ aD
  by_cases hlt : i < xs.length
  · obtain ⟨v, hv⟩ : ∃ v, xs[i]? = some v := ⟨xs[i], by simp [hlt]⟩
    have hdrop : xs.drop i = v :: xs.drop (i + 1) := by
      rw [List.drop_eq_getElem_cons hlt]
      congr 1
      have := List.getElem?_eq_getElem hlt
      rw [this] at hv
      exact Option.some.inj hv
    rw [hdrop] at q'
    simp only [run, MP.compO] at q'
    by_cases hst : MP.stays h' st = true
    · rw [if_pos hst] at q'
      obtain ⟨hgo, hy⟩ := (lw hst).1 v hv
      cases eb : MP.bindT h' tg1 v (MP.wipeE env own) with
      | none => rw [eb] at q'; exact q'.elim
      | some env1 =>
        rw [eb] at q'
        dsimp only at q'
        refine .inr ⟨hgo, Wi (i + 1), fun H2 w => ⟨_, by omega, rfl, w⟩, fun x H2 y => ?_⟩
        obtain ⟨l2, S2, r2⟩ := hy x H2 y
        have l12 := (lD.trans l').trans l2
        have E2 : EnvR L ρ' H2 (MP.wipeE env own) (wipe σ own) := (S1.env.mono l12).wipe own
        refine ⟨ρ', h', _, v, env1, ⟨S2, E2⟩, r2, eb, fun σ2 S3 hw => ?_⟩
        refine ⟨by rw [hw own ht, wipe_sub fun _ h => h], ρ', h', env1, S3, ?_⟩
        simp only [MP.evT]
        intro ρ3 H3 u l3 S3 r3
        have r3 : u = true := r3
        subst r3
        rw [if_pos rfl]
        -- the inner walk
        refine ⟨ρ3, h', env1, S3, ?_⟩
        cases hb0 : bd h1.length env1 h' with
        | exc x h2 => rw [hb0] at q'; exact q'.elim
        | stuck => rw [hb0] at q'; exact q'.elim
        | ok y0 hend =>
          rw [hb0] at q'
          dsimp only at q'
          rw [hbd] at hb0
          dsimp only at hb0
          unfold srcM
          simp only [MP.evEs]
          cases es : MP.evE C s2 env1 h' with
          | exc x h2 => rw [es] at hb0; cases hb0
          | stuck => rw [es] at hb0; cases hb0
          | ok w g1 =>
            rw [es] at hb0
            simp only [MP.Res.bind] at hb0 ⊢
            cases eo : MP.srcOf .val [w] g1 with
            | none => rw [eo] at hb0; cases hb0
            | some p2 =>
              rw [eo] at hb0
              obtain ⟨ys, st2⟩ := p2
              dsimp only at hb0 ⊢
              intro ρ4 H4 J2 l4 S4 wk2
              let run2 := fun (zs : List MP.V) (g : MP.Heap) => MP.compL (fun e g => MP.evE C elt e g) (fun _ g => .ok true g) (MP.wipeE env1 tg2.names) tg2 st2 h1.length zs g
              have l14 := l'.trans (l2.trans (l3.trans l4))
              let W2 := fun (j : Nat) (H' : Hp) => j ≤ ys.length ∧ ∃ ρ' g', Le L ρ4 H4 ρ' H' ∧ Sim L ρ' g' H' ∧ run2 (ys.drop j) g' = .ok y0 hend
              have q'' := Post.mono (l2.trans (l3.trans l4)) q'
              refine ⟨fun j m H' => m = ys.length - j ∧ W2 j H', ⟨ys.length, by simp, Nat.zero_le _, ρ4, g1, Le.refl, S4.sim, by simpa only [run2, List.drop_zero] using hb0⟩, ?_⟩
              rintro j m H5 ⟨rfl, hj, ρ5, g5, l5, S5, q5⟩
              have lw2 := wk2 ρ5 g5 H5 j l5 S5
              by_cases hlt2 : j < ys.length
              · obtain ⟨v2, hv2⟩ : ∃ v, ys[j]? = some v := ⟨ys[j], by simp [hlt2]⟩
                have hdrop2 : ys.drop j = v2 :: ys.drop (j + 1) := by
                  rw [List.drop_eq_getElem_cons hlt2]
                  congr 1
                  have := List.getElem?_eq_getElem hlt2
                  rw [this] at hv2
                  exact Option.some.inj hv2
                rw [hdrop2] at q5
                simp only [run2, MP.compL] at q5
                by_cases hst2 : MP.stays g5 st2 = true
                · rw [if_pos hst2] at q5
                  obtain ⟨hgo2, hy2⟩ := (lw2 hst2).1 v2 hv2
                  cases eb2 : MP.bindT g5 tg2 v2 (MP.wipeE env1 tg2.names) with
                  | none => rw [eb2] at q5; cases q5
                  | some env2 =>
                    rw [eb2] at q5
                    dsimp only at q5
                    refine .inr ⟨hgo2, W2 (j + 1), fun H2 w => ⟨_, by omega, rfl, w⟩, fun x H6 y => ?_⟩
                    obtain ⟨l6, S6, r6⟩ := hy2 x H6 y
                    have E6 : EnvR L ρ5 H6 (MP.wipeE env1 tg2.names) (wipe σ2 tg2.names) := (S4.env.mono (l5.trans l6)).wipe _
                    refine ⟨ρ5, g5, _, v2, env2, ⟨S6, E6⟩, r6, eb2, fun σ3 S7 hw3 => ?_⟩
                    refine ⟨by rw [hw3 _ ht2, wipe_sub fun _ h => h], ρ5, g5, env2, S7, ?_⟩
                    simp only [MP.evT]
                    intro ρ7 H7 u l7 S7 r7
                    have r7 : u = true := r7
                    subst r7
                    rw [if_pos rfl]
                    refine ⟨ρ7, g5, env2, S7, Post.gc S7 ?_⟩
                    cases ee : MP.gcR g5 (MP.evE C elt env2 g5) with
                    | exc x h3 => rw [ee] at q5; cases q5
                    | stuck => rw [ee] at q5; cases q5
                    | ok y h3 =>
                      rw [ee] at q5
                      dsimp only at q5
                      intro ρ8 H8 u l8 S8 r8
                      have e8 : ρ8[h1.length]? = some D := l8.ad _ _ (l7.ad _ _ (l6.ad _ _ (l5.ad _ _ (l4.ad _ _ (l3.ad _ _ (l2.ad _ _ eD))))))
                      cases eo : h3[h1.length]? with
                      | none => rw [eo] at q5; cases q5
                      | some ob =>
                        rw [eo] at q5
                        cases ob with
                        | lst acc =>
                          dsimp only at q5
                          obtain ⟨us, hus, rus⟩ := S8.sim.obj _ _ _ e8 eo
                          by_cases hl : acc.length < MP.LINE
                          · rw [if_pos hl] at q5
                            have lw : Le L ρ8 H8 ρ8 (upd H8 D (.lst (us ++ [u]))) := Le.write hus (fun _ z => nomatch z) fun _ _ z => nomatch z
                            refine ⟨us, hus, by rw [Reps.length _ _ rus, ← LINE_line]; exact hl, hlt2, ρ8, _, (l5.trans (l6.trans (l7.trans l8))).trans lw, ?_, q5⟩
                            exact S8.sim.write e8 eo rfl rfl hus (fun _ z => nomatch z) (fun _ _ z => nomatch z) ⟨_, upd_same, Reps.mono lw _ _ (Reps.app _ _ _ _ rus ⟨u, [], rfl, r8, rfl⟩)⟩
                          · rw [if_neg hl] at q5; cases q5
                        | _ => cases q5
                · rw [if_neg hst2] at q5; cases q5
              · have hx : ys.drop j = [] := List.drop_eq_nil_of_le (by omega)
                rw [hx] at q5
                simp only [run2, MP.compL] at q5
                by_cases hst2 : MP.stays g5 st2 = true
                · rw [if_pos hst2] at q5
                  cases q5
                  exact .inl ⟨(lw2 hst2).2 (by show ys.length ≤ j; omega), hlt, ρ5, _, l14.trans l5, S5, Post.mono l5 q''⟩
                · rw [if_neg hst2] at q5; cases q5
    · rw [if_neg hst] at q'; exact q'.elim
  · have hx : xs.drop i = [] := List.drop_eq_nil_of_le (by omega)
    rw [hx] at q'
    simp only [run, MP.compO] at q'
    by_cases hst : MP.stays h' st = true
    · rw [if_pos hst] at q'
      exact .inl ⟨(lw hst).2 (by show xs.length ≤ i; omega), q' ρ' H' _ Le.refl ⟨S', S1.env.mono (lD.trans l')⟩ ⟨D, eD, rfl⟩⟩
    · rw [if_neg hst] at q'; exact q'.elim
end
end MPS
end

section
set_option Elab.async false
set_option linter.all false
set_option maxRecDepth 100000
set_option maxHeartbeats 1000000
namespace MPS
open PySem PySem.Spec PyProof.Rows L2

/-! ### list(zip(..)) of two tuples -/
theorem zip_nolen : typeLookup (.type "zip") "__len__" = pure none := am_miss_of_fast (by first | rfl | decide +kernel)
theorem zip_nohint : typeLookup (.type "zip") "__length_hint__" = pure none := am_miss_of_fast (by first | rfl | decide +kernel)
section
variable {prog : Program} {w : World} {A : Around} {E : Value → Shared → Prop} {s : Shared}
/-- next of a zip whose last tuple is still there -/
theorem lz_raw {z p r T u v a b : Addr} {f : Bool} {oT : Obj} {m n : Nat} {xs ys : Array Value} {x y : Value} {Q : Option Value → Shared → Prop} (D : ZipApart z p r u v a b)
    (gz : IsZipHeld s.heap z p r T f) (gT : s.heap.get? T = some oT) (gp : IsPair s.heap p (.ref u) (.ref v)) (gu : s.heap.IsTupleIter u a m) (gv : s.heap.IsTupleIter v b n) (ga : s.heap.IsTuple a xs) (gb : s.heap.IsTuple b ys)
    (ex : xs[m]? = some x) (ey : ys[n]? = some y)
    (k : ∀ g, IsZipHeld g z p r T true → g.IsTupleIter u a (m + 1) → g.IsTupleIter v b (n + 1) → IsPair g s.heap.objs.size x y → (∀ c o, c ≠ z → c ≠ u → c ≠ v → s.heap.get? c = some o → g.get? c = some o) → Q (some (.ref s.heap.objs.size)) { s with heap := g }) :
    wpAny (model prog w) A (pyNext (.ref z)) Q E s := by
  have ty : s.TypeIs (.ref z) "zip" := ⟨_, gz, rfl⟩
  have body : ∀ (A' : Around) (Q1 : Value → Shared → Prop) (E' : Value → Shared → Prop), (∀ g, IsZipHeld g z p r T true → g.IsTupleIter u a (m + 1) → g.IsTupleIter v b (n + 1) → IsPair g s.heap.objs.size x y → (∀ c o, c ≠ z → c ≠ u → c ≠ v → s.heap.get? c = some o → g.get? c = some o) → Q1 (.ref s.heap.objs.size) { s with heap := g }) →
      wpAny (model prog w) A' (Builtin.«zip.__next__» ⟨[.ref z], []⟩) (fun fin s' => ∃ v, fin = .done (.ret v) ∧ Q1 v s') E' s := by
    intro A' Q1 E' k
    show wpAny _ _ (field (.ref z) 2 >>= fun _ => _) _ _ _
    refine wpAny_bind (wpAny_field (x := .bool false) gz rfl rfl ?_)
    show wpAny _ _ (field (.ref z) 3 >>= fun _ => _) _ _ _
    refine wpAny_bind (wpAny_field (x := .ref p) gz rfl rfl ?_)
    refine wpAny_bind (wpAny_seqItems gp rfl ?_)
    show wpAny _ _ (Builtin.SmallTypes.ownedTupleIsFree (.ref z) >>= fun _ => _) _ _ _
    refine wpAny_bind (wpAny_tupleHeld_zip gz gT fun g1 z1 e1 => ?_)
    simp only [if_false, Bool.false_eq_true]
    refine wpAny_bind ?_
    rw [← Array.forIn_toList]
    simp only [List.forIn_nil, List.forIn_cons]
    refine wpAny_bind (wpAny_bind (wpAny_holding ?_))
    show wpAny _ _ (Builtin.SmallTypes.nextOf (.ref u) >>= fun _ => _) _ _ _
    refine wpAny_bind (RZ.nextOf_tuple_item (s := { s with heap := g1 }) (gu.extBut e1.extBut D.i1z) (ga.extBut e1.extBut D.l1z) ex fun g2 u2 e2 => wpAny_pure (wpAny_pure ?_))
    refine wpAny_bind (wpAny_bind (wpAny_holding ?_))
    show wpAny _ _ (Builtin.SmallTypes.nextOf (.ref v) >>= fun _ => _) _ _ _
    refine wpAny_bind (RZ.nextOf_tuple_item (s := { s with heap := g2 }) ((gv.extBut e1.extBut D.i2z).extBut e2.extBut D.i12.symm) ((gb.extBut e1.extBut D.l2z).extBut e2.extBut D.l2i1) ey fun g3 v3 e3 => wpAny_pure (wpAny_pure (wpAny_pure ?_)))
    show wpAny _ _ (newTuple [x, y] >>= fun _ => _) _ _ _
    have sz : g3.objs.size = s.heap.objs.size := e3.1.trans (e2.1.trans e1.1)
    have old : ∀ c o, c ≠ z → c ≠ u → c ≠ v → s.heap.get? c = some o → g3.get? c = some o := fun c o n1 n2 n3 e => e3.extBut _ _ n3 (e2.extBut _ _ n2 (e1.extBut _ _ n1 e))
    have zz : IsZipHeld g3 z p r T true := e3.extBut _ _ D.i2z.symm (e2.extBut _ _ D.i1z.symm z1)
    have uu : g3.IsTupleIter u a (m + 1) := u2.extBut e3.extBut D.i12
    refine wpAny_bind (wpAny_newTuple (wpAny_pure ⟨_, rfl, ?_⟩))
    have pr : IsPair (g3.push { cls := .type "tuple", data := .seq #[x, y] }) g3.objs.size x y := Heap.get?_push_size _ rfl
    show Q1 (.ref g3.objs.size) _
    rw [sz] at pr ⊢
    exact k _ (Heap.get?_push_of_some _ zz) (uu.at fun o q => Heap.get?_push_of_some _ q) (v3.at fun o q => Heap.get?_push_of_some _ q) pr fun c o n1 n2 n3 e => Heap.get?_push_of_some _ (old c o n1 n2 n3 e)
  unfold pyNext
  exact wpAny_bind (wpAny_attempt (wpAny_callSpecial?_slot (name := Str.ofString "__next__") ty F.slot_zip_next (wpAny_call_entry F.slot_zip_next ty F.entry_zip_next (body _ _ _ fun g k1 k2 k3 k4 k5 => wpAny_pure (k g k1 k2 k3 k4 k5)) (F.args_zip_next_1 _))))
/-- its end -/
theorem lz_end {z p r T u v a b : Addr} {f : Bool} {oT : Obj} {m n : Nat} {xs ys : Array Value} {Q : Option Value → Shared → Prop} (hh : A.handled = none) (D : ZipApart z p r u v a b)
    (gz : IsZipHeld s.heap z p r T f) (gT : s.heap.get? T = some oT) (gp : IsPair s.heap p (.ref u) (.ref v)) (gu : s.heap.IsTupleIter u a m) (gv : s.heap.IsTupleIter v b n) (ga : s.heap.IsTuple a xs) (gb : s.heap.IsTuple b ys)
    (en : xs[m]? = none ∨ ys[n]? = none)
    (k : ∀ g, (∀ c o, c ≠ z → c ≠ u → c ≠ v → s.heap.get? c = some o → g.get? c = some o) → Q none { s with heap := g }) :
    wpAny (model prog w) A (pyNext (.ref z)) Q E s := by
  have ty : s.TypeIs (.ref z) "zip" := ⟨_, gz, rfl⟩
  have body : ∀ (A' : Around) (Q1 : Fin → Shared → Prop) (E' : Value → Shared → Prop), A'.handled = none → (∀ g e, (∀ c o, c ≠ z → c ≠ u → c ≠ v → s.heap.get? c = some o → g.get? c = some o) → (∃ o, g.get? e = some o ∧ o.cls = .type "StopIteration") → E' (.ref e) { s with heap := g }) →
      wpAny (model prog w) A' (Builtin.«zip.__next__» ⟨[.ref z], []⟩) Q1 E' s := by
    intro A' Q1 E' hh k
    show wpAny _ _ (field (.ref z) 2 >>= fun _ => _) _ _ _
    refine wpAny_bind (wpAny_field (x := .bool false) gz rfl rfl ?_)
    show wpAny _ _ (field (.ref z) 3 >>= fun _ => _) _ _ _
    refine wpAny_bind (wpAny_field (x := .ref p) gz rfl rfl ?_)
    refine wpAny_bind (wpAny_seqItems gp rfl ?_)
    show wpAny _ _ (Builtin.SmallTypes.ownedTupleIsFree (.ref z) >>= fun _ => _) _ _ _
    refine wpAny_bind (wpAny_tupleHeld_zip gz gT fun g1 z1 e1 => ?_)
    simp only [if_false, Bool.false_eq_true]
    refine wpAny_bind ?_
    rw [← Array.forIn_toList]
    simp only [List.forIn_nil, List.forIn_cons]
    refine wpAny_bind (wpAny_bind (wpAny_holding ?_))
    show wpAny _ _ (Builtin.SmallTypes.nextOf (.ref u) >>= fun _ => _) _ _ _
    cases ex : xs[m]? with
    | none =>
      exact wpAny_bind (RZ.nextOf_tuple_end (s := { s with heap := g1 }) hh (gu.extBut e1.extBut D.i1z) (ga.extBut e1.extBut D.l1z) ex fun g2 e e2 he => k g2 e (fun c o n1 n2 _ q => e2 _ _ n2 (e1.extBut _ _ n1 q)) he)
    | some x =>
      have ey : ys[n]? = none := en.resolve_left (by rw [ex]; exact fun q => nomatch q)
      refine wpAny_bind (RZ.nextOf_tuple_item (s := { s with heap := g1 }) (gu.extBut e1.extBut D.i1z) (ga.extBut e1.extBut D.l1z) ex fun g2 u2 e2 => wpAny_pure (wpAny_pure ?_))
      refine wpAny_bind (wpAny_bind (wpAny_holding ?_))
      show wpAny _ _ (Builtin.SmallTypes.nextOf (.ref v) >>= fun _ => _) _ _ _
      exact wpAny_bind (RZ.nextOf_tuple_end (s := { s with heap := g2 }) hh ((gv.extBut e1.extBut D.i2z).extBut e2.extBut D.i12.symm) ((gb.extBut e1.extBut D.l2z).extBut e2.extBut D.l2i1) ey fun g3 e e3 he => k g3 e (fun c o n1 n2 n3 q => e3 _ _ n3 (e2.extBut _ _ n2 (e1.extBut _ _ n1 q))) he)
  unfold pyNext
  refine wpAny_bind (wpAny_attempt (wpAny_callSpecial?_slot (name := Str.ofString "__next__") ty F.slot_zip_next (wpAny_call_entry F.slot_zip_next ty F.entry_zip_next (body _ _ _ hh fun g e k1 he => ?_) (F.args_zip_next_1 _))))
  obtain ⟨o, ho, hc⟩ := he
  exact wpAny_bind (wpAny_isInstance (T := "StopIteration") (b := true) ⟨o, ho, hc⟩ isSubtype_stop (wpAny_pure (k _ k1)))
end
/-- how the zip stands at turn k -/
structure Zs (X : Cx) (pins : List (Addr × Obj)) (H : Hp) (g : Heap) (z p r u v a b : Addr) (k : Nat) : Prop where
  hf : ∀ c ∈ [z, p, r, u, v], FpOk X pins H c
  st : (IsZip g z p r .none ∧ ∃ x y, IsPair g r x y) ∨ ∃ T f xs, IsZipHeld g z p r T f ∧ H T = some (.tup xs)
  gp : IsPair g p (.ref u) (.ref v)
  gu : g.IsTupleIter u a k
  gv : g.IsTupleIter v b k
section
variable {X : Cx} {pins : List (Addr × Obj)} {σ : L2.St} {H : Hp} {s : Shared} {A : Around} {E : Value → Shared → Prop} {z p r u v a b : Addr} {k : Nat} {us ws : List V} {x y : V}
theorem Zs.lt {g : Heap} (S : Zs X pins H g z p r u v a b k) : z < g.objs.size ∧ p < g.objs.size ∧ u < g.objs.size ∧ v < g.objs.size := by
  obtain ⟨_, e1, _⟩ := S.gu
  obtain ⟨_, e2, _⟩ := S.gv
  refine ⟨?_, Heap.lt_size S.gp, Heap.lt_size e1, Heap.lt_size e2⟩
  rcases S.st with ⟨q, _⟩ | ⟨_, _, _, q, _⟩
  · exact Heap.lt_size q
  · exact Heap.lt_size q
/-- one turn -/
theorem lz_step {Q : Option Value → Shared → Prop} (D : ZipApart z p r u v a b) (I : Inv X pins σ H s) (S : Zs X pins H s.heap z p r u v a b k) (hr : r < s.heap.objs.size) (ta : SqT X.K H a us) (tb : SqT X.K H b ws) (hx : us[k]? = some x) (hy : ws[k]? = some y)
    (hQ : ∀ g, Inv X pins σ (upd H s.heap.objs.size (.tup [x, y])) { s with heap := g } → Zs X pins (upd H s.heap.objs.size (.tup [x, y])) g z p r u v a b (k + 1) → r < g.objs.size → Q (some (.ref s.heap.objs.size)) { s with heap := g }) :
    wpAny (model X.prog X.w) A (pyNext (.ref z)) Q E s := by
  obtain ⟨its, rv, p1, _⟩ := I.tuple ta
  obtain ⟨its2, rv2, p2, _⟩ := I.tuple tb
  obtain ⟨e1, hu, ru⟩ := rv.get hx
  obtain ⟨e2, hv, rw2⟩ := rv2.get hy
  obtain ⟨lz, lp, lu, lv⟩ := S.lt
  have fin : ∀ (g : Heap) (f : Bool), IsZipHeld g z p r s.heap.objs.size f ∨ (∃ T f xs, IsZipHeld g z p r T f ∧ H T = some (.tup xs)) → g.IsTupleIter u a (k + 1) → g.IsTupleIter v b (k + 1) → IsPair g s.heap.objs.size e1 e2 →
      (∀ c o, c ≠ z → c ≠ r → c ≠ u → c ≠ v → s.heap.get? c = some o → g.get? c = some o) → r < g.objs.size → Q (some (.ref s.heap.objs.size)) { s with heap := g } := by
    intro g f hz hu' hv' hT hk hrg
    have new : ObjOk X.prog X.w (upd H s.heap.objs.size (.tup [x, y])) g s.heap.objs.size (.tup [x, y]) := ⟨by show 2 ≤ sizeLine; decide, [e1, e2], .cons ru (.cons rw2 .nil), ⟨_, hT, rfl, _, rfl⟩⟩
    have I1 : Inv X pins σ (upd H s.heap.objs.size (.tup [x, y])) { s with heap := g } :=
      I.turnedNew (t' := s.toks) (ch := [z, p, r, u, v]) (fun c o hb q => hk c o (fun e => hb (by simp [e])) (fun e => hb (by simp [e])) (fun e => hb (by simp [e])) (fun e => hb (by simp [e])) q) S.hf (Nat.le_refl _) new
    refine hQ g I1 ⟨fun c hc => ?_, .inr ?_, hk _ _ D.TIz D.TITO D.TIi1 D.TIi2 S.gp, hu', hv'⟩ hrg
    · have hlt : c < s.heap.objs.size := by
        have : c = z ∨ c = p ∨ c = r ∨ c = u ∨ c = v := by simpa using hc
        rcases this with e | e | e | e | e <;> (rw [e]; assumption)
      obtain ⟨q1, q2⟩ := S.hf c hc
      exact ⟨by rw [upd_ne (Nat.ne_of_lt hlt)]; exact q1, q2⟩
    · rcases hz with hz | ⟨T, f, xs, hz, hT'⟩
      · exact ⟨_, _, _, hz, upd_same⟩
      · exact ⟨T, f, xs, hz, by rw [upd_ne (ne_of_none hT' I.fresh)]; exact hT'⟩
  rcases S.st with ⟨hz, x0, y0, hTO⟩ | ⟨T, f, xs, hz, hT⟩
  · exact RZ.pyNext_zipT_item D hz S.gp hTO S.gu S.gv p1 p2 (x := e1) (y := e2) (by simpa using hu) (by simpa using hv) fun g z' TO' h1' h2' hT hsz hk =>
      fin g false (.inl z') h1' h2' hT (fun c o n1 n2 n3 n4 q => hk c o n1 n2 n3 n4 q) (by rw [hsz]; exact Nat.lt_succ_of_lt hr)
  · obtain ⟨_, its3, _, p3⟩ := I.hok T _ hT
    obtain ⟨o3, g3, _⟩ := p3
    exact lz_raw D hz g3 S.gp S.gu S.gv p1 p2 (x := e1) (y := e2) (by simpa using hu) (by simpa using hv) fun g z' h1' h2' hT' hk =>
      fin g true (.inr ⟨T, true, xs, z', hT⟩) h1' h2' hT' (fun c o n1 n2 n3 n4 q => hk c o n1 n3 n4 q) (Nat.lt_of_lt_of_le hr (Nat.le_of_lt (Heap.lt_size hT')))
/-- no turn more -/
theorem lz_stop {Q : Option Value → Shared → Prop} (hh : A.handled = none) (D : ZipApart z p r u v a b) (I : Inv X pins σ H s) (S : Zs X pins H s.heap z p r u v a b k) (ta : SqT X.K H a us) (tb : SqT X.K H b ws) (en : us.length ≤ k ∨ ws.length ≤ k)
    (hQ : ∀ g, Inv X pins σ H { s with heap := g } → Q none { s with heap := g }) :
    wpAny (model X.prog X.w) A (pyNext (.ref z)) Q E s := by
  obtain ⟨its, rv, p1, _⟩ := I.tuple ta
  obtain ⟨its2, rv2, p2, _⟩ := I.tuple tb
  have l1 := rv.length
  have l2 := rv2.length
  have he : its.toArray[k]? = none ∨ its2.toArray[k]? = none := by
    rcases en with q | q
    · exact .inl (by simp; omega)
    · exact .inr (by simp; omega)
  have fin : ∀ g, (∀ c o, c ≠ z → c ≠ r → c ≠ u → c ≠ v → s.heap.get? c = some o → g.get? c = some o) → Q none { s with heap := g } := fun g hk =>
    hQ g (I.turnedL (t' := s.toks) (ch := [z, p, r, u, v]) (fun c o hb q => hk c o (fun e => hb (by simp [e])) (fun e => hb (by simp [e])) (fun e => hb (by simp [e])) (fun e => hb (by simp [e])) q) S.hf)
  rcases S.st with ⟨hz, x0, y0, hTO⟩ | ⟨T, f, xs, hz, hT⟩
  · exact RZ.pyNext_zipT_end hh D hz S.gp hTO S.gu S.gv p1 p2 he fun g hk => fin g hk
  · obtain ⟨_, its3, _, p3⟩ := I.hok T _ hT
    obtain ⟨o3, g3, _⟩ := p3
    exact lz_end hh D hz g3 S.gp S.gu S.gv p1 p2 he fun g hk => fin g fun c o n1 _ n3 n4 q => hk c o n1 n3 n4 q
end
section
variable {X : Cx} {L : Lk} {pins : List (Addr × Obj)} {σ σm : L2.St} {env : MP.Env} {A1 : Around} {z p r u v a b q : Addr} {ms ns : List MP.V} {us ws : List V} {ρ0 : List Addr} {h : MP.Heap}
theorem zipV_at {ms ns : List MP.V} {k : Nat} {m n : MP.V} (e1 : ms[k]? = some m) (e2 : ns[k]? = some n) : (MP.zipV ms ns)[k]? = some (.tup [m, n]) := by
  induction ms generalizing ns k with
  | nil => simp at e1
  | cons x xs ih =>
    cases ns with
    | nil => simp at e2
    | cons y ys =>
      cases k with
      | zero => simp at e1 e2; simp [MP.zipV, e1, e2]
      | succ k => simp at e1 e2; simpa [MP.zipV] using ih e1 e2
theorem zipV_tk {ms ns : List MP.V} {k : Nat} (hk : ms.length ≤ k ∨ ns.length ≤ k) : (MP.zipV ms ns).take k = MP.zipV ms ns := by
  induction ms generalizing ns k with
  | nil => simp [MP.zipV]
  | cons x xs ih =>
    cases ns with
    | nil => simp [MP.zipV]
    | cons y ys =>
      cases k with
      | zero => simp at hk
      | succ k => simp [MP.zipV]; exact ih (by simpa using hk)
/-- the turns -/
theorem lz_loop {Rs : Result → Shared → Prop} {H0 : Hp} (hK : X.K = L.K) (hh : A1.handled = none) (D : ZipApart z p r u v a b)
    (hdone : ∀ H s, Inv X pins σ H s → Le L ρ0 H0 (ρ0 ++ [q]) H → Sta L (ρ0 ++ [q]) (h ++ [.lst (MP.zipV ms ns)]) env σm H → Rs (.ok (.ret .none)) s) (hlen : ρ0.length = h.length) :
    ∀ (m k : Nat) (H : Hp) (s : Shared), us.length - k = m → Inv X pins σ H s → Le L ρ0 H0 (ρ0 ++ [q]) H → Sta L (ρ0 ++ [q]) (h ++ [.lst ((MP.zipV ms ns).take k)]) env σm H → Zs X pins H s.heap z p r u v a b k → r < s.heap.objs.size →
      SqT L.K H a us → SqT L.K H b ws → Reps L (ρ0 ++ [q]) H ms us → Reps L (ρ0 ++ [q]) H ns ws →
      codeAny (model X.prog X.w) A1 (.builtin "list.extend.loop" ⟨[.ref q, .ref z, .none], []⟩) Rs s := by
  intro m
  induction m with
  | zero =>
    intro k H s em I l0 S Z hr ta tb ra rb
    refine codeAny_builtin PySem.F.entry_extend_loop ?_
    rw [Around.under_plainId PySem.F.plain_extend_loop _]
    show wpAny _ A1.in1 (pyNext (.ref z) >>= fun _ => _) _ _ s
    have hk : us.length ≤ k ∨ ws.length ≤ k := .inl (by omega)
    refine wpAny_bind (lz_stop (A := A1.in1) hh D I Z (by rw [hK]; exact ta) (by rw [hK]; exact tb) hk fun g I' => wpAny_pure (hdone H _ I' l0 ?_))
    have l1 := Reps.length _ _ ra
    have l2 := Reps.length _ _ rb
    rw [zipV_tk (by omega)] at S
    exact S
  | succ m ih =>
    intro k H s em I l0 S Z hr ta tb ra rb
    have l1 := Reps.length _ _ ra
    have l2 := Reps.length _ _ rb
    refine codeAny_builtin PySem.F.entry_extend_loop ?_
    rw [Around.under_plainId PySem.F.plain_extend_loop _]
    show wpAny _ A1.in1 (pyNext (.ref z) >>= fun _ => _) _ _ s
    by_cases hw : ws.length ≤ k
    · refine wpAny_bind (lz_stop (A := A1.in1) hh D I Z (by rw [hK]; exact ta) (by rw [hK]; exact tb) (.inr hw) fun g I' => wpAny_pure (hdone H _ I' l0 ?_))
      rw [zipV_tk (by omega)] at S
      exact S
    · have hx : us[k]? = some (us[k]'(by omega)) := List.getElem?_eq_getElem _
      have hy : ws[k]? = some (ws[k]'(by omega)) := List.getElem?_eq_getElem _
      have hm : ms[k]? = some (ms[k]'(by omega)) := List.getElem?_eq_getElem _
      have hn : ns[k]? = some (ns[k]'(by omega)) := List.getElem?_eq_getElem _
      generalize us[k]'(by omega) = x at hx
      generalize ws[k]'(by omega) = y at hy
      generalize ms[k]'(by omega) = m1 at hm
      generalize ns[k]'(by omega) = n1 at hn
      have rx : Rep L (ρ0 ++ [q]) H m1 x := by
        obtain ⟨x', e, rr⟩ := Reps.get _ _ _ _ ra hm
        rw [hx] at e; cases e; exact rr
      have ry : Rep L (ρ0 ++ [q]) H n1 y := by
        obtain ⟨x', e, rr⟩ := Reps.get _ _ _ _ rb hn
        rw [hy] at e; cases e; exact rr
      refine wpAny_bind (lz_step (A := A1.in1) D I Z hr (by rw [hK]; exact ta) (by rw [hK]; exact tb) hx hy fun g I' Z' hr' => ?_)
      have fr := I.fresh
      obtain ⟨le, S1, rT⟩ := tup_new (L := L) S.sim fr (ms := [m1, n1]) (us := [x, y]) ⟨_, _, rfl, rx, _, _, rfl, ry, rfl⟩
      generalize upd H s.heap.objs.size (.tup [x, y]) = H1 at I' Z' le S1 rT
      have i0 : (ρ0 ++ [q])[h.length]? = some q := by rw [← hlen]; simp
      have i1 : (h ++ [MP.Obj.lst ((MP.zipV ms ns).take k)])[h.length]? = some (.lst ((MP.zipV ms ns).take k)) := by simp
      obtain ⟨acc, hq, racc⟩ := S1.obj _ _ _ i0 i1
      have la := Reps.length _ _ racc
      have lz : (MP.zipV ms ns).length = min ms.length ns.length := zipV_len
      have lacc : acc.length = k := by rw [la, List.length_take, lz]; omega
      obtain ⟨_, _, _, hsz⟩ := I.tuple (show SqT X.K H a us by rw [hK]; exact ta)
      show wpAny _ A1.in1 (updateSeq q (·.push (Value.ref s.heap.objs.size)) >>= fun _ => _) _ _ _
      obtain ⟨z1, its, n1', r2, hl, e⟩ := I'.lstM hq
      refine wpAny_bind (wpAny_updateSeq e rfl (wpAny_pure ⟨plainId_quiet PySem.F.plain_extend_loop _, ?_⟩) (by rw [List.size_toArray]; omega) (by show (its.toArray.push _).size ≤ sizeLine + 1; rw [Array.size_push, List.size_toArray]; omega))
      have I2 := I'.lset (its' := its ++ [Value.ref s.heap.objs.size]) (ys := acc ++ [V.ref s.heap.objs.size]) (f := (·.push (Value.ref s.heap.objs.size))) (t' := s.toks) hq e (by simp) (r2.append (.cons rfl .nil)) (by rw [List.length_append, List.length_singleton]; omega)
      have le2 : Le L (ρ0 ++ [q]) H1 (ρ0 ++ [q]) (upd H1 q (.lst (acc ++ [V.ref s.heap.objs.size]))) := Le.write hq (fun _ z => nomatch z) (fun _ _ z => nomatch z)
      have le3 := le.trans le2
      have tk : (MP.zipV ms ns).take (k + 1) = (MP.zipV ms ns).take k ++ [.tup [m1, n1]] := by
        rw [List.take_add_one, zipV_at hm hn]; rfl
      have rnew : Reps L (ρ0 ++ [q]) (upd H1 q (.lst (acc ++ [V.ref s.heap.objs.size]))) ((MP.zipV ms ns).take (k + 1)) (acc ++ [V.ref s.heap.objs.size]) := by
        rw [tk]
        exact Reps.mono le2 _ _ (Reps.app _ _ _ _ racc ⟨_, [], rfl, rT, rfl⟩)
      have S2 := S1.write (ob' := .lst ((MP.zipV ms ns).take (k + 1))) (o' := .lst (acc ++ [V.ref s.heap.objs.size])) i0 i1 rfl rfl hq (fun _ z => nomatch z) (fun _ _ z => nomatch z) ⟨_, upd_same, rnew⟩
      rw [show (h ++ [MP.Obj.lst ((MP.zipV ms ns).take k)]).set h.length (.lst ((MP.zipV ms ns).take (k + 1))) = h ++ [.lst ((MP.zipV ms ns).take (k + 1))] by simp] at S2
      refine ih (k + 1) _ _ (by omega) I2 (l0.trans le3) ⟨S2, S.env.mono le3⟩ ?_ ?_ (le3.tp _ _ ta) (le3.tp _ _ tb) (Reps.mono le3 _ _ ra) (Reps.mono le3 _ _ rb)
      · have qn : ∀ c ∈ [z, p, r, u, v], c ≠ q := fun c hc ee => by
          have := (Z'.hf c hc).1
          rw [ee, hq] at this; cases this
        have kp : ∀ c ∈ [z, p, r, u, v], ∀ o, g.get? c = some o → (g.update q (Obj.mapSeq (·.push (Value.ref s.heap.objs.size)))).get? c = some o := fun c hc o ee => (Heap.get?_update_other _ _ (Ne.symm (qn c hc))).trans ee
        refine ⟨fun c hc => ?_, ?_, kp p (by simp) _ Z'.gp, Z'.gu.at fun o ee => kp u (by simp) _ ee, Z'.gv.at fun o ee => kp v (by simp) _ ee⟩
        · obtain ⟨w1, w2⟩ := Z'.hf c hc
          exact ⟨by rw [upd_ne (qn c hc)]; exact w1, w2⟩
        · rcases Z'.st with ⟨y1, y2, y3, y4⟩ | ⟨T, f, xs, y1, y2⟩
          · exact .inl ⟨kp z (by simp) _ y1, y2, y3, kp r (by simp) _ y4⟩
          · exact .inr ⟨T, f, xs, kp z (by simp) _ y1, by rw [upd_ne (ne_of y2 hq (fun ee => nomatch ee))]; exact y2⟩
      · show r < (g.update q _).objs.size
        rw [Heap.size_update]; exact hr'
end
section
variable {X : Cx} {L : Lk} {W : WM} {C : MP.Ctx} {pins : List (Addr × Obj)} {σ σm : L2.St} {env : MP.Env} {z p r u v a b q : Addr} {ms ns : List MP.V} {us ws : List V} {ρ : List Addr} {h : MP.Heap} {H : Hp} {s : Shared} {Q : VK}
/-- list(z) of a zip that has not begun -/
theorem lz_list (hc : X.calm = true) (hK : X.K = L.K) (I : Inv X pins σ H s) (D : ZipApart z p r u v a b) (Z : Zs X pins H s.heap z p r u v a b 0) (hz : IsZip s.heap z p r .none) (hr : r < s.heap.objs.size) (ta : SqT L.K H a us) (tb : SqT L.K H b ws) (S : Sta L ρ h env σm H)
    (ra : Reps L ρ H ms us) (rb : Reps L ρ H ns ws) (post : Post L W env σm ρ H (Rep L) Q (.ok (.ref h.length) (h ++ [.lst (MP.zipV ms ns)]))) : wpAny (model X.prog X.w) X.A (call (.type "list") [.ref z]) (EP X pins σ Q) X.xe s := by
  refine callType_codes (Q₁ := fun obj s₁ => obj = .ref s.heap.objs.size ∧ s₁ = { s with heap := s.heap.push { cls := .type "list", data := .seq #[] } }) PySem.F.called_list (PySem.F.typeCall_list_1 _) PySem.F.entry_list_init (code_list_new _ ⟨rfl, rfl⟩) fun obj s₁ h₁ => ?_
  obtain ⟨rfl, rfl⟩ := h₁
  have g0 : (s.heap.push { cls := .type "list", data := .seq #[] }).get? s.heap.objs.size = some { cls := .type "list", data := .seq #[] } := Heap.get?_push_size _ rfl
  refine ⟨⟨_, g0, rfl⟩, PySem.F.args_list_init_2 _ _, ?_⟩
  have fr : H s.heap.objs.size = none := I.fresh
  obtain ⟨zl, pl, ul, vl⟩ := Z.lt
  have zne : z ≠ s.heap.objs.size := Nat.ne_of_lt zl
  have I1 : Inv X pins σ (upd H s.heap.objs.size (.lst [])) { s with heap := s.heap.push { cls := .type "list", data := .seq #[] } } := I.lnew (its := []) (t' := s.toks) .nil (Nat.zero_le _)
  show wpAny _ _ (Builtin.List.listItems (.ref s.heap.objs.size) >>= fun old => Builtin.List.listUpdate (.ref s.heap.objs.size) (fun _ => #[]) >>= fun _ => letGo old.toList.reverse >>= fun _ => Builtin.List.listExtendWith (.ref s.heap.objs.size) (.ref z) .none) _ _ _
  refine wpAny_bind ?_
  unfold Builtin.List.listItems
  refine wpAny_bind (wpAny_seqItems g0 rfl (wpAny_pure ?_))
  show wpAny _ _ (updateSeq s.heap.objs.size (fun _ => #[]) >>= fun _ => letGo (#[] : Array Value).toList.reverse >>= fun _ => Builtin.List.listExtendWith (.ref s.heap.objs.size) (.ref z) .none) _ _ _
  refine wpAny_bind (wpAny_updateSeq g0 rfl ?_)
  have g1 := Heap.get?_update_self (Obj.mapSeq (fun _ => (#[] : Array Value))) g0 rfl
  have I2 := I1.lset (f := fun _ => #[]) (its := []) (its' := []) (ys := []) (t' := s.toks) upd_same g0 rfl .nil (Nat.zero_le _)
  rw [upd_upd] at I2
  refine wpAny_bind (wpAny_letGo ?_)
  have up : ∀ (g : Heap) (f : Obj → Obj), (∀ c o, s.heap.get? c = some o → g.get? c = some o) → ∀ c o, s.heap.get? c = some o → (g.update s.heap.objs.size f).get? c = some o := fun g f k c o e =>
    (Heap.get?_update_other _ _ (Ne.symm (Nat.ne_of_lt (Heap.lt_size e)))).trans (k c o e)
  have k1 : ∀ c o, s.heap.get? c = some o → (s.heap.push { cls := .type "list", data := .seq #[] }).get? c = some o := fun c o e => Heap.get?_push_of_some _ e
  have k2 := up _ (Obj.mapSeq (fun _ => (#[] : Array Value))) k1
  unfold Builtin.List.listExtendWith
  have ty : ∀ {g : Heap}, (∀ c o, s.heap.get? c = some o → g.get? c = some o) → Shared.TypeIs { s with heap := g } (.ref z) "zip" := fun k => ⟨_, k _ _ hz, rfl⟩
  refine wpAny_bind (wpAny_typeOf (ty k2) ?_)
  have n1 : Builtin.List.listSameRef (.ref s.heap.objs.size) (.ref z) = false := by simp [Builtin.List.listSameRef, Ne.symm zne]
  have n2 : (Value.type "zip" == Value.type "list") = false := by decide
  have n3 : (Value.type "zip" == Value.type "tuple") = false := by decide
  simp only [n1, n2, n3, Bool.or_false, Bool.false_eq_true, if_false]
  refine wpAny_bind (wpAny_pyIter_zip (k2 _ _ hz) ?_)
  refine wpAny_bind (wpAny_holding ?_)
  unfold Builtin.List.listLengthHint
  refine wpAny_bind (wpAny_specialOf (ty k2) zip_nolen ?_)
  show wpAny _ _ (specialOf (Value.ref z) (Str.ofString "__length_hint__") >>= fun _ => _) _ _ _
  refine wpAny_bind (wpAny_specialOf (ty k2) zip_nohint (wpAny_pure ?_))
  show wpAny _ _ (rule "list.extend.makes-room" >>= fun _ => Builtin.List.listTouch (.ref s.heap.objs.size) >>= fun _ => again (.builtin "list.extend.loop" ⟨[.ref s.heap.objs.size, .ref z, .none], []⟩)) _ _ _
  refine wpAny_bind (wpAny_rule (wpAny_bind ?_))
  show wpAny _ _ (updateSeq s.heap.objs.size (·.push .none) >>= fun _ => updateSeq s.heap.objs.size (·.pop)) _ _ _
  refine wpAny_bind (wpAny_updateSeq g1 rfl ?_)
  have g2 := Heap.get?_update_self (Obj.mapSeq (·.push Value.none)) g1 rfl
  have I3 := I2.lset (f := (·.push Value.none)) (its := []) (its' := [Value.none]) (ys := [.non]) (t' := s.toks) upd_same g1 (by simp) (.cons rfl .nil) (by rw [List.length_singleton, sizeLine_eq]; decide)
  rw [upd_upd] at I3
  refine wpAny_updateSeq (hz := by seq_fits) g2 rfl ?_
  have I4 := I3.lset (f := (·.pop)) (its := [Value.none]) (its' := []) (ys := []) (t' := s.toks) upd_same g2 (by rfl) .nil (Nat.zero_le _)
  rw [upd_upd] at I4
  have k4 := up _ (Obj.mapSeq (·.pop)) (up _ (Obj.mapSeq (·.push Value.none)) k2)
  have Sp : Sta L (ρ ++ [s.heap.objs.size]) (h ++ [.lst []]) env σm (upd H s.heap.objs.size (.lst [])) := ⟨S.sim.push fr ⟨[], upd_same, rfl⟩, S.env.mono (Le.new fr)⟩
  have ln : Le L ρ H (ρ ++ [s.heap.objs.size]) (upd H s.heap.objs.size (.lst [])) := Le.new fr
  have S0 : Sta L (ρ ++ [s.heap.objs.size]) (h ++ [.lst ((MP.zipV ms ns).take 0)]) env σm (upd H s.heap.objs.size (.lst [])) := Sp
  refine wpAny_pure ⟨plainId_quiet PySem.F.plain_extend_loop _, ?_⟩
  refine lz_loop (A1 := X.A.in1) (L := L) (ms := ms) (ns := ns) (us := us) (ws := ws) (h := h) (env := env) (σm := σm) (H0 := H) (Rs := wants (fun r s₂ => r = .none ∧ EP X pins σ Q (.ref s.heap.objs.size) s₂) X.xe) hK (I.ok.hd hc) D (fun H' s' I' le S' => ⟨rfl, .ref s.heap.objs.size, H', I', rfl, post _ H' _ le S' ⟨s.heap.objs.size, ?_, rfl⟩⟩) S.sim.len us.length 0 _ _ rfl I4 ln S0 ?_ ?_ (ln.tp _ _ ta) (ln.tp _ _ tb) (Reps.mono ln _ _ ra) (Reps.mono ln _ _ rb)
  · rw [← S.sim.len]; simp
  · have qn : ∀ c ∈ [z, p, r, u, v], c ≠ s.heap.objs.size := fun c hc' => by
      have : c = z ∨ c = p ∨ c = r ∨ c = u ∨ c = v := by simpa using hc'
      rcases this with e | e | e | e | e <;> (rw [e]; exact Nat.ne_of_lt (by assumption))
    refine ⟨fun c hc' => ?_, ?_, k4 _ _ Z.gp, Z.gu.at fun o e => k4 _ _ e, Z.gv.at fun o e => k4 _ _ e⟩
    · obtain ⟨w1, w2⟩ := Z.hf c hc'
      exact ⟨by rw [upd_ne (qn c hc')]; exact w1, w2⟩
    · rcases Z.st with ⟨y1, y2, y3, y4⟩ | ⟨T, f, xs, y1, y2⟩
      · exact .inl ⟨k4 _ _ y1, y2, y3, k4 _ _ y4⟩
      · exact .inr ⟨T, f, xs, k4 _ _ y1, by rw [upd_ne (ne_of_none y2 fr)]; exact y2⟩
  · refine Nat.lt_of_lt_of_le hr ?_
    show _ ≤ (((((s.heap.push _).update _ _).update _ _).update _ _)).objs.size
    simp only [Heap.size_update, Heap.size_push]
    exact Nat.le_succ _
/-- list(zip(a, b)) of two tuples -/
theorem s_lzip (hc : X.calm = true) (hK : X.K = L.K) {m1 m2 : MP.Ex} {e1 e2 : Expr} {p1 p2 pos pos2 : Pos} (hg : Gl X "list") (hm : X.mg "list" = none) (hg2 : Gl X "zip") (hm2 : X.mg "zip" = none) (hp : plainB e1 = true) (hp2 : plainB e2 = true) (ha : PA X [e1, e2] (tA L W (MP.evEs C [m1, m2]))) :
    PE X (.Call (.Name "list" p1) [.Call (.Name "zip" p2) [e1, e2] [] pos2] [] pos) (tE L W (MP.evE C (.callb .lzip [m1, m2]))) := by
  refine ⟨fun pins s σ H Q I q => ?_⟩
  simp only [MP.evE] at q
  have q := tE_gc (σ := σ) (f := fun env h => (MP.evEs C [m1, m2] env h).bind fun vs h1 => MP.biV .lzip vs h1) q
  obtain ⟨ρ, h, env, S, q⟩ := q
  have he : starEach [Expr.Call (.Name "zip" p2) [e1, e2] [] pos2] X.env = (false, eval (.Call (.Name "zip" p2) [e1, e2] [] pos2) X.env) :: starEach [] X.env := by rfl
  refine wpAny_Call_Name_kw (ld_blt I hg hm (u := .type "list") rfl ?_ (by decide) (by decide))
  refine PyProof.Rows.callWith_type1 ?_ he rfl
  rw [he]
  show wpAny _ _ (spliced ((false, eval (.Call (.Name "zip" p2) [e1, e2] [] pos2) X.env) :: backTo pos (starEach [] X.env))) _ _ s
  have hs : starEach [e1, e2] X.env = (false, eval e1 X.env) :: starEach [e2] X.env := star_plain hp
  have hpl : (backTo pos2 (starEach [e2] X.env)).any (·.1) = false := by rw [star1 hp2]; rfl
  refine Calls.spliced_cons ?_
  refine Call_ (ld_blt I hg2 hm2 PyProof.Rows.boot_zip (PyProof.Rows.callWith_type1 (thn (ha.run pos2 pins s σ H _ I ⟨ρ, h, env, S, (Post.bind (RR := Reps L) q)⟩) fun us s1 ⟨vs, H1, I1, r1, ρ1, h1, v1, l1, S1, rs, q1⟩ => ?_) hs hpl))
  obtain ⟨ms, ns, rfl⟩ : ∃ ms ns, v1 = [.tup ms, .tup ns] := by
    dsimp only at q1
    unfold MP.biV at q1
    split at q1 <;> first | exact q1.elim | contradiction | exact ⟨_, _, rfl⟩
  · obtain ⟨u1, u2, rfl, t1, t2⟩ := reps2 rs
    obtain ⟨a, xs, rfl, ta, ra⟩ := t1
    obtain ⟨b, ys, rfl, tb, rb⟩ := t2
    cases r1 with
    | cons r1 rr =>
      cases rr with
      | cons r2 rr =>
        cases rr
        cases r1
        cases r2
        obtain ⟨its, rv, p1, _⟩ := I1.tuple (show SqT X.K H1 a xs by rw [hK]; exact ta)
        obtain ⟨its2, rv2, p2, _⟩ := I1.tuple (show SqT X.K H1 b ys by rw [hK]; exact tb)
        obtain ⟨o1, ho1, _⟩ := id p1
        obtain ⟨o2, ho2, _⟩ := id p2
        refine RZ.call_zipT (show s1.heap.IsTuple a its.toArray from p1) (show s1.heap.IsTuple b its2.toArray from p2) fun g hz hTI hTO h1' h2' hsz hk => Calls.spliced_nil ?_
        have I2 : Inv X pins σ H1 { s1 with heap := g } := I1.kept (t' := s1.toks) hk
        have le : ∀ {c : Addr}, c = s1.heap.objs.size + 4 ∨ c = s1.heap.objs.size + 2 ∨ c = s1.heap.objs.size + 3 ∨ c = s1.heap.objs.size ∨ c = s1.heap.objs.size + 1 → s1.heap.objs.size ≤ c := fun {c} e => by
          rcases e with z | z | z | z | z <;> (rw [z]; first | exact Nat.le_refl _ | exact Nat.le_add_right _ _)
        refine lz_list hc hK I2 (PySem.W.ktu_apart s1.heap.objs.size a b (Heap.lt_size ho1) (Heap.lt_size ho2)) ⟨fun c hcm => ?_, .inl ⟨hz, _, _, hTO⟩, hTI, h1', h2'⟩ hz (Heap.lt_size hTO) ta tb S1 ra rb q1
        have hle : s1.heap.objs.size ≤ c := le (by simpa using hcm)
        exact I1.fpOk hle (I1.hok.fresh hle)
end
section
variable {X : Cx} {L : Lk} {C : MP.Ctx} {T : Tx} {W : WM} {sc : Scope}
theorem s_lzipB (G : Gd L C X T W) {b : MP.Bi} {ms : List MP.Ex} {x : Str} {p p2 pos pos2 : Pos} {e1 e2 : Expr} (hS : SR X.env.scope sc) (hg : glB sc x = true) (hb : biK b = 2) (hx : x = biN b) (hm : X.mg x = none) (hg2 : glB sc "zip" = true) (hm2 : X.mg "zip" = none) (hpl : [e1, e2].all plainB = true) (ha : PA X [e1, e2] (tA L W (MP.evEs C ms))) (hl : ms.length = [e1, e2].length) :
    PE X (.Call (.Name x p) [.Call (.Name "zip" p2) [e1, e2] [] pos2] [] pos) (tE L W (MP.evE C (.callb b ms))) := by
  have eb : b = .lzip := by cases b <;> first | rfl | cases hb
  subst eb
  have ex : x = "list" := hx
  subst ex
  obtain ⟨g1, g2, g3⟩ := gl_of hS hg
  obtain ⟨z1, z2, z3⟩ := gl_of hS hg2
  simp only [List.all_cons, List.all_nil, Bool.and_eq_true, Bool.and_true] at hpl
  match ms, hl with
  | [m1, m2], _ => exact s_lzip G.calm G.hK g1 hm z1 hm2 hpl.1 hpl.2 ha
end
end MPS
end

section
set_option Elab.async false
set_option linter.all false
set_option maxRecDepth 100000
set_option maxHeartbeats 1000000
namespace MPS
open PySem PySem.Spec PyProof.Rows L2
/-! ### list(range(n)) -/
section
variable {X : Cx} {L : Lk} {C : MP.Ctx} {T : Tx} {W : WM} {sc : Scope}
theorem rangeV_rg {ρ : List Addr} {H : Hp} (n : Int) : Reps L ρ H ((List.range n.toNat).map fun k : Nat => MP.V.int (k : Int)) (rgV 0 n) := by
  have e2 : rgV 0 n = (List.range n.toNat).map fun k : Nat => V.int (k : Int) := by
    unfold rgV
    rw [Int.sub_zero]
    apply List.map_congr_left
    intro k _
    simp
  rw [e2]
  generalize List.range n.toNat = l
  induction l with
  | nil => rfl
  | cons k l ih => exact ⟨_, _, rfl, rfl, ih⟩
theorem one_post {m : MP.Ex} {g : MP.V → MP.Heap → MP.Res MP.V} {env : MP.Env} {ρ : List Addr} {h : MP.Heap} {σ : L2.St} {H : Hp} {Q : VK} {b : MP.Bi} (hg : ∀ v h1, MP.biV b [v] h1 = g v h1) (q : Post L W env σ ρ H (Rep L) Q ((MP.evEs C [m] env h).bind fun vs h1 => MP.biV b vs h1)) : Post L W env σ ρ H (Rep L) Q ((MP.evE C m env h).bind g) := by
  have e : ((MP.evEs C [m] env h).bind fun vs h1 => MP.biV b vs h1) = (MP.evE C m env h).bind g := by
    simp only [MP.evEs]
    cases MP.evE C m env h with
    | ok v h' => exact hg v h'
    | exc x h' => rfl
    | stuck => rfl
  rw [e] at q
  exact q
theorem s_lrng (hc : X.calm = true) {m : MP.Ex} {e : Expr} {p1 p2 pos pos2 : Pos} (hg : Gl X "list") (hm : X.mg "list" = none) (hg2 : Gl X "range") (hm2 : X.mg "range" = none) (hp : plainB e = true) (ha : PE X e (tE L W (MP.evE C m))) :
    PE X (.Call (.Name "list" p1) [.Call (.Name "range" p2) [e] [] pos2] [] pos) (tE L W (MP.evE C (.callb .lrng [m]))) := by
  refine (pe_listRg hc hg hm (prg_1 hg2 hm2 ha (star1 hp))).imp fun σ H Q q => ?_
  simp only [MP.evE] at q
  obtain ⟨ρ, h, env, S, q⟩ := tE_gc q
  have q := one_post (g := fun v h1 => MP.biV .lrng [v] h1) (fun _ _ => rfl) q
  refine ⟨ρ, h, env, S, q.bind.imp fun u H1 ⟨ρ1, h1, v, l1, S1, r1, p1⟩ => ?_⟩
  cases v with
  | int n =>
    cases r1
    simp only [MP.biV] at p1
    split at p1
    · rename_i c
      obtain ⟨c1, c2⟩ := of_decide_eq_true c
      refine ⟨n, rfl, ⟨by omega, by omega, by omega, by omega, by omega⟩, fun a ha => ?_⟩
      exact Post.lst S1 p1 (rangeV_rg n) ha
    · exact p1.elim
  | _ => exact (show False from p1).elim
theorem s_lrngB (G : Gd L C X T W) {b : MP.Bi} {ms : List MP.Ex} {x : Str} {p p2 pos pos2 : Pos} {e : Expr} (hS : SR X.env.scope sc) (hg : glB sc x = true) (hb : biK b = 3) (hx : x = biN b) (hm : X.mg x = none) (hg2 : glB sc "range" = true) (hm2 : X.mg "range" = none) (hpl : plainB e = true) {m : MP.Ex} (ha : PE X e (tE L W (MP.evE C m))) (hl : ms = [m]) :
    PE X (.Call (.Name x p) [.Call (.Name "range" p2) [e] [] pos2] [] pos) (tE L W (MP.evE C (.callb b ms))) := by
  have eb : b = .lrng := by cases b <;> first | rfl | cases hb
  subst eb
  have ex : x = "list" := hx
  subst ex
  subst hl
  obtain ⟨g1, g2, g3⟩ := gl_of hS hg
  obtain ⟨z1, z2, z3⟩ := gl_of hS hg2
  exact s_lrng G.calm g1 hm z1 hm2 hpl ha
end
end MPS
end

section
set_option Elab.async false
set_option linter.all false
set_option maxRecDepth 100000
set_option maxHeartbeats 3200000
namespace MPS
open PySem PySem.Spec PyProof.Rows L2
/-! ### a set made from a list of ints, with its table known -/
section
variable {P : Program} {w : World} {A : Around} {E : Value → Shared → Prop} {s : Shared}
/-- the empty set, new -/
abbrev nilSet (w : World) : Obj := { cls := .type "set", dict := none, data := .set #[] 0 (.fresh 0 0 (!w.params.followText "set-order")) }
theorem int_get {items : Array Value} {ns : List Int} (hit : IntsAre items.toList ns) (hz : items.size = ns.length) (i : Nat) (v : Value) (hv : items[i]? = some v) : ∃ k t, ns[i]? = some k ∧ v = .int k t := by
  have hi : i < ns.length := by rw [← hz]; exact (Array.getElem?_eq_some_iff.mp hv).1
  obtain ⟨t, e⟩ := IntsAre.int_at hit i v (by rw [Array.getElem?_toList]; exact hv)
  exact ⟨ns[i], t, List.getElem?_eq_getElem hi, by rw [e, List.getD_eq_getElem?_getD, List.getElem?_eq_getElem hi]; rfl⟩
theorem set_from_list {l : Addr} {items : Array Value} (ns : List Int) {Q : Value → Shared → Prop} (hh : A.handled = none) (hl : s.heap.IsList l items) (hit : IntsAre items.toList ns) (hb : ns.length + 1 < scanBound)
    (h : ∀ (h' : Heap) (tk c : Nat), SetR w h' s.heap.objs.size (fun j => decide (j ∈ ns)) c → c ≤ ns.length → (∀ b o, s.heap.get? b = some o → h'.get? b = some o) → Q (.ref s.heap.objs.size) { s with heap := h', toks := tk }) :
    wpAny (model P w) A (call (.type "set") [.ref l]) Q E s := by
  have hz : items.size = ns.length := by
    have q := IntsAre.length hit
    rw [Array.length_toList] at q
    exact q
  have a2 := F.called_set.made
  have a3 := F.called_set.sub
  have a4 := F.called_set.notType
  have a5 := F.called_set.canCreate
  have a6 := F.typeCall_set_1 (.ref l)
  obtain ⟨_, _, a1⟩ := F.called_set.mro
  have g0 : (s.heap.push (nilSet w)).get? s.heap.objs.size = some (nilSet w) := Heap.get?_push_size _ rfl
  have T0 : Shared.TypeIs { s with heap := s.heap.push (nilSet w) } (.ref s.heap.objs.size) "set" := ⟨_, g0, rfl⟩
  refine wpAny_call (codeAny_of_tree ?_)
  show wpAny _ _ (callAny (.type "set") _) _ _ _
  refine wpAny_pure ⟨Code.quiet_builtin _ (by decide +kernel), codeAny_builtin F.entry_type_call ?_⟩
  rw [Around.under_plain (weight_type_call_type "set" [.ref l] []) rfl]
  repeat (any_goals (first | assumption | wp_step))
  refine codeAny_mono (code_set_led1 (.ref l) (E := E) (Q₁ := fun obj s₁ => obj = .ref s.heap.objs.size ∧ s₁ = { s with heap := s.heap.push (nilSet w) }) ⟨rfl, rfl⟩) fun r s₁ hr => ?_
  rcases r with e | fl
  · exact hr
  cases fl with
  | ret obj =>
    obtain ⟨rfl, rfl⟩ := hr
    have b1 := F.called_set.init.lookup
    have b2 := F.called_set.init.bind (.ref s.heap.objs.size)
    repeat (any_goals (first | assumption | wp_step))
    refine codeAny_mono (codeAny_call_builtin (R := wants (fun r s₂ => r = .none ∧ ∃ h' tk c, s₂ = { s with heap := h', toks := tk } ∧ SetR w h' s.heap.objs.size (fun j => decide (j ∈ ns)) c ∧ c ≤ ns.length ∧
        (∀ b o, s.heap.get? b = some o → h'.get? b = some o)) E) F.called_set.init.plain F.entry_set_init (check_set_init_1 T0 ?_)) fun r₂ s₂ hr₂ => ?_
    · obtain ⟨⟨c0, d0, da0, sl0⟩, hol, hcl, nl, hdl⟩ := hl
      simp only at hcl hdl
      subst hcl hdl
      have lt := Heap.lt_size hol
      have z1 : (s.heap.push (nilSet w)).objs.size = s.heap.objs.size + 1 := Heap.size_push ..
      have hl1 : (s.heap.push (nilSet w)).IsList l items := ⟨_, Heap.get?_push_of_some _ hol, rfl, nl, rfl⟩
      have hol1 : (s.heap.push (nilSet w)).get? l = some { cls := .type "list", dict := d0, data := .seq items nl, slots := sl0 } := Heap.get?_push_of_some _ hol
      have q1 := F.sub_list_set
      have q2 := F.sub_list_frozenset
      have q3 : (Value.type "list" == Value.type "dict") = false := by decide
      have q4 : A.in1.in1.in1.handled = none := by simp [hh]
      unfold Builtin.«set.__init__» noKeywords Builtin.Frozenset.updateFrom
      generalize hPI : pyIter = PI
      wp_walk
      subst hPI
      refine wpAny_pyIter_list hl1 (wpAny_bind (wpAny_runValue ?_))
      have n1 : l ≠ (s.heap.push (nilSet w)).objs.size := by rw [z1]; exact Nat.ne_of_lt (Nat.lt_succ_of_lt lt)
      have n2 : s.heap.objs.size ∉ [(s.heap.push (nilSet w)).objs.size, l] := by
        rw [z1]
        intro hm
        rcases List.mem_cons.mp hm with e | e
        · exact absurd e (Nat.ne_of_lt (Nat.lt_succ_self _))
        · exact absurd (List.mem_singleton.mp e) (Nat.ne_of_gt lt)
      refine set_update_ints ((Walks.list q4 _ l n1 items).toS) s.heap.objs.size n2 ns hz hb (int_get hit hz) (items.size - 0) 0 _ (by omega) (Nat.zero_le _) ⟨⟨_, Heap.get?_push_size _ rfl, rfl, rfl⟩, hl1.push _⟩ ⟨0, Nat.le_refl 0, setR_new_at (Heap.get?_push_of_some _ g0)⟩ fun s' c' hm hc' hS' => ?_
      obtain ⟨h', g2, d', tk', os'⟩ := s'
      have eg : g2 = s.gens := hm.gens
      have ed : d' = s.drawn := hm.drawn
      have eo : os' = s.os := hm.os
      subst eg ed eo
      rw [hz] at hc'
      show wpAny _ _ _ _ _ _
      refine wpAny_pure ?_
      show wpAny _ _ (ret Value.none) _ _ _
      refine wpAny_pure ⟨rfl, h', tk', c', rfl, hS', hc', fun b o e => ?_⟩
      have lb := Heap.lt_size e
      refine hm.heap b o (fun hx => ?_) (Heap.get?_push_of_some _ (Heap.get?_push_of_some _ e))
      rcases List.mem_cons.mp hx with e1 | e1
      · exact absurd e1 (Nat.ne_of_lt lb)
      · rw [List.mem_singleton.mp e1, z1] at lb
        exact absurd lb (Nat.not_lt.mpr (Nat.le_succ _))
    · rcases r₂ with e | fl₂
      · exact hr₂
      cases fl₂ with
      | ret r =>
        obtain ⟨rfl, h', tk, c, rfl, k1, k2, k3⟩ := hr₂
        repeat (any_goals (first | assumption | wp_step))
        exact h _ _ _ k1 k2 k3
      | _ => exact hr₂.elim
  | _ => exact hr.elim
end
section
variable {X : Cx} {L : Lk} {C : MP.Ctx} {T : Tx} {W : WM} {sc : Scope}
def rSetI (K : PySem.W.Frag) (w : World) : List V → Hp → VK → Prop := fun vs H Q => ∃ (l : Addr) (ns : List Int), vs = [V.ref l] ∧ SqL K H l (ns.map V.int) ∧ ns.length < 60 ∧ ∀ (p : Addr) (c : Nat), c ≤ ns.length → H p = none → Q (.ref p) (upd H p (SetO w p (fun j => decide (j ∈ ns)) c))
theorem cr_setI (hc : X.calm = true) : CallR X (.type "set") (rSetI X.K X.w) := by
  intro pins s σ H vs us Q I r h
  obtain ⟨l, ns, rfl, hq, hl, q⟩ := h
  rw [Vals.ref1 r]
  obtain ⟨its, rv, pl, hz⟩ := I.list hq
  refine set_from_list ns (I.ok.hd hc) pl.isList (by simpa using RZ.intsAre_vals rv) (by unfold scanBound; omega) fun h' tk c R hc' hk => ?_
  exact ⟨.ref s.heap.objs.size, upd H s.heap.objs.size (SetO X.w s.heap.objs.size (fun j => decide (j ∈ ns)) c), I.laid (t' := tk) hk (Nat.le_refl _) (setO_new R), rfl, q _ c hc' (I.hok.fresh (Nat.le_refl _))⟩
theorem up_sorted : ∀ {a b : List Int}, a.Pairwise (· < ·) → b.Pairwise (· < ·) → (∀ k, k ∈ a ↔ k ∈ b) → a = b
  | [], [], _, _, _ => rfl
  | [], y :: b, _, _, h => absurd ((h y).mpr (by simp)) (by simp)
  | x :: a, [], _, _, h => absurd ((h x).mp (by simp)) (by simp)
  | x :: a, y :: b, ha, hb, h => by
    obtain ⟨a1, a2⟩ := List.pairwise_cons.mp ha
    obtain ⟨b1, b2⟩ := List.pairwise_cons.mp hb
    have hxy : x = y := by
      rcases List.mem_cons.mp ((h x).mp (by simp)) with e | e
      · exact e
      · rcases List.mem_cons.mp ((h y).mpr (by simp)) with e2 | e2
        · exact e2.symm
        · have := a1 _ e2
          have := b1 _ e
          omega
    subst hxy
    congr 1
    refine up_sorted a2 b2 fun k => ⟨fun hk => ?_, fun hk => ?_⟩
    · rcases List.mem_cons.mp ((h k).mp (List.mem_cons_of_mem _ hk)) with e | e
      · have := a1 k hk
        omega
      · exact e
    · rcases List.mem_cons.mp ((h k).mpr (List.mem_cons_of_mem _ hk)) with e | e
      · have := b1 k hk
        omega
      · exact e
theorem insI_mem (k : Int) : ∀ (l : List Int) (z : Int), z ∈ MP.insI k l ↔ z = k ∨ z ∈ l
  | [], z => by simp [MP.insI]
  | x :: l, z => by
    unfold MP.insI
    split
    · simp
    · split
      · rename_i h1 h2
        subst h2
        simp
      · rw [List.mem_cons, insI_mem k l z, List.mem_cons]
        constructor
        · rintro (e | e | e)
          · exact .inr (.inl e)
          · exact .inl e
          · exact .inr (.inr e)
        · rintro (e | e | e)
          · exact .inr (.inl e)
          · exact .inl e
          · exact .inr (.inr e)
theorem insI_up (k : Int) : ∀ l : List Int, l.Pairwise (· < ·) → (MP.insI k l).Pairwise (· < ·)
  | [], _ => by simp [MP.insI]
  | x :: l, h => by
    obtain ⟨h1, h2⟩ := List.pairwise_cons.mp h
    unfold MP.insI
    split
    · refine List.pairwise_cons.mpr ⟨fun z hz => ?_, h⟩
      rcases List.mem_cons.mp hz with e | e
      · omega
      · have := h1 z e
        omega
    · split
      · exact h
      · refine List.pairwise_cons.mpr ⟨fun z hz => ?_, insI_up k l h2⟩
        rcases (insI_mem k l z).mp hz with e | e
        · omega
        · exact h1 z e
theorem srtI_mem : ∀ (l : List Int) (z : Int), z ∈ MP.srtI l ↔ z ∈ l
  | [], z => by simp [MP.srtI]
  | x :: l, z => by
    have := srtI_mem l z
    unfold MP.srtI at this ⊢
    rw [List.foldr_cons, insI_mem, this, List.mem_cons]
theorem srtI_up : ∀ l : List Int, (MP.srtI l).Pairwise (· < ·)
  | [] => by simp [MP.srtI]
  | x :: l => by
    have := srtI_up l
    unfold MP.srtI at this ⊢
    exact insI_up x _ this
theorem reps_ints {ρ : List Addr} {H : Hp} : ∀ l : List Int, Reps L ρ H (l.map MP.V.int) (l.map V.int)
  | [] => rfl
  | k :: l => ⟨_, _, rfl, rfl, reps_ints l⟩
theorem s_sset (hc : X.calm = true) (hK : X.K = L.K) {m : MP.Ex} {e : Expr} {p1 p2 pos pos2 : Pos} (hg : Gl X "sorted") (hm : X.mg "sorted" = none) (hg2 : Gl X "set") (hm2 : X.mg "set" = none) (hp : plainB e = true) (ha : PE X e (tE L W (MP.evE C m))) :
    PE X (.Call (.Name "sorted" p1) [.Call (.Name "set" p2) [e] [] pos2] [] pos) (tE L W (MP.evE C (.callb .sset [m]))) := by
  have inner := pe_callTy (p := p2) (pos := pos2) (cr_setI hc) hg2 hm2 rfl (pa_cons ha pa_nil (star1 hp)) (by decide) (by decide) (star1 hp)
  refine (pe_callB (p := p1) (pos := pos) (cr_sortedSet hc) hg hm rfl (pa_cons inner pa_nil)).imp fun σ H Q q => ?_
  simp only [MP.evE] at q
  obtain ⟨ρ, h, env, S, q⟩ := tE_gc q
  have q := one_post (g := fun v h1 => MP.biV .sset [v] h1) (fun _ _ => rfl) q
  refine ⟨ρ, h, env, S, q.bind.imp fun u H1 ⟨ρ1, h1, v, l1, S1, r1, p1⟩ => ?_⟩
  cases v with
  | ref i =>
    simp only [MP.biV] at p1
    split at p1
    · rename_i bs e1
      split at p1
      · rename_i c
        have c := of_decide_eq_true c
        obtain ⟨ms, e2, e3⟩ := bind_some' e1
        obtain ⟨a, ys, rfl, t, q1⟩ := listAt_rep S1.sim e2 r1
        have := ints_rep e3 q1
        subst this
        refine ⟨a, bs, rfl, by rw [hK]; exact t, c, fun p n hn hp => ?_⟩
        refine ⟨p, _, n, rfl, upd_same, by omega, fun ns p2 hs hm hln hp2 => ?_⟩
        have es : ns = MP.srtI bs := up_sorted hs (srtI_up bs) fun k => by rw [hm k, srtI_mem]; simp
        subst es
        have S2 : Sta L ρ1 h1 env σ (upd H1 p (SetO X.w p (fun j => decide (j ∈ bs)) n)) := ⟨S1.sim.grow hp, S1.env.mono (Le.newT hp)⟩
        exact Post.lst S2 (Post.mono (Le.newT hp) p1) (reps_ints _) hp2
      · exact p1.elim
    · exact p1.elim
  | _ => exact (show False from p1).elim
/-! ### x not in range(n) -/
def rRng1 : List V → Hp → VK → Prop := fun vs H Q => ∃ j, vs = [V.int j] ∧ ∀ p, H p = none → Q (.ref p) (upd H p (.rng 0 j))
theorem cr_rng1 : CallR X (.type "range") rRng1 := by
  intro pins s σ H vs us Q I r h
  obtain ⟨j, rfl, q⟩ := h
  obtain ⟨u, rfl, rj⟩ := vals1 r
  obtain ⟨t, rfl⟩ := rj
  refine call_range_1 ⟨.ref s.heap.objs.size, upd H s.heap.objs.size (.rng 0 j), I.laid (t' := s.toks + 1 + 1) (fun b o e => Heap.get?_push_of_some _ e) (Nat.le_refl _) ?_, rfl, q _ (I.hok.fresh (Nat.le_refl _))⟩
  exact ⟨s.toks, t, s.toks + 1, Heap.get?_push_size _ rfl⟩
def rNinR : R2 := fun x y H Q => ∃ i a lo hi, x = V.int i ∧ y = V.ref a ∧ H a = some (.rng lo hi) ∧ Q (.bl (!decide (lo ≤ i ∧ i < hi))) H
theorem op_ninrng : OpR X (compareOp .NotIn) rNinR := by
  intro pins s σ H x y v u Q I rx ry h
  obtain ⟨i, a, lo, hi, rfl, rfl, ha, q⟩ := h
  obtain ⟨k, rfl⟩ := rx
  obtain rfl : u = Value.ref a := ry
  obtain ⟨t1, t2, t3, ho⟩ := I.hok a _ ha
  show wpAny _ _ (do return Value.bool (!(← contains (Value.ref a) (Value.int i k)))) _ _ s
  refine wpAny_bind (wpAny_contains_slot (T := "range") ⟨_, ho, rfl⟩ F.slot_range_contains (call_meets F.slot_range_contains ⟨_, ho, rfl⟩ F.entry_range_contains (F.args_range_contains_2 _ _) (q_contains a lo hi i t1 t2 t3 k)
    ⟨ho, wpAny_truthy_bool (wpAny_pure ⟨.bl _, H, I, rfl, ?_⟩)⟩))
  rw [place1]
  exact q
theorem two_post {m1 m2 : MP.Ex} {b : MP.Bi} {env : MP.Env} {ρ : List Addr} {h : MP.Heap} {σ : L2.St} {H : Hp} {Q : VK} (q : Post L W env σ ρ H (Rep L) Q ((MP.evEs C [m1, m2] env h).bind fun vs h1 => MP.biV b vs h1)) : Post L W env σ ρ H (Rep L) Q ((MP.evE C m1 env h).bind fun v h1 => (MP.evE C m2 env h1).bind fun w h2 => MP.biV b [v, w] h2) := by
  have e : ((MP.evEs C [m1, m2] env h).bind fun vs h1 => MP.biV b vs h1) = (MP.evE C m1 env h).bind fun v h1 => (MP.evE C m2 env h1).bind fun w h2 => MP.biV b [v, w] h2 := by
    simp only [MP.evEs]
    cases MP.evE C m1 env h with
    | ok v h' =>
      show ((MP.evE C m2 env h').bind _ |>.bind _).bind _ = (MP.evE C m2 env h').bind _
      cases MP.evE C m2 env h' with
      | ok w h2 => rfl
      | exc x h2 => rfl
      | stuck => rfl
    | exc x h' => rfl
    | stuck => rfl
  rw [e] at q
  exact q
theorem nin_of {b : MP.Bi} (h : biK b = 5) : b = .ninrng := by cases b <;> first | rfl | cases h
theorem ninrng_q {m1 m2 : MP.Ex} {σ : L2.St} {H : Hp} {Q : VK} (q : tE L W (MP.evE C (.callb .ninrng [m1, m2])) σ H Q) : tE L W (MP.evE C m1) σ H fun x H1 => tCB rRng1 (tCons (tE L W (MP.evE C m2)) tNil) σ H1 fun y H2 => rNinR x y H2 Q := by
  simp only [MP.evE] at q
  obtain ⟨ρ, h, env, S, q⟩ := tE_gc q
  have q := two_post q
  refine ⟨ρ, h, env, S, q.bind.imp fun u H1 ⟨ρ1, h1, v, l1, S1, r1, p1⟩ => ?_⟩
  refine ⟨ρ1, h1, env, S1, p1.bind.imp fun u2 H2 ⟨ρ2, h2, v2, l2, S2, r2, p2⟩ => ?_⟩
  cases v with
  | int i =>
    cases v2 with
    | int n =>
      cases r1
      cases r2
      refine ⟨n, rfl, fun p hp => ⟨i, p, 0, n, rfl, rfl, upd_same, ?_⟩⟩
      have S3 : Sta L ρ2 h2 env σ (upd H2 p (.rng 0 n)) := ⟨S2.sim.grow hp, S2.env.mono (Le.newT hp)⟩
      exact Post.same S3 (Post.mono (Le.newT hp) p2) rfl
    | _ => exact (show False from p2).elim
  | _ => exact (show False from p2).elim
theorem s_ninrng {m1 m2 : MP.Ex} {l e : Expr} {p2 pos pos2 : Pos} (hg2 : Gl X "range") (hm2 : X.mg "range" = none) (hp : plainB e = true) (h1 : PE X l (tE L W (MP.evE C m1))) (h2 : PE X e (tE L W (MP.evE C m2))) :
    PE X (.Compare l [.NotIn] [.Call (.Name "range" p2) [e] [] pos2] pos) (tE L W (MP.evE C (.callb .ninrng [m1, m2]))) :=
  (pe_cmpR op_ninrng h1 (pe_callTy (p := p2) (pos := pos2) cr_rng1 hg2 hm2 rfl (pa_cons h2 pa_nil (star1 hp)) (by decide) (by decide) (star1 hp)) rfl).imp fun σ H Q q => ninrng_q q
theorem t_ninrng {m1 m2 : MP.Ex} {l e : Expr} {p2 pos pos2 : Pos} (hg2 : Gl X "range") (hm2 : X.mg "range" = none) (hp : plainB e = true) (h1 : PE X l (tE L W (MP.evE C m1))) (h2 : PE X e (tE L W (MP.evE C m2))) :
    PT X (.Compare l [.NotIn] [.Call (.Name "range" p2) [e] [] pos2] pos) (tT L W (tv C (.callb .ninrng [m1, m2]))) :=
  (pt_cmpR op_ninrng h1 (pe_callTy (p := p2) (pos := pos2) cr_rng1 hg2 hm2 rfl (pa_cons h2 pa_nil (star1 hp)) (by decide) (by decide) (star1 hp)) rfl).imp fun σ H Q q => ninrng_q (tE_tT q)
theorem s_ssetB (G : Gd L C X T W) {b : MP.Bi} {ms : List MP.Ex} {x : Str} {p p2 pos pos2 : Pos} {e : Expr} (hS : SR X.env.scope sc) (hg : glB sc x = true) (hb : biK b = 4) (hx : x = biN b) (hm : X.mg x = none) (hg2 : glB sc "set" = true) (hm2 : X.mg "set" = none) (hpl : plainB e = true) {m : MP.Ex} (ha : PE X e (tE L W (MP.evE C m))) (hl : ms = [m]) :
    PE X (.Call (.Name x p) [.Call (.Name "set" p2) [e] [] pos2] [] pos) (tE L W (MP.evE C (.callb b ms))) := by
  have eb : b = .sset := by cases b <;> first | rfl | cases hb
  subst eb
  have ex : x = "sorted" := hx
  subst ex
  subst hl
  obtain ⟨g1, g2, g3⟩ := gl_of hS hg
  obtain ⟨z1, z2, z3⟩ := gl_of hS hg2
  exact s_sset G.calm G.hK g1 hm z1 hm2 hpl ha
end
end MPS
end

section
set_option Elab.async false
set_option linter.all false
set_option maxRecDepth 100000
set_option maxHeartbeats 4000000
namespace MPS
open PySem PySem.Spec PyProof.Rows L2

structure AllN (c : Ck) (n : Nat) : Prop where
  e : ∀ {L : Lk} {C : MP.Ctx} {X : Cx} {W : WM} {sc : Scope} {m : MP.Ex} {e : Expr}, Gd L C X c.T W → X.N = c.N → SR X.env.scope sc → ckE c n sc m e = true → PE X e (tE L W (MP.evE C m)) ∧ (noIf e = true → PT X e (tT L W (tv C m)))
  es : ∀ {L : Lk} {C : MP.Ctx} {X : Cx} {W : WM} {sc : Scope} {m : List MP.Ex} {e : List Expr}, Gd L C X c.T W → X.N = c.N → SR X.env.scope sc → ckEs c n sc m e = true → PA X e (tA L W (MP.evEs C m)) ∧ e.all plainB = true ∧ e.length = m.length
  ks : ∀ {L : Lk} {C : MP.Ctx} {X : Cx} {W : WM} {sc : Scope} {m : List MP.Ex} {e : List Keyword}, Gd L C X c.T W → X.N = c.N → SR X.env.scope sc → ckEs c n sc m (kwE e) = true → PK X e (tA L W (MP.evEs C m))
  b : ∀ {L : Lk} {C : MP.Ctx} {X : Cx} {W : WM} {sc : Scope} {op : BoolOp} {m : MP.Ex} {e : List Expr} {pos : Pos}, Gd L C X c.T W → X.N = c.N → SR X.env.scope sc → ckB c n sc op m e = true → PE X (.BoolOp op e pos) (tE L W (MP.evE C m)) ∧ PW X (.BoolOp op e pos) (tT L W (tv C m))
  p : ∀ {L : Lk} {C : MP.Ctx} {X : Cx} {W : WM} {sc : Scope} {m : List MP.Ex} {e : Option Expr}, Gd L C X c.T W → X.N = c.N → SR X.env.scope sc → ckP c n sc m e = true → PO X e (tP L W (MP.evEs C m))
  i : ∀ {L : Lk} {C : MP.Ctx} {X : Cx} {W : WM} {sc : Scope} {t e : Expr} {k : MP.Src} {m : List MP.Ex}, Gd L C X c.T W → X.N = c.N → SR X.env.scope sc → ckI c n sc t k m e = true → PI X t e (iM L W (srcM C k m)) ∧ ∀ x, foldedSetIterable e X.env x = pure x
  t : ∀ {L : Lk} {C : MP.Ctx} {X : Cx} {W : WM} {sc : Scope} {m : List MP.Ex} {e : List Expr}, Gd L C X c.T W → X.N = c.N → SR X.env.scope sc → ckTs c n sc m e = true → PTs X e (tT L W (MP.evT C m))
theorem free_of {L : Lk} {C : MP.Ctx} {X : Cx} {W : WM} {T : Tx} (G : Gd L C X T W) {x : Str} (h : T.free.contains x = true) : X.mg x = none := G.free x (by simpa using h)
theorem all_es {c : Ck} {n : Nat} (A : AllN c n) : ∀ {L : Lk} {C : MP.Ctx} {X : Cx} {W : WM} {sc : Scope} {m : List MP.Ex} {e : List Expr}, Gd L C X c.T W → X.N = c.N → SR X.env.scope sc → ckEs c (n + 1) sc m e = true → PA X e (tA L W (MP.evEs C m)) ∧ e.all plainB = true ∧ e.length = m.length := by
  intro L C X W sc m e G hN hS h
  unfold ckEs at h
  split at h
  · cases ‹n + 1 = 0›
  · exact ⟨s_nil, rfl, rfl⟩
  · cases ‹n + 1 = _›
    simp only [Bool.and_eq_true] at h
    obtain ⟨h1, h2, h3⟩ := h
    obtain ⟨a, b, d⟩ := A.es G hN hS h3
    exact ⟨s_cons h1 (A.e G hN hS h2).1 a, by rw [List.all_cons, h1, b]; rfl, by simp [d]⟩
  · cases h
theorem all_ks {c : Ck} {n : Nat} (A : AllN c n) : ∀ {L : Lk} {C : MP.Ctx} {X : Cx} {W : WM} {sc : Scope} {m : List MP.Ex} {e : List Keyword}, Gd L C X c.T W → X.N = c.N → SR X.env.scope sc → ckEs c (n + 1) sc m (kwE e) = true → PK X e (tA L W (MP.evEs C m)) := by
  intro L C X W sc m e G hN hS h
  cases e with
  | nil =>
    cases m with
    | nil => exact s_knil
    | cons _ _ => simp [kwE, ckEs] at h
  | cons k ks =>
    obtain ⟨nm, v, kp⟩ := k
    cases m with
    | nil => simp [kwE, ckEs] at h
    | cons m ms =>
      simp only [kwE, ckEs, Bool.and_eq_true] at h
      obtain ⟨h1, h2, h3⟩ := h
      exact s_kcons (A.e G hN hS h2).1 (A.ks G hN hS h3)
theorem pw_one {X : Cx} {op : BoolOp} {a : Expr} {t : TT} {pos : Pos} (h : PT X a t) : PW X (.BoolOp op [a] pos) t := by
  cases op with
  | And => exact pw_and1 h
  | Or => exact pw_or1 h
theorem all_b {c : Ck} {n : Nat} (A : AllN c n) : ∀ {L : Lk} {C : MP.Ctx} {X : Cx} {W : WM} {sc : Scope} {op : BoolOp} {m : MP.Ex} {e : List Expr} {pos : Pos}, Gd L C X c.T W → X.N = c.N → SR X.env.scope sc → ckB c (n + 1) sc op m e = true → PE X (.BoolOp op e pos) (tE L W (MP.evE C m)) ∧ PW X (.BoolOp op e pos) (tT L W (tv C m)) := by
  intro L C X W sc op m e pos G hN hS h
  unfold ckB at h
  split at h
  · cases ‹n + 1 = 0›
  · cases ‹n + 1 = _›
    simp only [Bool.and_eq_true] at h
    obtain ⟨h1, h2⟩ := A.e G hN hS h.1
    exact ⟨pe_one h1, pw_one (h2 h.2)⟩
  · cases ‹n + 1 = _›
    simp only [Bool.and_eq_true] at h
    obtain ⟨h1, h2⟩ := A.e G hN hS h.1.1
    obtain ⟨h3, h4⟩ := A.b (pos := pos) G hN hS h.2
    exact b_and (h2 h.1.2) h1 h3 h4
  · cases ‹n + 1 = _›
    simp only [Bool.and_eq_true] at h
    obtain ⟨h1, h2⟩ := A.e G hN hS h.1.1
    obtain ⟨h3, h4⟩ := A.b (pos := pos) G hN hS h.2
    exact b_or (h2 h.1.2) h1 h3 h4
  · cases h
theorem all_p {c : Ck} {n : Nat} (A : AllN c n) : ∀ {L : Lk} {C : MP.Ctx} {X : Cx} {W : WM} {sc : Scope} {m : List MP.Ex} {e : Option Expr}, Gd L C X c.T W → X.N = c.N → SR X.env.scope sc → ckP c (n + 1) sc m e = true → PO X e (tP L W (MP.evEs C m)) := by
  intro L C X W sc m e G hN hS h
  unfold ckP at h
  split at h
  · cases ‹n + 1 = 0›
  · exact p_none
  · cases ‹n + 1 = _›
    exact p_some (A.e G hN hS h).1
  · cases h
theorem all_t {c : Ck} {n : Nat} (A : AllN c n) : ∀ {L : Lk} {C : MP.Ctx} {X : Cx} {W : WM} {sc : Scope} {m : List MP.Ex} {e : List Expr}, Gd L C X c.T W → X.N = c.N → SR X.env.scope sc → ckTs c (n + 1) sc m e = true → PTs X e (tT L W (MP.evT C m)) := by
  intro L C X W sc m e G hN hS h
  unfold ckTs at h
  split at h
  · cases ‹n + 1 = 0›
  · exact ts_nil
  · cases ‹n + 1 = _›
    simp only [Bool.and_eq_true] at h
    exact ts_one ((A.e G hN hS h.1).2 h.2)
  · cases h
theorem all_i {c : Ck} {n : Nat} (A : AllN c n) : ∀ {L : Lk} {C : MP.Ctx} {X : Cx} {W : WM} {sc : Scope} {t e : Expr} {k : MP.Src} {m : List MP.Ex}, Gd L C X c.T W → X.N = c.N → SR X.env.scope sc → ckI c (n + 1) sc t k m e = true → PI X t e (iM L W (srcM C k m)) ∧ ∀ x, foldedSetIterable e X.env x = pure x := by
  intro L C X W sc t e k m G hN hS h
  unfold ckI at h
  cases k with
  | val =>
    dsimp only at h
    split at h
    · simp only [Bool.and_eq_true] at h
      refine ⟨i_val G.hK (A.e G hN hS h.2).1, fun x => ?_⟩
      have := h.1.2
      cases e <;> first | rfl | cases this
    · cases h
  | range =>
    dsimp only at h
    split at h
    · rename_i x p as pos
      simp only [Bool.and_eq_true, decide_eq_true_eq] at h
      obtain ⟨⟨⟨⟨rfl, h1⟩, h2⟩, h3⟩, h4⟩ := h
      obtain ⟨pa, pl, ln⟩ := A.es G hN hS h3
      obtain ⟨g1, _, _⟩ := gl_of hS h1
      have hm := free_of G h2
      refine ⟨?_, fun _ => rfl⟩
      match as, m, ln, h4 with
      | [a], [v], _, _ => exact i_rng1 g1 hm (by simpa using pl) pa
      | [a, b], [v, w], _, _ =>
        simp only [List.all_cons, List.all_nil, Bool.and_eq_true, Bool.and_true] at pl
        exact i_rng2 rfl g1 hm pl.1 pl.2 pa
      | [a, b, d], [v, w, z], _, _ =>
        simp only [List.all_cons, List.all_nil, Bool.and_eq_true, Bool.and_true] at pl
        exact i_rng3 rfl g1 hm pl.1 pl.2.1 pl.2.2 pa
    · cases h
  | enum =>
    dsimp only at h
    split at h
    · rename_i x p as pos
      simp only [Bool.and_eq_true, decide_eq_true_eq] at h
      obtain ⟨⟨⟨⟨⟨rfl, h1⟩, h2⟩, h3⟩, h4⟩, h5⟩ := h
      obtain ⟨pa, pl, ln⟩ := A.es G hN hS h3
      obtain ⟨g1, _, _⟩ := gl_of hS h1
      have hm := free_of G h2
      refine ⟨?_, fun _ => rfl⟩
      cases t with
      | Tuple elts kk tpos =>
        match as, m, ln, h4 with
        | [a], [v], _, _ => exact i_enum G.hK g1 hm (by simpa using pl) pa
      | _ => cases h5
    · cases h
  | zip =>
    dsimp only at h
    split at h
    · rename_i x p as pos
      simp only [Bool.and_eq_true, decide_eq_true_eq] at h
      obtain ⟨⟨⟨⟨⟨rfl, h1⟩, h2⟩, h3⟩, h4⟩, h5⟩ := h
      obtain ⟨pa, pl, ln⟩ := A.es G hN hS h3
      obtain ⟨g1, _, _⟩ := gl_of hS h1
      have hm := free_of G h2
      refine ⟨?_, fun _ => rfl⟩
      cases t with
      | Tuple elts kk tpos =>
        match as, m, ln, h4 with
        | [a, b], [v, w], _, _ =>
          simp only [List.all_cons, List.all_nil, Bool.and_eq_true, Bool.and_true] at pl
          exact i_zip G.hK rfl g1 hm pl.1 pl.2 pa
      | _ => cases h5
    · cases h
theorem both {L : Lk} {C : MP.Ctx} {X : Cx} {W : WM} {m : MP.Ex} {e : Expr} (p : PE X e (tE L W (MP.evE C m))) (hp : plainT e = true) : PE X e (tE L W (MP.evE C m)) ∧ (noIf e = true → PT X e (tT L W (tv C m))) := ⟨p, fun _ => t_plain hp p⟩
theorem own_map {N : List Str} {own : List Nat} : (own.map fun j => ((N[j]?).getD ("" : Str), j)).map (·.2) = own := by
  rw [List.map_map]
  conv => rhs; rw [← List.map_id own]
  rfl
theorem s_comp {L : Lk} {C : MP.Ctx} {X : Cx} {T : Tx} {W : WM} {sc : Scope} (G : Gd L C X T W) (hS : SR X.env.scope sc) {elt : MP.Ex} {tg : MP.Tg} {k : MP.Src} {ss tests : List MP.Ex} {own : List Nat} {e t i : Expr} {ifs : List Expr} {s2 : Scope} {pos : Pos} {own' : List (Str × Nat)} (ho : own'.map (·.2) = own)
    (pi : PI X t i (iM L W (srcM C k ss))) (fo : ∀ x, foldedSetIterable i X.env x = pure x) (ok : BlkOk X.N sc s2 own') (ht : tgI own tg = true) (htg : tgB X.N s2 tg t = true)
    (pe : ∀ X', Gd L C X' T W0 → X'.N = X.N → SR X'.env.scope s2 → PE X' e (tE L W0 (MP.evE C elt))) (pt : ∀ X', Gd L C X' T W0 → X'.N = X.N → SR X'.env.scope s2 → PTs X' ifs (tT L W0 (MP.evT C tests))) :
    PE X (.ListComp e [⟨t, i, ifs, 0⟩] s2 pos) (tE L W (MP.evE C (.comp elt tg k ss tests own))) := by
  have ok : BlkOk X.N X.env.scope s2 own' := ⟨ok.kind, ok.uniq, ok.ix, fun y hy e => by
        rcases ok.free y hy e with z | z
        · exact .inl (hS.keep z (by decide))
        · rcases hS _ _ z with z | ⟨_, z⟩
          · exact .inr z
          · exact .inl z, ok.own⟩
  refine (pe_lc (g := gM L tg) (tt := tT L W0 (MP.evT C tests)) (te := tE L W0 (MP.evE C elt)) G.calm G.nd pi ok (fun s H Cx cl fp => ?_) (fun s H Cx cl fp => ?_) (fun s H Cx cl fp => ?_) fo).imp fun σ H Q q => ?_
  · exact tg_ok (X := X.blk s H s2 (compEnvC s2 cl Cx X.env) fp) SR.blk (fun x hx => by show (s2.names.lookup x == some .cell) = true; rw [hx]; rfl) G.hK G.calm G.nd tg t htg
  · exact pt _ (G.blk s H s2 _ fp) rfl SR.blk
  · exact pe _ (G.blk s H s2 _ fp) rfl SR.blk
  · rw [ho]; exact s_comp_go G.hK ht q
theorem s_comp2 {L : Lk} {C : MP.Ctx} {X : Cx} {T : Tx} {W : WM} {sc : Scope} (G : Gd L C X T W) (hS : SR X.env.scope sc) {elt m2 : MP.Ex} {tg tg2 : MP.Tg} {k : MP.Src} {ss : List MP.Ex} {own : List Nat} {e t i t2 i2 : Expr} {s2 : Scope} {pos : Pos} {own' : List (Str × Nat)} (ho : own'.map (·.2) = own)
    (pi : PI X t i (iM L W (srcM C k ss))) (fo : ∀ x, foldedSetIterable i X.env x = pure x) (ok : BlkOk X.N sc s2 own') (ht : tgI own tg = true) (htg : tgB X.N s2 tg t = true) (ht2 : tgI tg2.names tg2 = true) (htg2 : tgB X.N s2 tg2 t2 = true) (hown : ∀ i ∈ tg2.names, i ∈ own) (hns : noSet i2 = true)
    (pe : ∀ X', Gd L C X' T W0 → X'.N = X.N → SR X'.env.scope s2 → PE X' e (tE L W0 (MP.evE C elt))) (pe2 : ∀ X', Gd L C X' T W0 → X'.N = X.N → SR X'.env.scope s2 → PE X' i2 (tE L W0 (MP.evE C m2))) :
    PE X (.ListComp e [⟨t, i, [], 0⟩, ⟨t2, i2, [], 0⟩] s2 pos) (tE L W (MP.evE C (.comp2 elt tg k ss tg2 m2 own))) := by
  have ok : BlkOk X.N X.env.scope s2 own' := ⟨ok.kind, ok.uniq, ok.ix, fun y hy e => by
        rcases ok.free y hy e with z | z
        · exact .inl (hS.keep z (by decide))
        · rcases hS _ _ z with z | ⟨_, z⟩
          · exact .inr z
          · exact .inl z, ok.own⟩
  refine (pe_lc2 (g := gM L tg) (tt := tT L W0 (MP.evT C [])) (wi1 := iM L W0 (srcM C .val [m2])) (g1 := gM L tg2) (tt1 := tT L W0 (MP.evT C [])) (te := tE L W0 (MP.evE C elt)) (vs1 := tg2.names) G.calm G.nd pi ok (by rw [ho]; exact hown) (fun s H Cx cl fp => ?_) (fun s H Cx cl fp => ts_nil) (fun s H Cx cl fp => ?_) (fun s H Cx cl fp => ?_) (fun s H Cx cl fp => ts_nil) (fun s H Cx cl fp => ?_) fo (fun env x => ?_)).imp fun σ H Q q => ?_
  · exact tg_ok (X := X.blk s H s2 (compEnvC s2 cl Cx X.env) fp) SR.blk (fun x hx => by show (s2.names.lookup x == some .cell) = true; rw [hx]; rfl) G.hK G.calm G.nd tg t htg
  · exact i_val (X := X.blk s H s2 (compEnvC s2 cl Cx X.env) fp) G.hK (pe2 _ (G.blk s H s2 _ fp) rfl SR.blk)
  · exact tg_ok (X := X.blk s H s2 (compEnvC s2 cl Cx X.env) fp) SR.blk (fun x hx => by show (s2.names.lookup x == some .cell) = true; rw [hx]; rfl) G.hK G.calm G.nd tg2 t2 htg2
  · exact pe _ (G.blk s H s2 _ fp) rfl SR.blk
  · cases i2 <;> first | rfl | cases hns
  · rw [ho]; exact s_comp2_go G.hK ht ht2 hown q
theorem all_e {c : Ck} {n : Nat} (A : AllN c n) : ∀ {L : Lk} {C : MP.Ctx} {X : Cx} {W : WM} {sc : Scope} {m : MP.Ex} {e : Expr}, Gd L C X c.T W → X.N = c.N → SR X.env.scope sc → ckE c (n + 1) sc m e = true → PE X e (tE L W (MP.evE C m)) ∧ (noIf e = true → PT X e (tT L W (tv C m))) := by
  intro L C X W sc m e G hN hS h
  unfold ckE at h
  split at h
  · cases ‹n + 1 = 0›
  · exact both (s_lit h) rfl
  · simp only [Bool.and_eq_true, decide_eq_true_eq, Bool.not_eq_true'] at h
    exact both (s_var (by rw [hN]; exact h.1.2) (hS.vis h.1.1) h.2) rfl
  · simp only [Bool.and_eq_true, decide_eq_true_eq] at h
    exact both (s_glob G hS h.1 h.2) rfl
  · cases ‹n + 1 = _›
    simp only [Bool.and_eq_true, decide_eq_true_eq] at h
    obtain ⟨a, _, ln⟩ := A.es G hN hS h.2
    exact both (s_tup h.1 (fun _ _ _ _ e => by rw [evEs_len e, ln]) a) rfl
  · cases ‹n + 1 = _›
    simp only [Bool.and_eq_true, decide_eq_true_eq] at h
    obtain ⟨a, _, ln⟩ := A.es G hN hS h.2
    exact both (s_lst h.1 (fun _ _ _ _ e => by rw [evEs_len e, ln]) a) rfl
  · cases ‹n + 1 = _›
    simp only [Bool.and_eq_true, decide_eq_true_eq] at h
    obtain ⟨h0, h1, h2⟩ := h
    rw [h0]
    exact both (s_bin G (A.e G hN hS h1).1 (A.e G hN hS h2).1) rfl
  · cases ‹n + 1 = _›
    exact both (s_neg (A.e G hN hS h).1) rfl
  · cases ‹n + 1 = _›
    simp only [Bool.and_eq_true] at h
    obtain ⟨h1, h2⟩ := A.e G hN hS h.1
    exact ⟨s_not h1, fun _ => t_not (h2 h.2)⟩
  · cases ‹n + 1 = _›
    simp only [Bool.and_eq_true] at h
    obtain ⟨h1, h2⟩ := A.e G hN hS h.1.1
    obtain ⟨h3, h4⟩ := A.b G hN hS h.2
    obtain ⟨h5, h6⟩ := b_and (h2 h.1.2) h1 h3 h4
    exact ⟨h5, fun _ => h6.pt⟩
  · cases ‹n + 1 = _›
    simp only [Bool.and_eq_true] at h
    obtain ⟨h1, h2⟩ := A.e G hN hS h.1.1
    obtain ⟨h3, h4⟩ := A.b G hN hS h.2
    obtain ⟨h5, h6⟩ := b_or (h2 h.1.2) h1 h3 h4
    exact ⟨h5, fun _ => h6.pt⟩
  · cases ‹n + 1 = _›
    simp only [Bool.and_eq_true, decide_eq_true_eq, Bool.not_eq_true'] at h
    obtain ⟨⟨h0, h1, h2⟩, h3⟩ := h
    rw [h0] at h3 ⊢
    exact ⟨s_cmp G h3 (A.e G hN hS h1).1 (A.e G hN hS h2).1, fun _ => t_cmp G h3 (A.e G hN hS h1).1 (A.e G hN hS h2).1⟩
  · cases ‹n + 1 = _›
    simp only [Bool.and_eq_true, decide_eq_true_eq, Bool.not_eq_true'] at h
    obtain ⟨⟨⟨h0, h01⟩, h1, h2, h4⟩, h3⟩ := h
    rw [h01] at h3
    rw [h0, h01]
    obtain ⟨p, q⟩ := s_chain G h3 (A.e G hN hS h1).1 (A.e G hN hS h2).1 (A.e G hN hS h4).1
    exact ⟨p, fun _ => q⟩
  · cases ‹n + 1 = _›
    simp only [Bool.and_eq_true] at h
    obtain ⟨⟨h0, h01⟩, h1, h2⟩ := h
    exact ⟨s_ite ((A.e G hN hS h0).2 h01) (A.e G hN hS h1).1 (A.e G hN hS h2).1, fun z => by cases z⟩
  · cases ‹n + 1 = _›
    simp only [Bool.and_eq_true] at h
    exact both (s_idx G h.1 (A.e G hN hS h.2.1).1 (A.e G hN hS h.2.2).1) rfl
  · cases ‹n + 1 = _›
    simp only [Bool.and_eq_true] at h
    exact both (s_slc G (A.e G hN hS h.1).1 (A.p G hN hS h.2.1) (A.p G hN hS h.2.2)) rfl
  · cases ‹n + 1 = _›
    simp only [Bool.and_eq_true, decide_eq_true_eq] at h
    obtain ⟨rfl, h⟩ := h
    exact both (s_rev G (A.e G hN hS h).1) rfl
  · cases ‹n + 1 = _›
    simp only [Bool.and_eq_true, decide_eq_true_eq, List.any_eq_true] at h
    obtain ⟨⟨⟨⟨h1, h2⟩, h3⟩, h4⟩, ⟨f', n', kn', nm'⟩, hp, ⟨rfl, h5, rfl, h6, h7⟩, h8⟩ := h
    dsimp only at h5 h6 h8 hp
    subst h5
    obtain ⟨pa, pl, ln⟩ := A.es G hN hS h3
    refine both (s_callf G hS h1 h2 hp h6 h7 h8 pl (fun z => ?_) pa (A.ks G hN hS h4)) rfl
    subst z
    exact List.length_eq_zero_iff.mp ln.symm
  · cases ‹n + 1 = _›
    simp only [Bool.and_eq_true, decide_eq_true_eq] at h
    obtain ⟨⟨⟨h1, h2⟩, h3⟩, h4⟩ := h
    have hm := free_of G h3
    split at h4
    · simp only [Bool.and_eq_true, decide_eq_true_eq] at h4
      obtain ⟨⟨⟨h5, h6⟩, h7⟩, h8⟩ := h4
      split at h8
      · simp only [Bool.and_eq_true] at h8
        exact both (s_isin G hS h1 ‹_› h2 hm h5 h6 (free_of G h7) h8.1 (A.e G hN hS h8.2).1) rfl
      · cases h8
    · obtain ⟨pa, pl, ln⟩ := A.es G hN hS h4
      exact both (s_callb G hS h1 ‹_› h2 hm pl pa) rfl
    · simp only [Bool.and_eq_true, decide_eq_true_eq] at h4
      obtain ⟨⟨⟨rfl, h5⟩, h6⟩, h7⟩ := h4
      obtain ⟨pa, pl, ln⟩ := A.es G hN hS h7
      exact both (s_lzipB G hS h1 ‹_› h2 hm h5 (free_of G h6) pl pa ln.symm) rfl
    · simp only [Bool.and_eq_true, decide_eq_true_eq] at h4
      obtain ⟨⟨⟨rfl, h5⟩, h6⟩, h7⟩ := h4
      split at h7
      · simp only [Bool.and_eq_true] at h7
        exact both (s_lrngB G hS h1 ‹_› h2 hm h5 (free_of G h6) h7.1 (A.e G hN hS h7.2).1 rfl) rfl
      · cases h7
    · simp only [Bool.and_eq_true, decide_eq_true_eq] at h4
      obtain ⟨⟨⟨rfl, h5⟩, h6⟩, h7⟩ := h4
      split at h7
      · simp only [Bool.and_eq_true] at h7
        exact both (s_ssetB G hS h1 ‹_› h2 hm h5 (free_of G h6) h7.1 (A.e G hN hS h7.2).1 rfl) rfl
      · cases h7
    · cases h4
  · cases ‹n + 1 = _›
    simp only [Bool.and_eq_true, decide_eq_true_eq] at h
    obtain ⟨⟨⟨⟨h0, rfl⟩, h1⟩, h2⟩, h3⟩ := h
    have eb := nin_of h0
    subst eb
    split at h3
    · simp only [Bool.and_eq_true] at h3
      obtain ⟨z1, z2, z3⟩ := gl_of hS h1
      exact ⟨s_ninrng z1 (free_of G h2) h3.2.1 (A.e G hN hS h3.1).1 (A.e G hN hS h3.2.2).1, fun _ => t_ninrng z1 (free_of G h2) h3.2.1 (A.e G hN hS h3.1).1 (A.e G hN hS h3.2.2).1⟩
    · cases h3
  · cases ‹n + 1 = _›
    simp only [Bool.and_eq_true, decide_eq_true_eq] at h
    obtain ⟨⟨⟨⟨rfl, h1⟩, h2⟩, h3, h4⟩, h5⟩ := h
    obtain ⟨pa, pl, ln⟩ := A.es G hN hS h4
    refine both (s_bmeth G h1 h2 h5 pl (fun z => ?_) (A.e G hN hS h3).1 pa) rfl
    subst z
    exact List.length_eq_zero_iff.mp ln.symm
  · cases ‹n + 1 = _›
    simp only [Bool.and_eq_true] at h
    obtain ⟨⟨⟨⟨h1, h2, h3⟩, h4⟩, h5⟩, h6⟩ := h
    obtain ⟨pi, fo⟩ := A.i G hN hS h4
    have ok := blkOk_by h6
    rw [← hN] at ok h2
    exact both (s_comp G hS own_map pi fo ok h3 h2 (fun X' G' hN' hS' => (A.e G' (hN'.trans hN) hS' h1).1) fun X' G' hN' hS' => A.t G' (hN'.trans hN) hS' h5) rfl
  · cases ‹n + 1 = _›
    simp only [Bool.and_eq_true, List.all_eq_true] at h
    obtain ⟨⟨⟨⟨⟨h1, h2, h3⟩, ⟨h4, h5⟩, h6⟩, h7⟩, h8, h9⟩, h10⟩ := h
    obtain ⟨pi, fo⟩ := A.i G hN hS h7
    have ok := blkOk_by h10
    rw [← hN] at ok h2 h4
    exact both (s_comp2 G hS own_map pi fo ok h3 h2 h5 h4 (fun i hi => by simpa using h6 i hi) h8 (fun X' G' hN' hS' => (A.e G' (hN'.trans hN) hS' h1).1) fun X' G' hN' hS' => (A.e G' (hN'.trans hN) hS' h9).1) rfl
  · cases h
theorem all_ok (c : Ck) : ∀ n, AllN c n
  | 0 => ⟨fun _ _ _ h => by simp [ckE] at h, fun _ _ _ h => by simp [ckEs] at h, fun _ _ _ h => by simp [ckEs] at h, fun _ _ _ h => by simp [ckB] at h, fun _ _ _ h => by simp [ckP] at h, fun _ _ _ h => by simp [ckI] at h, fun _ _ _ h => by simp [ckTs] at h⟩
  | n + 1 => ⟨all_e (all_ok c n), all_es (all_ok c n), all_ks (all_ok c n), all_b (all_ok c n), all_p (all_ok c n), all_i (all_ok c n), all_t (all_ok c n)⟩
end MPS
end

section
set_option Elab.async false
set_option linter.all false
set_option maxRecDepth 100000
set_option maxHeartbeats 4000000
namespace MPS
open PySem PySem.Spec PyProof.Rows L2

section
variable {L : Lk} {C : MP.Ctx} {X : Cx} {T : Tx} {W : WM} {N : List Str} {sc : Scope}
/-- what is wanted behind a statement -/
def PostF (L : Lk) (W : WM) (ρ : List Addr) (H : Hp) (D : Ends) : MP.Fl → Prop
  | .nx env h => ∀ (ρ' : List Addr) (H' : Hp) (σ' : L2.St), Le L ρ H ρ' H' → Sta L ρ' h env σ' H' → D.nx σ' H'
  | .brk env h => ∀ (ρ' : List Addr) (H' : Hp) (σ' : L2.St), Le L ρ H ρ' H' → Sta L ρ' h env σ' H' → D.bk σ' H'
  | .ct env h => ∀ (ρ' : List Addr) (H' : Hp) (σ' : L2.St), Le L ρ H ρ' H' → Sta L ρ' h env σ' H' → D.ct σ' H'
  | .ret v h => ∀ (ρ' : List Addr) (H' : Hp) (u : V), Le L ρ H ρ' H' → Sim L ρ' h H' → Rep L ρ' H' v u → D.rt u H'
  | .exc x env h => ∀ (ρ' : List Addr) (H' : Hp), Le L ρ H ρ' H' → W x env h ρ' H'
  | .stuck => False
abbrev FM := MP.Env → MP.Heap → MP.Fl
def tS (L : Lk) (W : WM) (f : FM) : TS := fun D σ H => ∃ ρ h env, Sta L ρ h env σ H ∧ PostF L W ρ H D (f env h)
section
variable {ρ ρ1 : List Addr} {H H1 : Hp} {D : Ends} {σ : L2.St} {env : MP.Env}
theorem PostF.mono {r : MP.Fl} (l : Le L ρ H ρ1 H1) (p : PostF L W ρ H D r) : PostF L W ρ1 H1 D r := by
  cases r with
  | nx e h => exact fun ρ' H' σ' l2 s => p ρ' H' σ' (l.trans l2) s
  | brk e h => exact fun ρ' H' σ' l2 s => p ρ' H' σ' (l.trans l2) s
  | ct e h => exact fun ρ' H' σ' l2 s => p ρ' H' σ' (l.trans l2) s
  | ret v h => exact fun ρ' H' u l2 s r => p ρ' H' u (l.trans l2) s r
  | exc x e h => exact fun ρ' H' l2 => p ρ' H' (l.trans l2)
  | stuck => exact p
/-- behind an expression's run -/
def MidF {α β : Type} (L : Lk) (W : WM) (env : MP.Env) (σ : L2.St) (ρ : List Addr) (H : Hp) (RR : List Addr → Hp → α → β → Prop) (D : Ends) (k : α → MP.Heap → MP.Fl) : β → Hp → Prop := fun u H1 =>
  ∃ ρ1 h1 v, Le L ρ H ρ1 H1 ∧ Sta L ρ1 h1 env σ H1 ∧ RR ρ1 H1 v u ∧ PostF L W ρ1 H1 D (k v h1)
theorem PostF.fl {α β : Type} {RR : List Addr → Hp → α → β → Prop} {r : MP.Res α} {k : α → MP.Heap → MP.Fl} (p : PostF L W ρ H D (r.fl env k)) : Post L W env σ ρ H RR (MidF L W env σ ρ H RR D k) r := by
  cases r with
  | ok v h' => exact fun ρ' H' u l s q => ⟨ρ', h', v, l, s, q, PostF.mono l p⟩
  | exc x h' => exact p
  | stuck => exact p
theorem tS_fl {f : RM} {k : MP.V → MP.Env → MP.Heap → MP.Fl} (q : tS L W (fun env h => (f env h).fl env fun v h1 => k v env h1) D σ H) : tE L W f σ H fun u H1 => ∃ v ρ1 h1 env, Sta L ρ1 h1 env σ H1 ∧ Rep L ρ1 H1 v u ∧ PostF L W ρ1 H1 D (k v env h1) := by
  obtain ⟨ρ, h, env, S, p⟩ := q
  exact ⟨ρ, h, env, S, (PostF.fl p).imp fun u H1 ⟨ρ1, h1, v, l1, S1, r1, p1⟩ => ⟨v, ρ1, h1, env, S1, r1, p1⟩⟩
theorem tT_fl {f : MP.Env → MP.Heap → MP.Res Bool} {k : Bool → MP.Env → MP.Heap → MP.Fl} (q : tS L W (fun env h => (f env h).fl env fun v h1 => k v env h1) D σ H) : tT L W f σ H fun b H1 => tS L W (k b) D σ H1 := by
  obtain ⟨ρ, h, env, S, p⟩ := q
  exact ⟨ρ, h, env, S, (PostF.fl p).imp fun u H1 ⟨ρ1, h1, v, l1, S1, r1, p1⟩ => by
    have r1 : u = v := r1
    rw [r1]
    exact ⟨ρ1, h1, env, S1, p1⟩⟩
end
/-! ### rows of statements -/
theorem ss_nil : PSs X [] (tS L W (MP.evSs C [])) := pss_nil.imp fun D σ H ⟨ρ, h, env, S, q⟩ => by
  simp only [MP.evSs] at q
  exact q ρ H σ Le.refl S
theorem ss_cons {m : MP.St} {ms : List MP.St} {s : Stmt} {ss : List Stmt} (h1 : PS X s (tS L W (MP.evS C m))) (h2 : PSs X ss (tS L W (MP.evSs C ms))) : PSs X (s :: ss) (tS L W (MP.evSs C (m :: ms))) := by
  refine (pss_cons h1 h2).imp fun D σ H ⟨ρ, h, env, S, q⟩ => ⟨ρ, h, env, S, ?_⟩
  simp only [MP.evSs] at q
  cases e : MP.evS C m env h with
  | nx env1 h1 => rw [e] at q; exact fun ρ' H' σ' l s => ⟨ρ', h1, env1, s, PostF.mono l q⟩
  | brk env1 h1 => rw [e] at q; exact q
  | ct env1 h1 => rw [e] at q; exact q
  | ret v h1 => rw [e] at q; exact q
  | exc x env1 h1 => rw [e] at q; exact q
  | stuck => rw [e] at q; exact q
theorem s_pass {pos : Pos} : PS X (.Pass pos) (tS L W (MP.evS C .pass)) := ps_pass.imp fun D σ H ⟨ρ, h, env, S, q⟩ => by
  simp only [MP.evS] at q
  exact q ρ H σ Le.refl S
theorem s_brk {pos : Pos} : PS X (.Break pos) (tS L W (MP.evS C .brk)) := ps_break.imp fun D σ H ⟨ρ, h, env, S, q⟩ => by
  simp only [MP.evS] at q
  exact q ρ H σ Le.refl S
theorem s_cont {pos : Pos} : PS X (.Continue pos) (tS L W (MP.evS C .cont)) := ps_continue.imp fun D σ H ⟨ρ, h, env, S, q⟩ => by
  simp only [MP.evS] at q
  exact q ρ H σ Le.refl S
theorem s_doc {x : Str} {j : Nat} {pos pos' : Pos} : PS X (.Expr (.Constant (.str x) j pos) pos') (tS L W (MP.evS C .pass)) := ps_doc.imp fun D σ H ⟨ρ, h, env, S, q⟩ => by
  simp only [MP.evS] at q
  exact q ρ H σ Le.refl S
theorem s_expr {m : MP.Ex} {e : Expr} {pos : Pos} (hs : swapsWith e none pos.line X.env = pure false) (h1 : PE X e (tE L W (MP.evE C m))) : PS X (.Expr e pos) (tS L W (MP.evS C (.expr m))) := by
  refine (ps_expr h1 hs).imp fun D σ H q => ?_
  simp only [MP.evS] at q
  obtain ⟨ρ, h, env, S, p⟩ := tS_fl q
  exact ⟨ρ, h, env, S, p.imp fun u H1 ⟨v, ρ1, h1, env1, S1, r1, p1⟩ => p1 ρ1 H1 σ Le.refl S1⟩
theorem s_ret {m : MP.Ex} {e : Expr} {pos : Pos} (h1 : PE X e (tE L W (MP.evE C m))) : PS X (.Return (some e) pos) (tS L W (MP.evS C (.ret m))) := by
  refine (ps_ret h1).imp fun D σ H q => ?_
  simp only [MP.evS] at q
  obtain ⟨ρ, h, env, S, p⟩ := tS_fl q
  exact ⟨ρ, h, env, S, p.imp fun u H1 ⟨v, ρ1, h1, env1, S1, r1, p1⟩ => p1 ρ1 H1 u Le.refl S1.sim r1⟩
theorem s_retN {pos : Pos} : PS X (.Return none pos) (tS L W (MP.evS C (.ret (.lit .non)))) := by
  refine ps_retN.imp fun D σ H ⟨ρ, h, env, S, q⟩ => ?_
  simp only [MP.evS, MP.evE] at q
  exact q ρ H .non Le.refl S.sim rfl
theorem s_if {c : MP.Ex} {a b : List MP.St} {e : Expr} {ta tb : List Stmt} {pos : Pos} (h0 : PT X e (tT L W (tv C c))) (h1 : PSs X ta (tS L W (MP.evSs C a))) (h2 : PSs X tb (tS L W (MP.evSs C b))) : PS X (.If e ta tb pos) (tS L W (MP.evS C (.iff c a b))) := by
  refine (ps_if h0 h1 h2).imp fun D σ H q => ?_
  simp only [MP.evS] at q
  have q2 := tT_fl (k := fun x env h1 => if x = true then MP.evSs C a env h1 else MP.evSs C b env h1) q
  obtain ⟨ρ, h, env, S, p⟩ := q2
  refine ⟨ρ, h, env, S, p.imp fun x H1 ⟨ρ1, h1, env1, S1, p1⟩ => ?_⟩
  cases x with
  | true => rw [if_pos rfl]; exact ⟨ρ1, h1, env1, S1, by simpa using p1⟩
  | false => rw [if_neg Bool.false_ne_true]; exact ⟨ρ1, h1, env1, S1, by simpa using p1⟩
/-! ### targets -/
theorem asg_go {t : MP.Tg} {m : MP.Ex} {D : Ends} {σ : L2.St} {H : Hp} (q : tS L W (MP.evS C (.asg (.nm t) m)) D σ H) : tE L W (MP.evE C m) σ H fun x H1 => gM L t x σ H1 D.nx := by
  simp only [MP.evS] at q
  obtain ⟨ρ, h, env, S, p⟩ := tS_fl (k := fun v env h1 => MP.asgT C (.nm t) v env h1) q
  refine ⟨ρ, h, env, S, p.imp fun u H1 ⟨v, ρ1, h1, env1, S1, r1, p1⟩ => ?_⟩
  simp only [MP.asgT] at p1
  cases e : MP.bindT h1 t v env1 with
  | none => rw [e] at p1; exact p1.elim
  | some env2 =>
    rw [e] at p1
    exact ⟨ρ1, h1, env1, v, env2, S1, r1, e, fun σ' S' _ => p1 ρ1 H1 σ' Le.refl S'⟩
theorem gName_of {i : Nat} {x : V} {σ : L2.St} {H : Hp} {Q : L2.St → Hp → Prop} (g : gM L (.nm i) x σ H Q) : gName i x σ H Q := by
  obtain ⟨ρ, h, env, v, env', S, r, e, k⟩ := g
  simp only [MP.bindT] at e
  cases e
  exact k _ ⟨S.sim, S.env.set r i⟩ fun vs hv => by
    simp only [tgI, List.contains_eq_mem, decide_eq_true_eq] at hv
    exact wipe_set hv
theorem s_set (hN : X.N.Nodup) {i : Nat} {m : MP.Ex} {x : Str} {e : Expr} {pos pos' : Pos} (hi : X.N[i]? = some x) (hx : Loc X.env.scope x) (hfn : X.fn x = true ∨ X.env.scope.names.lookup x = some .local) (hs : swapsWith e (some (.Name x pos')) pos.line X.env = pure false) (h1 : PE X e (tE L W (MP.evE C m))) :
    PS X (.Assign [.Name x pos'] e pos) (tS L W (MP.evS C (.asg (.nm (.nm i)) m))) :=
  (ps_set hN hi hx h1 hs hfn).imp fun D σ H q => by
    obtain ⟨ρ, h, env, S, p⟩ := asg_go q
    exact ⟨ρ, h, env, S, p.imp fun u H1 g => gName_of g⟩
theorem s_asgT {t : MP.Tg} {m : MP.Ex} {te : List Expr} {k : Nat} {p e : Expr} {tp pos : Pos} (hg : PG X (.Tuple te k tp) (gM L t)) (hs : swapsWithSole [.Tuple te k tp] e pos.line X.env = pure false) (hw : swappedStores [.Tuple te k tp] e X.env = pure none) (h1 : PE X e (tE L W (MP.evE C m))) :
    PS X (.Assign [.Tuple te k tp] e pos) (tS L W (MP.evS C (.asg (.nm t) m))) :=
  (ps_asg h1 hg hs hw).imp fun D σ H q => asg_go q
/-- a, b = x, y stored from the right -/
theorem s_par (G : Gd L C X T W) {i j : Nat} {x y : Str} {ms : List MP.Ex} {a b : Expr} {px py pt pos : Pos} {kt k2 : Nat} {pt2 : Pos} (hi : X.N[i]? = some x) (hj : X.N[j]? = some y) (hij : i ≠ j)
    (hx : X.env.scope.names.lookup x = some .local) (hy : X.env.scope.names.lookup y = some .local) (ha : PA X [a, b] (tA L W (MP.evEs C ms)))
    (hw : swappedStores [.Tuple [.Name x px, .Name y py] kt pt] (.Tuple [a, b] k2 pt2) X.env = pure (some [x, y])) :
    PS X (.Assign [.Tuple [.Name x px, .Name y py] kt pt] (.Tuple [a, b] k2 pt2) pos) (tS L W (MP.evS C (.asg (.nm (.tp [.nm i, .nm j])) (.tup ms)))) := by
  refine (ps_par G.calm G.nd hi hj hij hx hy ha hw).imp fun D σ H q => ?_
  simp only [MP.evS, MP.evE] at q
  obtain ⟨ρ, h, env, S, p⟩ := q
  dsimp only at p
  have p : PostF L W ρ H D ((MP.evEs C ms env h).fl env fun vs h1 => MP.asgT C (.nm (.tp [.nm i, .nm j])) (.tup vs) env h1) := by
    cases e : MP.evEs C ms env h with
    | ok v h' => rw [e] at p; exact p
    | exc x h' => rw [e] at p; exact p
    | stuck => rw [e] at p; exact p
  refine ⟨ρ, h, env, S, (PostF.fl p).imp fun us H1 ⟨ρ1, h1, vs, l1, S1, rs, p1⟩ => ?_⟩
  simp only [MP.asgT, MP.bindT] at p1
  match vs, rs with
  | [v, w], rs =>
    obtain ⟨u, u2, rfl, r, r2⟩ := reps2 rs
    simp only [MP.bindTs, MP.bindT] at p1
    exact ⟨u, u2, rfl, p1 ρ1 H1 _ Le.refl ⟨S1.sim, (S1.env.set r i).set r2 j⟩⟩
  | [], _ => exact (show False from by simpa [MP.bindTs, PostF] using p1).elim
  | [_], _ => exact (show False from by simpa [MP.bindTs, MP.bindT, PostF] using p1).elim
  | _ :: _ :: _ :: _, _ => exact (show False from by simpa [MP.bindTs, MP.bindT, PostF] using p1).elim
theorem s_par3 (G : Gd L C X T W) {i j l : Nat} {x y z : Str} {ms : List MP.Ex} {a b d : Expr} {px py pz pt pos : Pos} {kt k2 : Nat} {pt2 : Pos} (hi : X.N[i]? = some x) (hj : X.N[j]? = some y) (hl : X.N[l]? = some z) (hij : i ≠ j) (hil : i ≠ l) (hjl : j ≠ l)
    (hx : X.env.scope.names.lookup x = some .local) (hy : X.env.scope.names.lookup y = some .local) (hz : X.env.scope.names.lookup z = some .local) (ha : PA X [a, b, d] (tA L W (MP.evEs C ms)))
    (hw : swappedStores [.Tuple [.Name x px, .Name y py, .Name z pz] kt pt] (.Tuple [a, b, d] k2 pt2) X.env = pure (some [x, y, z])) :
    PS X (.Assign [.Tuple [.Name x px, .Name y py, .Name z pz] kt pt] (.Tuple [a, b, d] k2 pt2) pos) (tS L W (MP.evS C (.asg (.nm (.tp [.nm i, .nm j, .nm l])) (.tup ms)))) := by
  refine (ps_par3 G.calm G.nd hi hj hl hij hil hjl hx hy hz ha hw).imp fun D σ H q => ?_
  simp only [MP.evS, MP.evE] at q
  obtain ⟨ρ, h, env, S, p⟩ := q
  dsimp only at p
  have p : PostF L W ρ H D ((MP.evEs C ms env h).fl env fun vs h1 => MP.asgT C (.nm (.tp [.nm i, .nm j, .nm l])) (.tup vs) env h1) := by
    cases e : MP.evEs C ms env h with
    | ok v h' => rw [e] at p; exact p
    | exc x h' => rw [e] at p; exact p
    | stuck => rw [e] at p; exact p
  refine ⟨ρ, h, env, S, (PostF.fl p).imp fun us H1 ⟨ρ1, h1, vs, l1, S1, rs, p1⟩ => ?_⟩
  simp only [MP.asgT, MP.bindT] at p1
  match vs, rs with
  | [v, w, v3], rs =>
    obtain ⟨u, us', rfl, r, rs'⟩ := rs
    obtain ⟨u2, u3, rfl, r2, r3⟩ := reps2 rs'
    simp only [MP.bindTs, MP.bindT] at p1
    exact ⟨u, u2, u3, rfl, p1 ρ1 H1 _ Le.refl ⟨S1.sim, ((S1.env.set r i).set r2 j).set r3 l⟩⟩
  | [], _ => exact (show False from by simpa [MP.bindTs, PostF] using p1).elim
  | [_], _ => exact (show False from by simpa [MP.bindTs, MP.bindT, PostF] using p1).elim
  | [_, _], _ => exact (show False from by simpa [MP.bindTs, MP.bindT, PostF] using p1).elim
  | _ :: _ :: _ :: _ :: _, _ => exact (show False from by simpa [MP.bindTs, MP.bindT, PostF] using p1).elim
/-- name += e -/
theorem s_augN (hN : X.N.Nodup) {i : Nat} {op : MP.Op} {m : MP.Ex} {x : Str} {e : Expr} {pos pos' : Pos} (hop : op = .add ∨ op = .sub) (hi : X.N[i]? = some x) (hx : X.env.scope.names.lookup x = some .local) (h1 : PE X e (tE L W (MP.evE C m))) :
    PS X (.AugAssign (.Name x pos') (opP op) e pos) (tS L W (MP.evS C (.augN i op m))) := by
  have go : ∀ {f : Int → Int → Int} {D : Ends} {σ : L2.St} {H : Hp}, (∀ a b h, MP.augV op a b h = match a, b with
      | .int i, .int j => .ok (.int (f i j)) h
      | _, _ => .stuck) → tS L W (MP.evS C (.augN i op m)) D σ H → tAug i (tE L W (MP.evE C m)) (ipI f) D σ H := by
    intro f D σ H hf ⟨ρ, h, env, S, q⟩
    simp only [MP.evS] at q
    cases e : env[i]? with
    | none => rw [e] at q; exact q.elim
    | some o =>
      rw [e] at q
      cases o with
      | none => exact q.elim
      | some v =>
        obtain ⟨u, e1, r⟩ := S.env.at_ i v e
        simp only [Option.join] at q
        refine ⟨u, e1, ρ, h, env, S, (PostF.fl q).imp fun w H1 ⟨ρ1, h1, b, l1, S1, r1, p1⟩ => ?_⟩
        dsimp only at p1
        rw [hf] at p1
        cases v with
        | int a =>
          cases b with
          | int c =>
            cases r; cases r1
            exact ⟨a, c, rfl, rfl, p1 ρ1 H1 _ Le.refl ⟨S1.sim, S1.env.set (show Rep L ρ1 H1 (.int (f a c)) (.int (f a c)) from rfl) i⟩⟩
          | _ => exact (show False from p1).elim
        | _ => exact (show False from p1).elim
  rcases hop with rfl | rfl
  · exact (ps_aug hN hi (.inl hx) h1 ip_add (.inr hx)).imp fun D σ H q => go (fun a b h => by cases a <;> cases b <;> rfl) q
  · exact (ps_aug hN hi (.inl hx) h1 ip_sub (.inr hx)).imp fun D σ H q => go (fun a b h => by cases a <;> cases b <;> rfl) q
/-! ### loops -/
theorem s_while (hp : PassesOwn (model X.prog X.w) X.A X.env X.xe) {c : MP.Ex} {b : List MP.St} {e : Expr} {tb : List Stmt} {pos : Pos} (h0 : PT X e (tT L W (tv C c))) (h1 : PSs X tb (tS L W (MP.evSs C b))) : PS X (.While e tb [] pos) (tS L W (MP.evS C (.whl c b))) := by
  refine (ps_while hp h0 h1).imp fun D σ H ⟨ρ0, h0', env0, S0, q0⟩ => ?_
  simp only [MP.evS] at q0
  refine ⟨fun m σ H => ∃ ρ h env, Sta L ρ h env σ H ∧ PostF L W ρ H D (MP.whlL (fun e g => MP.truth (MP.evE C c e g)) (fun e g => MP.evSs C b e g) m env h), ⟨MP.ROUNDS, ρ0, h0', env0, S0, q0⟩, ?_⟩
  rintro m σ H ⟨ρ, h, env, S, q⟩
  cases m with
  | zero => simp only [MP.whlL] at q; exact q.elim
  | succ m =>
    simp only [MP.whlL] at q
    refine ⟨ρ, h, env, S, (PostF.fl q).imp fun x H1 ⟨ρ1, h1, x', l1, S1, r1, q1⟩ => ?_⟩
    have r1 : x = x' := r1
    subst r1
    dsimp only at q1
    cases x with
    | false =>
      rw [if_neg Bool.false_ne_true]
      rw [if_neg Bool.false_ne_true] at q1
      exact q1 ρ1 H1 σ Le.refl S1
    | true =>
      rw [if_pos rfl]
      rw [if_pos rfl] at q1
      refine ⟨fun σ' H' => ∃ ρ' h' env', Sta L ρ' h' env' σ' H' ∧ PostF L W ρ' H' D (MP.whlL (fun e g => MP.truth (MP.evE C c e g)) (fun e g => MP.evSs C b e g) m env' h'), fun σ' H' ⟨ρ', h', env', S', q'⟩ => ⟨m, by omega, ρ', h', env', S', q'⟩, ρ1, h1, env, S1, ?_⟩
      cases e2 : MP.evSs C b env h1 with
      | nx env2 h2 => rw [e2] at q1; exact fun ρ' H' σ' l s => ⟨ρ', h2, env2, s, PostF.mono l q1⟩
      | ct env2 h2 => rw [e2] at q1; exact fun ρ' H' σ' l s => ⟨ρ', h2, env2, s, PostF.mono l q1⟩
      | brk env2 h2 => rw [e2] at q1; exact q1
      | ret v h2 => rw [e2] at q1; exact q1
      | exc x env2 h2 => rw [e2] at q1; exact q1
      | stuck => rw [e2] at q1; exact q1
theorem s_for (G : Gd L C X T W) (hp : PassesOwn (model X.prog X.w) X.A X.env X.xe) {tg : MP.Tg} {k : MP.Src} {ss : List MP.Ex} {b : List MP.St} {t i : Expr} {tb : List Stmt} {pos : Pos} (pi : PI X t i (iM L W (srcM C k ss))) (fo : ∀ x, foldedSetIterable i X.env x = pure x)
    (pg : PG X t (gM L tg)) (h1 : PSs X tb (tS L W (MP.evSs C b))) : PS X (.For t i tb [] pos) (tS L W (MP.evS C (.forr tg k ss b))) := by
  refine (ps_for hp G.calm pi pg h1 fo).imp fun D σ H ⟨ρ, h, env, S, q⟩ => ?_
  simp only [MP.evS] at q
  have q : PostF L W ρ H D ((srcM C k ss env h).fl env fun p h1 => MP.forL (fun e g => MP.evSs C b e g) tg p.2 p.1 env h1) := by
    unfold srcM
    cases e1 : MP.evEs C ss env h with
    | ok v h' =>
      rw [e1] at q
      simp only [MP.Res.bind, MP.Res.fl] at q ⊢
      cases e2 : MP.srcOf k v h' with
      | none => rw [e2] at q; exact q
      | some p => rw [e2] at q; exact q
    | exc x h' => rw [e1] at q; exact q
    | stuck => rw [e1] at q; exact q
  refine ⟨ρ, h, env, S, (PostF.fl q).imp fun J H1 ⟨ρ1, h1, p, l1, S1, wk, q1⟩ => ?_⟩
  obtain ⟨xs, st⟩ := p
  dsimp only at q1
  refine ⟨fun i m σ H => m = xs.length - i ∧ i ≤ xs.length ∧ ∃ ρ h env, Le L ρ1 H1 ρ H ∧ Sta L ρ h env σ H ∧ PostF L W ρ H D (MP.forL (fun e g => MP.evSs C b e g) tg st (xs.drop i) env h), ⟨xs.length, by simp, Nat.zero_le _, ρ1, h1, env, Le.refl, S1, by simpa only [List.drop_zero] using q1⟩, ?_⟩
  rintro i m σ H ⟨rfl, hi, ρ, h, env, l, S, q⟩
  have lw := wk ρ h H i l S.sim
  by_cases hlt : i < xs.length
  · obtain ⟨v, hv⟩ : ∃ v, xs[i]? = some v := ⟨xs[i], by simp [hlt]⟩
    have hdrop : xs.drop i = v :: xs.drop (i + 1) := by
      rw [List.drop_eq_getElem_cons hlt]
      congr 1
      have := List.getElem?_eq_getElem hlt
      rw [this] at hv
      exact Option.some.inj hv
    rw [hdrop] at q
    simp only [MP.forL] at q
    by_cases hst : MP.stays h st = true
    · rw [if_pos hst] at q
      obtain ⟨hgo, hy⟩ := (lw hst).1 v hv
      cases eb : MP.bindT h tg v env with
      | none => rw [eb] at q; exact q.elim
      | some env1 =>
        rw [eb] at q
        dsimp only at q
        refine .inr ⟨hgo, fun σ' H' => ∃ ρ' h' env', Le L ρ1 H1 ρ' H' ∧ Sta L ρ' h' env' σ' H' ∧ PostF L W ρ' H' D (MP.forL (fun e g => MP.evSs C b e g) tg st (xs.drop (i + 1)) env' h'), fun σ' H' w => ⟨_, by omega, rfl, hlt, w⟩, fun x H2 y => ?_⟩
        obtain ⟨l2, S2, r2⟩ := hy x H2 y
        refine ⟨ρ, h, env, v, env1, ⟨S2, S.env.mono l2⟩, r2, eb, fun σ2 S3 _ => ⟨ρ, h, env1, S3, ?_⟩⟩
        have q := PostF.mono l2 q
        cases e2 : MP.evSs C b env1 h with
        | nx env2 h2 => rw [e2] at q; exact fun ρ' H' σ' l3 s => ⟨ρ', h2, env2, (l.trans l2).trans l3, s, PostF.mono l3 q⟩
        | ct env2 h2 => rw [e2] at q; exact fun ρ' H' σ' l3 s => ⟨ρ', h2, env2, (l.trans l2).trans l3, s, PostF.mono l3 q⟩
        | brk env2 h2 => rw [e2] at q; exact q
        | ret v h2 => rw [e2] at q; exact q
        | exc x env2 h2 => rw [e2] at q; exact q
        | stuck => rw [e2] at q; exact q
    · rw [if_neg hst] at q; exact q.elim
  · have hx : xs.drop i = [] := List.drop_eq_nil_of_le (by omega)
    rw [hx] at q
    simp only [MP.forL] at q
    by_cases hst : MP.stays h st = true
    · rw [if_pos hst] at q
      exact .inl ⟨(lw hst).2 (by show xs.length ≤ i; omega), q ρ H σ Le.refl S⟩
    · rw [if_neg hst] at q; exact q.elim
/-- name = [.. for ..] on one line -/
theorem s_setLc (G : Gd L C X T W) (hS : SR X.env.scope sc) {ix : Nat} {y : Str} {py spos : Pos} (hi : X.N[ix]? = some y) (hy : X.env.scope.names.lookup y = some .local) {elt : MP.Ex} {tg : MP.Tg} {k : MP.Src} {ss tests : List MP.Ex} {own : List Nat} {e t i : Expr} {ifs : List Expr} {s2 : Scope} {pos : Pos} {own' : List (Str × Nat)} (ho : own'.map (·.2) = own)
    (hsw : swapsWith (.ListComp e [⟨t, i, ifs, 0⟩] s2 pos) (some (.Name y py)) spos.line X.env = pure true)
    (pi : PI X t i (iM L W (srcM C k ss))) (fo : ∀ x, foldedSetIterable i X.env x = pure x) (ok : BlkOk X.N sc s2 own') (ht : tgI own tg = true) (htg : tgB X.N s2 tg t = true)
    (pe : ∀ X', Gd L C X' T W0 → X'.N = X.N → SR X'.env.scope s2 → PE X' e (tE L W0 (MP.evE C elt))) (pt : ∀ X', Gd L C X' T W0 → X'.N = X.N → SR X'.env.scope s2 → PTs X' ifs (tT L W0 (MP.evT C tests))) :
    PS X (.Assign [.Name y py] (.ListComp e [⟨t, i, ifs, 0⟩] s2 pos) spos) (tS L W (MP.evS C (.asg (.nm (.nm ix)) (.comp elt tg k ss tests own)))) := by
  have ok : BlkOk X.N X.env.scope s2 own' := ⟨ok.kind, ok.uniq, ok.ix, fun y hy e => by
        rcases ok.free y hy e with z | z
        · exact .inl (hS.keep z (by decide))
        · rcases hS _ _ z with z | ⟨_, z⟩
          · exact .inr z
          · exact .inl z, ok.own⟩
  refine (ps_setLc (g := gM L tg) (tt := tT L W0 (MP.evT C tests)) (te := tE L W0 (MP.evE C elt)) G.calm G.nd hi hy hsw pi ok (fun s H Cx cl fp => ?_) (fun s H Cx cl fp => ?_) (fun s H Cx cl fp => ?_) fo).imp fun D σ H q => ?_
  · exact tg_ok (X := X.blk s H s2 (compEnvC s2 cl Cx X.env) fp) SR.blk (fun x hx => by show (s2.names.lookup x == some .cell) = true; rw [hx]; rfl) G.hK G.calm G.nd tg t htg
  · exact pt _ (G.blk s H s2 _ fp) rfl SR.blk
  · exact pe _ (G.blk s H s2 _ fp) rfl SR.blk
  · rw [ho]
    obtain ⟨ρ, h, env, S, p⟩ := asg_go q
    exact s_comp_go (Q := fun x H1 => gName ix x σ H1 D.nx) G.hK ht ⟨ρ, h, env, S, p.imp fun u H1 g => gName_of g⟩
/-- name = [.. for .. for ..] on one line -/
theorem s_setLc2 (G : Gd L C X T W) (hS : SR X.env.scope sc) {ix : Nat} {y : Str} {py spos : Pos} (hi : X.N[ix]? = some y) (hy : X.env.scope.names.lookup y = some .local) {elt m2 : MP.Ex} {tg tg2 : MP.Tg} {k : MP.Src} {ss : List MP.Ex} {own : List Nat} {e t i t2 i2 : Expr} {s2 : Scope} {pos : Pos} {own' : List (Str × Nat)} (ho : own'.map (·.2) = own)
    (hsw : swapsWith (.ListComp e [⟨t, i, [], 0⟩, ⟨t2, i2, [], 0⟩] s2 pos) (some (.Name y py)) spos.line X.env = pure true)
    (pi : PI X t i (iM L W (srcM C k ss))) (fo : ∀ x, foldedSetIterable i X.env x = pure x) (ok : BlkOk X.N sc s2 own') (ht : tgI own tg = true) (htg : tgB X.N s2 tg t = true) (ht2 : tgI tg2.names tg2 = true) (htg2 : tgB X.N s2 tg2 t2 = true) (hown : ∀ i ∈ tg2.names, i ∈ own) (hns : noSet i2 = true)
    (pe : ∀ X', Gd L C X' T W0 → X'.N = X.N → SR X'.env.scope s2 → PE X' e (tE L W0 (MP.evE C elt))) (pe2 : ∀ X', Gd L C X' T W0 → X'.N = X.N → SR X'.env.scope s2 → PE X' i2 (tE L W0 (MP.evE C m2))) :
    PS X (.Assign [.Name y py] (.ListComp e [⟨t, i, [], 0⟩, ⟨t2, i2, [], 0⟩] s2 pos) spos) (tS L W (MP.evS C (.asg (.nm (.nm ix)) (.comp2 elt tg k ss tg2 m2 own)))) := by
  have ok : BlkOk X.N X.env.scope s2 own' := ⟨ok.kind, ok.uniq, ok.ix, fun y hy e => by
        rcases ok.free y hy e with z | z
        · exact .inl (hS.keep z (by decide))
        · rcases hS _ _ z with z | ⟨_, z⟩
          · exact .inr z
          · exact .inl z, ok.own⟩
  refine (ps_setLc2 (g := gM L tg) (tt := tT L W0 (MP.evT C [])) (wi1 := iM L W0 (srcM C .val [m2])) (g1 := gM L tg2) (tt1 := tT L W0 (MP.evT C [])) (te := tE L W0 (MP.evE C elt)) (vs1 := tg2.names) G.calm G.nd hi hy hsw pi ok (by rw [ho]; exact hown) (fun s H Cx cl fp => ?_) (fun s H Cx cl fp => ts_nil) (fun s H Cx cl fp => ?_) (fun s H Cx cl fp => ?_) (fun s H Cx cl fp => ts_nil) (fun s H Cx cl fp => ?_) fo (fun env x => ?_)).imp fun D σ H q => ?_
  · exact tg_ok (X := X.blk s H s2 (compEnvC s2 cl Cx X.env) fp) SR.blk (fun x hx => by show (s2.names.lookup x == some .cell) = true; rw [hx]; rfl) G.hK G.calm G.nd tg t htg
  · exact i_val (X := X.blk s H s2 (compEnvC s2 cl Cx X.env) fp) G.hK (pe2 _ (G.blk s H s2 _ fp) rfl SR.blk)
  · exact tg_ok (X := X.blk s H s2 (compEnvC s2 cl Cx X.env) fp) SR.blk (fun x hx => by show (s2.names.lookup x == some .cell) = true; rw [hx]; rfl) G.hK G.calm G.nd tg2 t2 htg2
  · exact pe _ (G.blk s H s2 _ fp) rfl SR.blk
  · cases i2 <;> first | rfl | cases hns
  · rw [ho]
    obtain ⟨ρ, h, env, S, p⟩ := asg_go q
    exact s_comp2_go (Q := fun x H1 => gName ix x σ H1 D.nx) G.hK ht ht2 hown ⟨ρ, h, env, S, p.imp fun u H1 g => gName_of g⟩
/-- a[i] = e -/
theorem s_sub (G : Gd L C X T W) {a i m : MP.Ex} {x y e : Expr} {tp pos : Pos} (hs : swapsWithSole [.Subscript x y tp] e pos.line X.env = pure false) (hw : swappedStores [.Subscript x y tp] e X.env = pure none)
    (ha : ∀ v, assign (.Subscript x y tp) X.env v = (do
      let ov ← holding [v] (eval x X.env)
      let iv ← holding [v, ov] (eval y X.env)
      standAt tp
      holding [v, ov, iv] (setItem ov iv v)
      release [v, ov, iv] [])) (h1 : PE X e (tE L W (MP.evE C m))) (h2 : PE X x (tE L W (MP.evE C a))) (h3 : PE X y (tE L W (MP.evE C i))) :
    PS X (.Assign [.Subscript x y tp] e pos) (tS L W (MP.evS C (.asg (.sub a i) m))) := by
  refine (ps_asg h1 (pg_sub h2 h3 set_list ha) hs hw).imp fun D σ H q => ?_
  simp only [MP.evS] at q
  obtain ⟨ρ, h, env, S, p⟩ := tS_fl (k := fun v env h1 => MP.asgT C (.sub a i) v env h1) q
  refine ⟨ρ, h, env, S, p.imp fun u H1 ⟨v, ρ1, h1, env1, S1, r1, p1⟩ => ?_⟩
  simp only [MP.asgT] at p1
  refine ⟨ρ1, h1, env1, S1, (PostF.fl p1).imp fun u2 H2 ⟨ρ2, h2, v2, l2, S2, r2, p2⟩ => ?_⟩
  refine ⟨ρ2, h2, env1, S2, (PostF.fl p2).imp fun u3 H3 ⟨ρ3, h3, v3, l3, S3, r3, p3⟩ => ?_⟩
  have r1 := Rep.mono (l2.trans l3) _ _ r1
  have r2 := Rep.mono l3 _ _ r2
  cases v2 with
  | ref j =>
    simp only [MP.setIdx] at p3
    cases eo : h3[j]? with
    | none => rw [eo] at p3; exact p3.elim
    | some ob =>
      rw [eo] at p3
      cases ob with
      | lst ms =>
        cases v3 with
        | int n =>
          cases r3
          dsimp only at p3
          cases en : MP.atIdx ms.length n with
          | none => rw [en] at p3; exact p3.elim
          | some c =>
            rw [en] at p3
            obtain ⟨b, us, rfl, ea, hx, rs⟩ := lst_at S3.sim eo r2
            have l : Le L ρ3 H3 ρ3 (upd H3 b (.lst (us.set c u))) := Le.write hx (fun _ z => nomatch z) fun _ _ z => nomatch z
            refine ⟨b, us, n, c, rfl, rfl, hx, by rw [← atIdx_ixN, Reps.length _ _ rs]; exact en, p3 ρ3 _ σ l ⟨?_, S3.env.mono l⟩⟩
            exact S3.sim.write ea eo rfl rfl hx (fun _ z => nomatch z) (fun _ _ z => nomatch z) ⟨_, upd_same, Reps.mono l _ _ (Reps.st _ _ _ _ _ rs r1)⟩
        | _ => exact (show False from p3).elim
      | dct kvs =>
        obtain ⟨b, eb, _⟩ := r2
        exact (S3.sim.obj j b _ eb eo).elim
      | _ => exact (show False from p3).elim
  | _ => exact (show False from p3).elim
end
end MPS
end

section
set_option Elab.async false
set_option linter.all false
set_option maxRecDepth 100000
set_option maxHeartbeats 4000000
namespace MPS
open PySem PySem.Spec PyProof.Rows L2

section
variable {L : Lk} {C : MP.Ctx} {X : Cx} {T : Tx} {W : WM} {N : List Str} {sc : Scope}
/-- raise C('text') -/
theorem s_raise (G : Gd L C X T W) (hS : SR X.env.scope sc) {c : Nat} {v : MP.V} {x m : Str} {j : Nat} {p p2 pos pos' : Pos} (hg : glB sc x = true) (hc : T.clss.lookup x = some c) :
    PS X (.Raise (some (.Call (.Name x p) [.Constant (.str m) j p2] [] pos)) none pos') (tS L W (MP.evS C (.raise c [.lit v]))) := by
  obtain ⟨g1, g2, _⟩ := gl_of hS hg
  obtain ⟨m1, hx⟩ := G.clss x c hc
  have F := G.exc c hx
  obtain ⟨K, k1, k2⟩ := F.mke
  rcases k2 with ⟨k2, B, newId, initId, bmB, f1, f2⟩ | ⟨n1, n2, k2, _⟩
  · refine (ps_raise G.calm G.tk (pmk_own f1 f2 m1 F.kp F.rs g1 g2)).imp fun D σ H ⟨ρ, h, env, S, q⟩ => ?_
    simp only [MP.evS, MP.evEs, MP.evE, MP.Res.bind, MP.Res.fl] at q
    rw [k1] at q
    simp only [k2, List.isEmpty_nil, if_true] at q
    exact ⟨ρ, h, env, ⟨c, []⟩, S, ⟨rfl, .inl ⟨rfl, rfl⟩, hx⟩, q ρ H Le.refl⟩
  · refine ⟨fun pins s σ H D I ⟨ρ, h, env, S, q⟩ => ?_⟩
    simp only [MP.evS, MP.evEs, MP.evE, MP.Res.bind, MP.Res.fl] at q
    rw [k1] at q
    simp [k2, PostF] at q
/-- the heap has no less -/
theorem Le.ext {ρ : List Addr} {H H' : Hp} (k : ∀ a u, H a = some u → H' a = some u) : Le L ρ H ρ H' := by
  refine ⟨fun _ _ e => e, fun a xs q => ?_, fun a fs q => k a _ q⟩
  rcases q with (q | ⟨ob, q⟩) | q
  · exact .inl (.inl (k _ _ q))
  · exact .inl (.inr ⟨ob, k _ _ q⟩)
  · exact .inr q
theorem Sim.ext {ρ : List Addr} {H H' : Hp} {h : MP.Heap} (S : Sim L ρ h H) (k : ∀ a u, H a = some u → H' a = some u) : Sim L ρ h H' :=
  ⟨S.len, fun i a o e1 e2 => (S.obj i a o e1 e2).mono (Le.ext k) fun u z => k a u z, S.inj⟩
theorem flat_any {ρ : List Addr} {H : Hp} {v : MP.V} {u : V} (hf : MP.flat v = true) (r : Rep L ρ H v u) : ∀ ρ' H', Rep L ρ' H' v u := by
  intro ρ' H'
  cases v <;> first | exact r | cases hf
theorem star_anyno {es : List Expr} {env : Env} {pos : Pos} (h : es.all plainB = true) : (backTo pos (starEach es env)).any (fun x => x.1) = false := by
  have k := star_allno (env := env) (pos := pos) h
  rw [List.all_eq_true] at k
  rw [List.any_eq_false]
  intro x hx
  have := k x hx
  simpa using this
/-- raise C(x, y), the fields kept -/
theorem s_raiseF (G : Gd L C X T W) (hS : SR X.env.scope sc) {c : Nat} {ms : List MP.Ex} {x : Str} {e : Expr} {es : List Expr} {p pos pos' : Pos} (hg : glB sc x = true) (hc : T.clss.lookup x = some c) (hxc : c ∈ T.xcl) (hpl : (e :: es).all plainB = true) (ha : PA X (e :: es) (tA L W (MP.evEs C ms))) :
    PS X (.Raise (some (.Call (.Name x p) (e :: es) [] pos)) none pos') (tS L W (MP.evS C (.raise c ms))) := by
  obtain ⟨g1, g2, _⟩ := gl_of hS hg
  obtain ⟨m1, hx⟩ := G.clss x c hc
  have F := G.exc c hx
  obtain ⟨K, k1, k2⟩ := F.mke
  obtain ⟨K', f1', f2', k1', k2'⟩ := G.xcl c hxc
  rw [k1] at k1'
  cases k1'
  rcases k2 with ⟨k2, _⟩ | ⟨f1, f2, k2, J⟩
  · rw [k2] at k2'; cases k2'
  obtain ⟨fI, fd, ps, i1, i2, i3, i4⟩ := J.fn
  have hpe : plainB e = true := (List.all_eq_true.mp hpl) e (by simp)
  refine (ps_raise G.calm G.tk (pmk_oex J.ox i1 i2 i4 G.rm i3 .nil (fun pins σ H s e s' I z => ?_) g1 m1 ha g2 (star_plain hpe) (star_anyno (by rw [List.all_cons, Bool.and_eq_true] at hpl; exact hpl.2)))).imp fun D σ H ⟨ρ, h, env, S, q⟩ => ?_
  · obtain ⟨_, _, _, _, _, _, _, _, _, _, _, _, z⟩ := z
    exact z.elim
  simp only [MP.evS] at q
  refine ⟨ρ, h, env, S, (PostF.fl q).imp fun us H1 ⟨ρ1, h1, vs, l1, S1, rs, q1⟩ => ?_⟩
  rw [k1] at q1
  simp only [k2, List.isEmpty_cons, Bool.false_eq_true, if_false, List.length_cons, List.length_nil] at q1
  split at q1
  · rename_i hc2
    obtain ⟨hl, hfl⟩ := hc2
    match vs, hl, rs with
    | [v, w], _, rs =>
      obtain ⟨u, u2, rfl, r, r2⟩ := reps2 rs
      refine ⟨by simp, fun a ha0 => ⟨a, u, u2, rfl, upd_same, fun dx hdx hne => ⟨rfl, dx, [(L.an f2, u2), (L.an f1, u)], ?_, upd_same, ?_, ?_⟩⟩⟩
      · rw [upd_ne (Ne.symm hne), upd_same]
      · rwa [upd_ne hne] at hdx
      · have hdx' : H1 dx = none := by rwa [upd_ne hne] at hdx
        have ext : ∀ b o, H1 b = some o → upd (del (upd (upd (upd (upd H1 a (exo a (L.ca c) none)) dx (exd dx [(L.an f1, u)])) a (exo a (L.ca c) (some dx))) dx (exd dx [(L.an f2, u2), (L.an f1, u)])) a) dx (.xd [(L.an f2, u2), (L.an f1, u)]) b = some o := by
          intro b o hb
          have h1 : b ≠ a := fun z => by subst z; rw [ha0] at hb; cases hb
          have h2 : b ≠ dx := fun z => by subst z; rw [hdx'] at hb; cases hb
          rw [upd_ne h2]
          unfold del
          rw [if_neg h1, upd_ne h2, upd_ne h1, upd_ne h2, upd_ne h1]
          exact hb
        simp only [List.all_cons, List.all_nil, Bool.and_true, Bool.and_eq_true] at hfl
        refine ⟨ρ1, h1, env, ⟨c, K.xfs.zip [v, w]⟩, ⟨S1.sim.ext ext, S1.env.mono (Le.ext ext)⟩, ⟨rfl, .inr ⟨by rw [k2]; simp, dx, _, rfl, upd_same, fun f v' e' => ?_⟩, hx⟩, ?_⟩
        · rw [k2] at e'
          simp only [List.zip_cons_cons, List.zip_nil_right, List.lookup_cons, List.lookup_nil] at e'
          by_cases q1 : f = f1
          · subst q1
            rw [beq_self_eq_true] at e'
            cases e'
            refine ⟨by rw [← G.hK]; exact J.n1, u, ?_, flat_any hfl.1 r⟩
            rw [List.lookup_cons, beq_eq_false_iff_ne.mpr J.ne, List.lookup_cons, beq_self_eq_true]
          · rw [beq_eq_false_iff_ne.mpr q1] at e'
            by_cases q2 : f = f2
            · subst q2
              rw [beq_self_eq_true] at e'
              cases e'
              refine ⟨by rw [← G.hK]; exact J.n2, u2, ?_, flat_any hfl.2 r2⟩
              rw [List.lookup_cons, beq_self_eq_true]
            · rw [beq_eq_false_iff_ne.mpr q2] at e'
              cases e'
        · rw [k2]
          exact q1 ρ1 _ (Le.ext ext)
  · exact q1.elim

/-! ### in a suite -/
theorem tE.mono {f : RM} {σ : L2.St} {H : Hp} {Q Q' : VK} (q : tE L W f σ H Q) (k : ∀ x H, Q x H → Q' x H) : tE L W f σ H Q' := by
  obtain ⟨ρ, h, env, S, p⟩ := q
  exact ⟨ρ, h, env, S, p.imp k⟩
/-- with a word on the slots -/
structure Ph (L : Lk) where
  p : L2.St → Hp → Prop
  st : ∀ {σ : L2.St} {ρ ρ' : List Addr} {H H' : Hp}, Le L ρ H ρ' H' → p σ H → p σ H'
def tEp {L : Lk} (φ : Ph L) (f : RM) : TE := fun σ H Q => φ.p σ H ∧ tE L W0 f σ H Q
def tAp {L : Lk} (φ : Ph L) (f : MP.Env → MP.Heap → MP.Res (List MP.V)) : TA := fun σ H Q => φ.p σ H ∧ tA L W0 f σ H Q
variable {φ : Ph L}
theorem h_lit {v : MP.V} {k : Const} {j : Nat} {pos : Pos} (h : litOk v k = true) : PE X (.Constant k j pos) (tEp φ (MP.evE C (.lit v))) := (s_lit (L := L) (C := C) (W := W0) h).imp fun σ H Q q => q.2
theorem h_not {a : MP.Ex} {x : Expr} {pos : Pos} (h1 : PE X x (tEp φ (MP.evE C a))) : PE X (.UnaryOp .Not x pos) (tEp φ (MP.evE C (.not_ a))) := by
  refine (pe_not h1).imp fun σ H Q ⟨f, ρ, h, env, S, q⟩ => ?_
  refine ⟨f, ρ, h, env, S, ?_⟩
  simp only [MP.evE] at q
  cases e : MP.evE C a env h with
  | ok v h' =>
    rw [e] at q
    cases v with
    | bl b => exact fun ρ' H' u l s r => ⟨b, r, q ρ' H' _ l s rfl⟩
    | _ => exact (show False from q).elim
  | exc x h' => rw [e] at q; exact q
  | stuck => rw [e] at q; exact q
theorem h_and {a b : MP.Ex} {x y : Expr} {r : List Expr} {pos : Pos} (h1 : PE X x (tEp φ (MP.evE C a))) (h2 : PE X (.BoolOp .And (y :: r) pos) (tEp φ (MP.evE C b))) : PE X (.BoolOp .And (x :: y :: r) pos) (tEp φ (MP.evE C (.and_ a b))) := by
  refine (pe_and h1 h2).imp fun σ H Q ⟨f, ρ, h, env, S, q⟩ => ?_
  refine ⟨f, ρ, h, env, S, ?_⟩
  simp only [MP.evE] at q
  cases e : MP.evE C a env h with
  | ok v h' =>
    rw [e] at q
    cases v with
    | bl b' =>
      intro ρ' H' u l s r
      refine ⟨b', r, ?_⟩
      have q := Post.mono l q
      simp only [MP.truth, MP.Res.bind] at q
      cases b' with
      | true =>
        rw [if_pos rfl]
        rw [if_pos rfl] at q
        refine ⟨φ.st l f, ρ', h', env, s, ?_⟩
        cases e2 : MP.evE C b env h' with
        | ok v2 h2 =>
          rw [e2] at q
          cases v2 with
          | bl c => exact q
          | _ => exact (show False from q).elim
        | exc x h2 => rw [e2] at q; exact q
        | stuck => rw [e2] at q; exact q
      | false =>
        rw [if_neg Bool.false_ne_true]
        rw [if_neg Bool.false_ne_true] at q
        exact q ρ' H' _ Le.refl s rfl
    | _ => exact (show False from q).elim
  | exc x h' => rw [e] at q; exact q
  | stuck => rw [e] at q; exact q
theorem h_nil : PA X [] (tAp φ (MP.evEs C [])) := (s_nil (L := L) (C := C) (W := W0)).imp fun σ H Q q => q.2
theorem h_cons {m : MP.Ex} {ms : List MP.Ex} {e : Expr} {es : List Expr} (hp : plainB e = true) (h1 : PE X e (tEp φ (MP.evE C m))) (h2 : PA X es (tAp φ (MP.evEs C ms))) : PA X (e :: es) (tAp φ (MP.evEs C (m :: ms))) := by
  refine (pa_cons h1 h2 (star_plain hp)).imp fun σ H Q ⟨f, ρ, h, env, S, q⟩ => ?_
  simp only [MP.evEs] at q
  refine ⟨f, ρ, h, env, S, q.bind.imp fun u H1 ⟨ρ1, h1, v, l1, S1, r1, p1⟩ => ?_⟩
  refine ⟨φ.st l1 f, ρ1, h1, env, S1, p1.bind.imp fun us H2 ⟨ρ2, h2, vs, l2, S2, r2, p2⟩ => ?_⟩
  exact p2 ρ2 H2 (u :: us) Le.refl S2 ⟨u, us, rfl, Rep.mono l2 _ _ r1, r2⟩
theorem h_tup {ms : List MP.Ex} {es : List Expr} {k : Nat} {pos : Pos} (hl : es.length ≤ 1000) (hm : ms.length = es.length) (h : PA X es (tAp φ (MP.evEs C ms))) : PE X (.Tuple es k pos) (tEp φ (MP.evE C (.tup ms))) := by
  refine (pe_tup h).imp fun σ H Q ⟨f, ρ, h, env, S, q⟩ => ?_
  simp only [MP.evE] at q
  refine ⟨f, ρ, h, env, S, ?_⟩
  cases e : MP.evEs C ms env h with
  | ok vs h' =>
    have hlen := evEs_len e
    rw [e] at q
    intro ρ' H' us l s r
    refine ⟨?_, fun p hp => ?_⟩
    · rw [Reps.length _ _ r, hlen, hm, sizeLine_eq]; omega
    · exact Post.tup s (Post.mono l q) r hp
  | exc x h' => rw [e] at q; exact q
  | stuck => rw [e] at q; exact q.elim
theorem h_lst {ms : List MP.Ex} {es : List Expr} {pos : Pos} (hl : es.length ≤ 1000) (hm : ms.length = es.length) (h : PA X es (tAp φ (MP.evEs C ms))) : PE X (.List es pos) (tEp φ (MP.evE C (.lst ms))) := by
  refine (pe_lst h).imp fun σ H Q ⟨f, ρ, h, env, S, q⟩ => ?_
  simp only [MP.evE] at q
  refine ⟨f, ρ, h, env, S, ?_⟩
  cases e : MP.evEs C ms env h with
  | ok vs h' =>
    have hlen := evEs_len e
    rw [e] at q
    intro ρ' H' us l s r
    refine ⟨?_, fun p hp => ?_⟩
    · rw [Reps.length _ _ r, hlen, hm, sizeLine_eq]; omega
    · exact Post.lst s (Post.mono l q) r hp
  | exc x h' => rw [e] at q; exact q
  | stuck => rw [e] at q; exact q.elim
/-- a list's method -/
theorem h_bm1 (hK : X.K = L.K) {o m : MP.Ex} {b : MP.Bm} {x e : Expr} {apos pos : Pos} (hl : apos.endLine = pos.line) (hc : noCall x = true) (hp : plainB e = true) (ho : PE X x (tEp φ (MP.evE C o))) (ha : PA X [e] (tAp φ (MP.evEs C [m]))) :
    PE X (.Call (.Attribute x (bmN b) apos) [e] [] pos) (tEp φ (MP.evE C (.bmeth o b [m]))) := by
  have hline : (apos.endLine == pos.line) = true := by rw [hl]; simp
  refine (pe_bma (r := rBm L W0 b) ho ha (base_of hc) ?_ hline (star_plain hp) rfl).imp fun σ H Q ⟨f, q⟩ => ?_
  · rw [star_allno (by simp [hp])]
    simp only [keywordEach, backToKw, List.map_nil, List.all_nil, Bool.true_and, decide_eq_true_eq, List.length_cons, List.length_nil, List.isEmpty_nil, if_true]
    omega
  · simp only [MP.evE] at q
    obtain ⟨ρ, h, env, S, q⟩ := tE_gc q
    refine ⟨f, ρ, h, env, S, q.bind.imp fun u H1 ⟨ρ1, h1, v, l1, S1, r1, p1⟩ => ?_⟩
    dsimp only at p1
    split at p1
    · rename_i c
      refine ⟨bm_tyK hK S1.sim r1 c, φ.st l1 f, ρ1, h1, env, S1, p1.bind.imp fun us H2 ⟨ρ2, h2, vs, l2, S2, r2, p2⟩ => ?_⟩
      exact ⟨ρ2, h2, env, σ, v, vs, S2, Rep.mono l2 _ _ r1, r2, p2⟩
    · exact p1.elim
/-- isinstance(e, C), e the caught one -/
theorem h_xis (G : Gd L C X T W) (hS : SR X.env.scope sc) {c i : Nat} {n x t : Str} {p p1 p2 pos : Pos} {a : Addr} {oe : Obj} {pn : List (Addr × Obj)} {xv : MP.XV} {d : Option Addr} (hz : Zc (.ref (L.ca xv.c)) d oe) (hf : ∃ vs, oe.data = .fields vs) (hxe : xv.c ∈ L.exs)
    (hφ : ∀ σ H, φ.p σ H → σ[i]? = some (some (.ref a)) ∧ XFs L H d xv) (hN : X.N[i]? = some n) (hv : Vis X.env.scope n) (hd : dbg n = false) (hg : glB sc x = true) (hx : x = "isinstance") (hm : X.mg x = none) (hg2 : glB sc t = true) (ht : T.clss.lookup t = some c) :
    PE (X.suite a ((a, oe) :: pn)) (.Call (.Name x p) [.Name n p1, .Name t p2] [] pos) (tEp φ (MP.evE { C with x := some xv } (.xis c))) := by
  obtain ⟨g1, g2, g3⟩ := gl_of hS hg
  obtain ⟨t1, t2, t3⟩ := gl_of hS hg2
  obtain ⟨d1, d2, _⟩ := dbg_no hd
  obtain ⟨mt, hc⟩ := G.clss t c ht
  have F := G.exc xv.c hxe
  obtain ⟨K, k1, k3⟩ := F.sup
  have hk := (k3 c hc).2
  have ha : PA (X.suite a ((a, oe) :: pn)) [.Name n p1, .Name t p2] _ := pa_cons (pe_var (X := X.suite a ((a, oe) :: pn)) (i := i) hN hv d1 d2) (pa_cons (pe_glob (X := X.suite a ((a, oe) :: pn)) (v := .ref (L.ca c)) t1 mt rfl t2) pa_nil) rfl
  cases d with
  | some dx =>
    refine ⟨fun pins s σ H Q I ⟨f, ρ, h, env, S, q⟩ => ?_⟩
    rcases (hφ σ H f).2 with ⟨_, z⟩ | ⟨z, _⟩
    · cases z
    · simp only [MP.evE] at q
      rw [k1] at q
      have e0 : xv.fs.isEmpty = false := by
        cases e : xv.fs with
        | nil => exact absurd e z
        | cons _ _ => rfl
      simp [e0, Post] at q
  | none =>
    refine (pe_callB (X := X.suite a ((a, oe) :: pn)) (id := "isinstance") (call_isE (X := X) (pn := pn) F.ci hz hf) g1 hm (by subst hx; rfl) ha g3 g2 rfl rfl).imp fun σ H Q ⟨f, ρ, h, env, S, q⟩ => ?_
    simp only [MP.evE] at q
    rw [k1] at q
    dsimp only at q
    split at q
    · exact ⟨_, (hφ σ H f).1, .ref (L.ca c), .ref (L.ca c), _, rfl, fun u r => r, hk, Post.same S q rfl⟩
    · exact q.elim
/-- e.f, e the caught one -/
theorem h_xfld (G : Gd L C X T W) {f i : Nat} {n at_ : Str} {p1 pos : Pos} {a : Addr} {oe : Obj} {pn : List (Addr × Obj)} {xv : MP.XV} {d : Option Addr} (hz : Zc (.ref (L.ca xv.c)) d oe) (hf : ∃ vs, oe.data = .fields vs) (hxe : xv.c ∈ L.exs)
    (hφ : ∀ σ H, φ.p σ H → σ[i]? = some (some (.ref a)) ∧ XFs L H d xv) (hN : X.N[i]? = some n) (hv : Vis X.env.scope n) (hd : dbg n = false) (hat : L.an f = at_) :
    PE (X.suite a ((a, oe) :: pn)) (.Attribute (.Name n p1) at_ pos) (tEp φ (MP.evE { C with x := some xv } (.xfld f))) := by
  obtain ⟨d1, d2, _⟩ := dbg_no hd
  refine ⟨fun pins s σ H Q I ⟨z, ρ, h, env, S, q⟩ => ?_⟩
  obtain ⟨h1, h2⟩ := hφ σ H z
  simp only [MP.evE] at q
  cases e : xv.fs.lookup f with
  | none => rw [e] at q; exact q.elim
  | some v =>
    rw [e] at q
    rcases h2 with ⟨z, _⟩ | ⟨_, dx, ofs, rfl, e2, k⟩
    · rw [z] at e; cases e
    · obtain ⟨k1, u, k2, k3⟩ := k f v e
      rw [hat] at k1 k2
      have ci := (G.exc xv.c hxe).ci
      exact (pe_xf (X := X) (pn := pn) ⟨ci.hg, ci.hk, ci.hs, ci.hd⟩ (by rw [G.hK]; exact k1) hz hf (pe_var (X := X.suite a ((a, oe) :: pn)) (i := i) hN hv d1 d2)).run pins s σ H Q I ⟨_, h1, rfl, rfl, dx, ofs, u, rfl, e2, k2, q ρ H u Le.refl S (k3 ρ H)⟩
/-- what a suite knows of the caught one -/
def phA (L : Lk) (i : Nat) (a : Addr) (d : Option Addr) (xv : MP.XV) : Ph L := ⟨fun σ H => σ[i]? = some (some (.ref a)) ∧ XFs L H d xv, fun l z => ⟨z.1, z.2.mono l⟩⟩
def phN (L : Lk) : Ph L := ⟨fun _ _ => True, fun _ z => z⟩
def tSp {L : Lk} (φ : Ph L) (f : FM) : TS := fun D σ H => φ.p σ H ∧ tS L W0 f D σ H
theorem h_ret {m : MP.Ex} {e : Expr} {pos : Pos} (h1 : PE X e (tEp φ (MP.evE C m))) : PSs X [.Return (some e) pos] (tSp φ (MP.evSs C [.ret m])) := by
  refine (pss_one (ps_ret h1)).imp fun D σ H ⟨f, ρ, h, env, S, q⟩ => ?_
  simp only [MP.evSs, MP.evS] at q
  have q : PostF L W0 ρ H D ((MP.evE C m env h).fl env fun v h1 => .ret v h1) := by
    cases e : MP.evE C m env h with
    | ok v h' => rw [e] at q; exact q
    | exc x h' => rw [e] at q; exact q
    | stuck => rw [e] at q; exact q
  exact ⟨f, ρ, h, env, S, (PostF.fl q).imp fun u H1 ⟨ρ1, h1, v, l1, S1, r1, p1⟩ => p1 ρ1 H1 u Le.refl S1.sim r1⟩
theorem Gd.tr (G : Gd L C X T W) {W' : WM} (pn : List (Addr × Obj)) (xe : Value → Shared → Prop) (tk : Takes (X.tr pn xe) (Wt L W')) : Gd L C (X.tr pn xe) T W' :=
  ⟨G.hK, G.calm, G.nd, G.un, G.rm, tk, fun x f e => ⟨(G.fns x f e).1, (G.fns x f e).2.kp, (G.fns x f e).2.ok⟩, G.glb, G.free, G.clss, fun c hc => (G.exc c hc).to (G.exc c hc).rs rfl fun f1 f2 z => ⟨z.ox, z.fn, z.n1, z.n2, z.ne, z.nf⟩, G.ats, G.xcl⟩
theorem EnvR.hide {ρ : List Addr} {H : Hp} {env : MP.Env} {σ : L2.St} (e : EnvR L ρ H env σ) (i : Nat) (u : V) : EnvR L ρ H (env.set i none) (σ.set i (some u)) := by
  refine ⟨by simp [e.len], fun j w q => ?_⟩
  by_cases hj : i = j
  · subst hj
    have hi : i < env.length := by
      have := (List.getElem?_eq_some_iff.mp q).1
      simpa using this
    rw [List.getElem?_set_self hi] at q
    cases q
  · rw [List.getElem?_set_ne hj] at q
    obtain ⟨w', e1, r1⟩ := e.at_ j w q
    exact ⟨w', by rw [List.getElem?_set_ne hj]; exact e1, r1⟩
/-- what stands behind an exception of a try's body -/
def catchM (C : MP.Ctx) (c : Nat) (i : Option Nat) (hb : List MP.St) (x : MP.XV) (env1 : MP.Env) (h1 : MP.Heap) : MP.Fl := match C.P.cls x.c with
  | some K => if K.sup.contains c then (if MP.hasE i env1 then (match MP.evSs { C with x := some x } hb (MP.unE i env1) h1 with
      | .nx env2 h2 => .nx (MP.unE i env2) h2
      | .brk env2 h2 => .brk (MP.unE i env2) h2
      | .ct env2 h2 => .ct (MP.unE i env2) h2
      | .ret v h2 => .ret v h2
      | _ => .stuck) else .stuck) else .exc x env1 h1
  | none => .stuck
theorem tri_go {b : List MP.St} {c : Nat} {i : Option Nat} {hb : List MP.St} {D : Ends} {σ : L2.St} {H : Hp} (q : tS L W (MP.evS C (.tri b c i hb)) D σ H) : tS L (fun x env h ρ H' => PostF L W ρ H' D (catchM C c i hb x env h)) (MP.evSs C b) D σ H := by
  obtain ⟨ρ, h, env, S, q⟩ := q
  simp only [MP.evS] at q
  refine ⟨ρ, h, env, S, ?_⟩
  cases e : MP.evSs C b env h with
  | nx env1 h1 => rw [e] at q; exact q
  | brk env1 h1 => rw [e] at q; exact q
  | ct env1 h1 => rw [e] at q; exact q
  | ret v h1 => rw [e] at q; exact q
  | exc x env1 h1 => rw [e] at q; exact fun ρ' H' l => PostF.mono l q
  | stuck => rw [e] at q; exact q
theorem s_try_as (G : Gd L C X T W) (hs : X.stack = X.env :: X.outer) (hf : X.env.frame = some X.env.locals) (hS : SR X.env.scope sc) {b hb : List MP.St} {c i : Nat} {n x : Str} {body : List Stmt} {s0 : Stmt} {suite : List Stmt} {np pos pos' : Pos}
    (hi : X.N[i]? = some n) (hln : X.env.kindOf n = some .local) (hg : glB sc x = true) (hc : T.clss.lookup x = some c)
    (hbody : ∀ (X' : Cx) (W' : WM), Gd L C X' T W' → X'.N = X.N → X'.env = X.env → X'.stack = X.stack → X'.outer = X.outer → X'.fn = X.fn → PassesOwn (model X'.prog X'.w) X'.A X'.env X'.xe → PSs X' body (tS L W' (MP.evSs C b)))
    (hsu : ∀ (a : Addr) (oe : Obj) (d : Option Addr) (pn : List (Addr × Obj)) (xv : MP.XV), Zc (.ref (L.ca xv.c)) d oe → (∃ vs, oe.data = .fields vs) → xv.c ∈ L.exs → PSs (X.suite a ((a, oe) :: pn)) (s0 :: suite) (tSp (phA L i a d xv) (MP.evSs { C with x := some xv } hb))) :
    PS X (.Try body [.ExceptHandler (some (.Name x np)) (some n) (s0 :: suite) pos'] [] [] pos) (tS L W (MP.evS C (.tri b c (some i) hb))) := by
  obtain ⟨g1, g2, _⟩ := gl_of hS hg
  obtain ⟨m1, hx⟩ := G.clss x c hc
  refine (ps_try_as (c := .ref (L.ca c)) (i := i) (Wout := Wt L W) (tb := fun W'' D σ H => ∃ W' : WM, (∀ cls d σ H, Wt L W' cls d σ H → W'' cls d σ H) ∧ tS L W' (MP.evSs C b) D σ H)
    (ts := fun a cls d D σ H => ∃ xv : MP.XV, cls = .ref (L.ca xv.c) ∧ xv.c ∈ L.exs ∧ tSp (phA L i a d xv) (MP.evSs { C with x := some xv } hb) D σ H) hs hf G.nd hi hln ⟨g1, g2, .inl m1⟩ G.tk ?_ ?_).imp fun D σ H q => ?_
  · exact fun W'' pn xe tk po => ⟨fun pins s σ H D I ⟨W', k, q⟩ => (hbody (X.tr pn xe) W' (G.tr pn xe (tk.imp k)) rfl rfl rfl rfl rfl po).run pins s σ H D I q⟩
  · exact fun a oe cls d pn hz hfl => ⟨fun pins s σ H D I ⟨xv, e1, hx, q⟩ => (hsu a oe d pn xv (by rw [e1] at hz; exact hz) hfl hx).run pins s σ H D I q⟩
  · refine ⟨_, fun cls d σ1 H1 z => ?_, tri_go q⟩
    obtain ⟨ρ, h, env, xv, S1, ⟨ec, ef, ex⟩, p⟩ := z
    obtain ⟨K, k1, k3⟩ := (G.exc xv.c ex).sup
    unfold catchM at p
    rw [k1] at p
    dsimp only at p
    refine ⟨K.sup.contains c, by rw [ec]; exact (k3 c hx).1, fun ht a ha => ?_, fun hn => ?_⟩
    · rw [if_pos ht] at p
      by_cases hh : MP.hasE (some i) env = true
      · rw [if_pos hh] at p
        have hil : i < σ1.length := by rw [← S1.env.len]; exact of_decide_eq_true hh
        refine ⟨xv, ec, ex, ⟨(by rw [List.getElem?_set_self hil] : (σ1.set i (some (V.ref a)))[i]? = some (some (V.ref a))), ef⟩, ρ, h, MP.unE (some i) env, ⟨S1.sim, S1.env.hide i (.ref a)⟩, ?_⟩
        cases e : MP.evSs { C with x := some xv } hb (MP.unE (some i) env) h with
        | nx env1 h1 => rw [e] at p; exact fun ρ' H' σ' l s => p ρ' H' _ l ⟨s.sim, s.env.unset i⟩
        | brk env1 h1 => rw [e] at p; exact fun ρ' H' σ' l s => p ρ' H' _ l ⟨s.sim, s.env.unset i⟩
        | ct env1 h1 => rw [e] at p; exact fun ρ' H' σ' l s => p ρ' H' _ l ⟨s.sim, s.env.unset i⟩
        | ret v h1 => rw [e] at p; exact p
        | exc x env1 h1 => rw [e] at p; exact p.elim
        | stuck => rw [e] at p; exact p
      · rw [if_neg hh] at p; exact p.elim
    · rw [if_neg (by rw [hn]; exact Bool.false_ne_true)] at p
      exact ⟨ρ, h, env, xv, S1, ⟨ec, ef, ex⟩, p ρ H1 Le.refl⟩
theorem s_try_only (G : Gd L C X T W) (hs : X.stack = X.env :: X.outer) (hf : X.env.frame = some X.env.locals) (hS : SR X.env.scope sc) {b hb : List MP.St} {c : Nat} {x : Str} {body : List Stmt} {s0 : Stmt} {suite : List Stmt} {np pos pos' : Pos}
    (hg : glB sc x = true) (hc : T.clss.lookup x = some c)
    (hbody : ∀ (X' : Cx) (W' : WM), Gd L C X' T W' → X'.N = X.N → X'.env = X.env → X'.stack = X.stack → X'.outer = X.outer → X'.fn = X.fn → PassesOwn (model X'.prog X'.w) X'.A X'.env X'.xe → PSs X' body (tS L W' (MP.evSs C b)))
    (hsu : ∀ (a : Addr) (oe : Obj) (d : Option Addr) (pn : List (Addr × Obj)) (xv : MP.XV), Zc (.ref (L.ca xv.c)) d oe → (∃ vs, oe.data = .fields vs) → xv.c ∈ L.exs → PSs (X.suite a ((a, oe) :: pn)) (s0 :: suite) (tSp (phN L) (MP.evSs { C with x := some xv } hb))) :
    PS X (.Try body [.ExceptHandler (some (.Name x np)) none (s0 :: suite) pos'] [] [] pos) (tS L W (MP.evS C (.tri b c none hb))) := by
  obtain ⟨g1, g2, _⟩ := gl_of hS hg
  obtain ⟨m1, hx⟩ := G.clss x c hc
  refine (ps_try_only (c := .ref (L.ca c)) (Wout := Wt L W) (tb := fun W'' D σ H => ∃ W' : WM, (∀ cls d σ H, Wt L W' cls d σ H → W'' cls d σ H) ∧ tS L W' (MP.evSs C b) D σ H)
    (ts := fun a cls d D σ H => ∃ xv : MP.XV, cls = .ref (L.ca xv.c) ∧ xv.c ∈ L.exs ∧ tSp (phN L) (MP.evSs { C with x := some xv } hb) D σ H) hs hf ⟨g1, g2, .inl m1⟩ G.tk ?_ ?_).imp fun D σ H q => ?_
  · exact fun W'' pn xe tk po => ⟨fun pins s σ H D I ⟨W', k, q⟩ => (hbody (X.tr pn xe) W' (G.tr pn xe (tk.imp k)) rfl rfl rfl rfl rfl po).run pins s σ H D I q⟩
  · exact fun a oe cls d pn hz hfl => ⟨fun pins s σ H D I ⟨xv, e1, hx, q⟩ => (hsu a oe d pn xv (by rw [e1] at hz; exact hz) hfl hx).run pins s σ H D I q⟩
  · refine ⟨_, fun cls d σ1 H1 z => ?_, tri_go q⟩
    obtain ⟨ρ, h, env, xv, S1, ⟨ec, ef, ex⟩, p⟩ := z
    obtain ⟨K, k1, k3⟩ := (G.exc xv.c ex).sup
    unfold catchM at p
    rw [k1] at p
    dsimp only at p
    refine ⟨K.sup.contains c, by rw [ec]; exact (k3 c hx).1, fun ht a ha => ?_, fun hn => ?_⟩
    · rw [if_pos ht] at p
      rw [if_pos (show MP.hasE none env = true from rfl)] at p
      refine ⟨xv, ec, ex, trivial, ρ, h, env, S1, ?_⟩
      have p : PostF L W ρ H1 D (match MP.evSs { C with x := some xv } hb env h with
          | .nx env2 h2 => .nx env2 h2
          | .brk env2 h2 => .brk env2 h2
          | .ct env2 h2 => .ct env2 h2
          | .ret v h2 => .ret v h2
          | _ => .stuck) := p
      cases e : MP.evSs { C with x := some xv } hb env h with
      | nx env1 h1 => rw [e] at p; exact p
      | brk env1 h1 => rw [e] at p; exact p
      | ct env1 h1 => rw [e] at p; exact p
      | ret v h1 => rw [e] at p; exact p
      | exc x env1 h1 => rw [e] at p; exact p.elim
      | stuck => rw [e] at p; exact p
    · rw [if_neg (by rw [hn]; exact Bool.false_ne_true)] at p
      exact ⟨ρ, h, env, xv, S1, ⟨ec, ef, ex⟩, p ρ H1 Le.refl⟩
end
end MPS
end

section
set_option Elab.async false
set_option linter.all false
set_option maxRecDepth 100000
set_option maxHeartbeats 4000000
namespace MPS
open PySem PySem.Spec PyProof.Rows L2

def notTup : Expr → Bool
  | .Tuple .. => false
  | _ => true
def notComp : Expr → Bool
  | .ListComp .. => false
  | .SetComp .. => false
  | .DictComp .. => false
  | _ => true
theorem sw_notComp {e : Expr} {t : Option Expr} {l : Nat} {env : Env} (h : notComp e = true) : swapsWith e t l env = pure false := by
  cases e <;> first | rfl | cases h
theorem sw_tup {e : Expr} {te : List Expr} {k : Nat} {tp : Pos} {l : Nat} {env : Env} : swapsWithSole [.Tuple te k tp] e l env = pure false := by
  cases e <;> rfl
theorem sw_sub {e x y : Expr} {tp : Pos} {l : Nat} {env : Env} : swapsWithSole [.Subscript x y tp] e l env = pure false := by
  cases e <;> rfl
theorem ss_notTup {e : Expr} {te : List Expr} {k : Nat} {tp : Pos} {env : Env} (h : notTup e = true) : swappedStores [.Tuple te k tp] e env = pure none := by
  cases e <;> first | rfl | cases h
theorem ss_sub {e x y : Expr} {tp : Pos} {env : Env} : swappedStores [.Subscript x y tp] e env = pure none := by
  cases e <;> rfl
theorem ss_len {te es : List Expr} {k k2 : Nat} {tp p2 : Pos} {env : Env} (h : te.length ≠ 2 ∧ te.length ≠ 3) : swappedStores [.Tuple te k tp] (.Tuple es k2 p2) env = pure none := by
  unfold swappedStores
  simp [h.1, h.2]
theorem ss_fold {te es : List Expr} {k k2 : Nat} {tp p2 : Pos} {env : Env} (h : es.all (foldedForSure 8) = true) : swappedStores [.Tuple te k tp] (.Tuple es k2 p2) env = pure none := by
  unfold swappedStores
  dsimp only
  split
  · rfl
  · split
    · rfl
    · split
      · rfl
      · first | rfl | (rw [if_pos h])
theorem blk_fn {env : Env} (h : env.scope.kind = .function) : env.blockKind = .function := by
  unfold Env.blockKind
  rw [h]
  rfl
theorem ss_two {x y : Str} {a b : Expr} {px py pt p2 : Pos} {k k2 : Nat} {env : Env} (hk : env.scope.kind = .function) (hx : env.scope.names.lookup x = some .local) (hy : env.scope.names.lookup y = some .local) (hxy : x ≠ y) (hl : py.line = px.line)
    (ha : plainB a = true) (hb : plainB b = true) (hf : [a, b].all (foldedForSure 8) = false) (hc : [a, b].all (constantsAlone 8) = false) :
    swappedStores [.Tuple [.Name x px, .Name y py] k pt] (.Tuple [a, b] k2 p2) env = pure (some [x, y]) := by
  have kx : env.kindOf x = some .local := hx
  have ky : env.kindOf y = some .local := hy
  have hyx : (y == x) = false := beq_eq_false_iff_ne.mpr (Ne.symm hxy)
  have hxy' : (x == y) = false := beq_eq_false_iff_ne.mpr hxy
  unfold swappedStores
  dsimp only
  split
  · rename_i h
    simp [blk_fn hk] at h
  · split
    · rename_i h
      exfalso
      simp only [List.any_cons, List.any_nil, Bool.or_false, Bool.or_eq_true] at h
      rcases h with h | h
      · revert h
        cases a <;> first | (intro h; cases h; done) | (cases ha; done)
      · revert h
        cases b <;> first | (intro h; cases h; done) | (cases hb; done)
    · split
      · rename_i h
        exfalso
        simp [kx, ky, hl, List.filterMap, List.eraseDups, List.eraseDupsBy, List.eraseDupsBy.loop, Expr.pos, hyx, hxy'] at h
      · rw [hf, hc]
        simp [kx, ky, hl, List.filterMap, Expr.pos]
theorem ss_three {x y z : Str} {a b d : Expr} {px py pz pt p2 : Pos} {k k2 : Nat} {env : Env} (hk : env.scope.kind = .function) (hx : env.scope.names.lookup x = some .local) (hy : env.scope.names.lookup y = some .local) (hz : env.scope.names.lookup z = some .local) (hxy : x ≠ y) (hxz : x ≠ z) (hyz : y ≠ z) (hl : py.line = px.line) (hl2 : pz.line = px.line)
    (ha : plainB a = true) (hb : plainB b = true) (hd : plainB d = true) (hf : [a, b, d].all (foldedForSure 8) = false) (hc : [a, b, d].all (constantsAlone 8) = false) :
    swappedStores [.Tuple [.Name x px, .Name y py, .Name z pz] k pt] (.Tuple [a, b, d] k2 p2) env = pure (some [x, y, z]) := by
  have kx : env.kindOf x = some .local := hx
  have ky : env.kindOf y = some .local := hy
  have kz : env.kindOf z = some .local := hz
  have hzx : (z == x) = false := beq_eq_false_iff_ne.mpr (Ne.symm hxz)
  have hzy : (z == y) = false := beq_eq_false_iff_ne.mpr (Ne.symm hyz)
  have hyx : (y == x) = false := beq_eq_false_iff_ne.mpr (Ne.symm hxy)
  have hxy' : (x == y) = false := beq_eq_false_iff_ne.mpr hxy
  unfold swappedStores
  dsimp only
  split
  · rename_i h
    simp [blk_fn hk] at h
  · split
    · rename_i h
      exfalso
      simp only [List.any_cons, List.any_nil, Bool.or_false, Bool.or_eq_true] at h
      rcases h with h | h | h
      · revert h
        cases a <;> first | (intro h; cases h; done) | (cases ha; done)
      · revert h
        cases b <;> first | (intro h; cases h; done) | (cases hb; done)
      · revert h
        cases d <;> first | (intro h; cases h; done) | (cases hd; done)
    · split
      · rename_i h
        exfalso
        simp [kx, ky, kz, hl, hl2, List.filterMap, List.eraseDups, List.eraseDupsBy, List.eraseDupsBy.loop, Expr.pos, hyx, hxy', hzx, hzy] at h
      · rw [hf, hc]
        simp [kx, ky, kz, hl, hl2, List.filterMap, Expr.pos]

/-- a target that comprehensions see is stored plainly -/
def cellB (sc : Scope) : Expr → Bool
  | .Name x _ => decide (sc.names.lookup x = some .cell)
  | _ => false
theorem fm_lt {α β : Type} {f : α → Option β} {c : α → Bool} (hc : ∀ t, c t = true → f t = none) : ∀ l : List α, l.any c = true → (l.filterMap f).length < l.length
  | [], h => by cases h
  | a :: l, h => by
    rw [List.any_cons, Bool.or_eq_true] at h
    have hl := List.length_filterMap_le f l
    cases ha : c a with
    | true =>
      rw [List.filterMap_cons, hc a ha]
      simp only [List.length_cons]
      omega
    | false =>
      rw [ha] at h
      have ih := fm_lt hc l (h.resolve_left Bool.false_ne_true)
      rw [List.filterMap_cons]
      split
      · simp only [List.length_cons]; omega
      · simp only [List.length_cons]; omega
theorem ss_cell {te es : List Expr} {k k2 : Nat} {tp p2 : Pos} {env : Env} (h : te.any (cellB env.scope) = true) : swappedStores [.Tuple te k tp] (.Tuple es k2 p2) env = pure none := by
  unfold swappedStores
  dsimp only
  split
  · rfl
  · split
    · rfl
    · have key : ∀ line : Nat, ((te.filterMap fun (t : Expr) => match t with
          | .Name id pos => if (env.kindOf id == some .local && pos.line == line) = true then some id else none
          | _ => none).length != te.length) = true := by
        intro line
        have := fm_lt (f := fun (t : Expr) => match t with
          | .Name id pos => if (env.kindOf id == some .local && pos.line == line) = true then some id else none
          | _ => none) (c := cellB env.scope) (fun t ht => by
            unfold cellB at ht
            split at ht
            · rename_i x pos
              have e : env.kindOf x = some .cell := of_decide_eq_true ht
              simp [e]
            · cases ht) te h
        simp only [bne_iff_ne, ne_eq]
        omega
      first
      | (rw [if_pos (by rw [key]; rfl)]; done)
      | (split
         · rfl
         · rename_i hn
           exfalso
           apply hn
           rw [Bool.or_eq_true]
           exact .inl (key _))

/-! ### the checker of statements -/
/-- a suite's expressions; io: the exception's name -/
def ckX (c : Ck) (io : Option Str) : Nat → Scope → MP.Ex → Expr → Bool
  | 0, _, _, _ => false
  | n + 1, sc, m, e => match m with
    | .lit v => (match e with
      | .Constant k _ _ => litOk v k
      | _ => false)
    | .not_ a => (match e with
      | .UnaryOp .Not x _ => ckX c io n sc a x
      | _ => false)
    | .and_ a b => (match e with
      | .BoolOp .And [x, y] _ => ckX c io n sc a x && ckX c io n sc b y
      | _ => false)
    | .tup [a, b] => (match e with
      | .Tuple [x, y] _ _ => plainB x && plainB y && (ckX c io n sc a x && ckX c io n sc b y)
      | _ => false)
    | .lst [a, b] => (match e with
      | .List [x, y] _ => plainB x && plainB y && (ckX c io n sc a x && ckX c io n sc b y)
      | _ => false)
    | .lst [a, b, d] => (match e with
      | .List [x, y, z] _ => plainB x && plainB y && plainB z && (ckX c io n sc a x && ckX c io n sc b y && ckX c io n sc d z)
      | _ => false)
    | .bmeth o .index [w] => (match e with
      | .Call (.Attribute x at_ apos) [y] [] pos => decide (at_ = bmN .index) && decide (apos.endLine = pos.line) && noCall x && plainB y && (ckX c io n sc o x && ckX c io n sc w y)
      | _ => false)
    | .xis cl => (match e with
      | .Call (.Name x _) [.Name nm _, .Name t _] [] _ => decide (io = some nm) && glB sc x && decide (x = "isinstance") && c.T.free.contains x && glB sc t && decide (c.T.clss.lookup t = some cl) && visB sc nm && !dbg nm
      | _ => false)
    | .xfld f => (match e with
      | .Attribute (.Name nm _) at_ _ => decide (io = some nm) && decide (c.T.ats.lookup at_ = some f) && visB sc nm && !dbg nm
      | _ => false)
    | _ => false
def swLc (sc s2 : Scope) (y : Str) (py pos : Pos) : Bool := py.line == pos.line && !(s2.names.any fun (n, k) => n == y && (k == .local || k == .cell)) && decide (sc.names.lookup y = some .local)
/-- a comprehension that is stored as any other value -/
def plSw (sc : Scope) (e : Expr) (y : Str) (py : Pos) : Bool := match e with
  | .ListComp _ _ s2 pos => decide (sc.names.lookup y = some .cell) || (decide (sc.names.lookup y = some .local) && !(py.line == pos.line && !(s2.names.any fun (n, k) => n == y && (k == .local || k == .cell))))
  | _ => false
theorem sw_false {e : Expr} {py : Pos} {y : Str} {l : Nat} {sc : Scope} {env : Env} (k : ∀ z, z = .cell ∨ z = .local → sc.names.lookup y = some z → env.scope.names.lookup y = some z) (h : plSw sc e y py = true) : swapsWith e (some (.Name y py)) l env = pure false := by
  unfold plSw at h
  split at h
  · rename_i e' gs s2 pos
    have e0 : swapsWith (.ListComp e' gs s2 pos) (some (.Name y py)) l env = pure (env.blockKind == .function && env.kindOf y == some .local && py.line == pos.line && !(s2.names.any fun (n, k) => n == y && (k == .local || k == .cell))) := rfl
    rw [e0]
    congr 1
    simp only [Bool.or_eq_true, decide_eq_true_eq, Bool.and_eq_true, Bool.not_eq_true'] at h
    rcases h with h | ⟨h1, h2⟩
    · have ky : env.kindOf y = some .cell := k _ (.inl rfl) h
      rw [ky]
      have : ((some NameKind.cell : Option NameKind) == some .local) = false := by decide
      rw [this, Bool.and_false, Bool.false_and, Bool.false_and]
    · rw [Bool.and_assoc, h2, Bool.and_false]
  · cases h
mutual
def ckS (c : Ck) : Nat → Scope → MP.St → Stmt → Bool
  | 0, _, _, _ => false
  | n + 1, sc, m, s => match m with
    | .pass => (match s with
      | .Pass _ => true
      | .Expr (.Constant (.str _) _ _) _ => true
      | _ => false)
    | .brk => (match s with
      | .Break _ => true
      | _ => false)
    | .cont => (match s with
      | .Continue _ => true
      | _ => false)
    | .expr m => (match s with
      | .Expr e _ => notComp e && ckE c n sc m e
      | _ => false)
    | .ret m => (match s with
      | .Return (some e) _ => ckE c n sc m e
      | .Return none _ => (match m with
        | .lit .non => true
        | _ => false)
      | _ => false)
    | .iff d a b => (match s with
      | .If e ta tb _ => ckE c n sc d e && noIf e && (ckSs c n sc a ta && ckSs c n sc b tb)
      | _ => false)
    | .whl d b => (match s with
      | .While e tb [] _ => ckE c n sc d e && noIf e && ckSs c n sc b tb
      | _ => false)
    | .forr tg k ss b => (match s with
      | .For t i tb [] _ => tgB c.N sc tg t && (ckI c n sc t k ss i && ckSs c n sc b tb)
      | _ => false)
    | .asg (.nm (.nm i)) m => (match s with
      | .Assign [.Name x py] e pos => decide (c.N[i]? = some x) && locB sc x && (match notComp e with
        | true => ckE c n sc m e
        | false => (match plSw sc e x py with
          | true => ckE c n sc m e
          | false => (match m, e with
            | .comp elt tg k ss tests own, .ListComp e [⟨t, i, ifs, 0⟩] s2 p2 => swLc sc s2 x py p2 && ckE c n s2 elt e && (tgB c.N s2 tg t && tgI own tg) && ckI c n sc t k ss i && ckTs c n s2 tests ifs && blkC c.N sc s2 (own.map fun j => ((c.N[j]?).getD "", j))
            | .comp2 elt tg k ss tg2 m2 own, .ListComp e [⟨t, i, [], 0⟩, ⟨t2, i2, [], 0⟩] s2 p2 => swLc sc s2 x py p2 && ckE c n s2 elt e && (tgB c.N s2 tg t && tgI own tg) && (tgB c.N s2 tg2 t2 && tgI tg2.names tg2 && tg2.names.all own.contains) && ckI c n sc t k ss i && (noSet i2 && ckE c n s2 m2 i2) && blkC c.N sc s2 (own.map fun j => ((c.N[j]?).getD "", j))
            | _, _ => false)))
      | _ => false)
    | .asg (.nm (.tp ts)) m => (match s with
      | .Assign [.Tuple te _ _] e _ => tgsB c.N sc ts te && (match e with
        | .Tuple es _ _ => (match es.all (foldedForSure 8) || (decide (te.length ≠ 2) && decide (te.length ≠ 3)) with
          | true => ckE c n sc m e
          | false => (match te.any (cellB sc) with
           | true => ckE c n sc m e
           | false => (match ts, te, m, es with
            | [.nm i, .nm j], [.Name x px, .Name y py], .tup ms, [a, b] => decide (c.N[i]? = some x) && decide (c.N[j]? = some y) && decide (i ≠ j) && decide (x ≠ y) && decide (py.line = px.line) && decide (sc.names.lookup x = some .local ∧ sc.names.lookup y = some .local) && !(es.all (constantsAlone 8)) && ckEs c n sc ms es
            | [.nm i, .nm j, .nm l], [.Name x px, .Name y py, .Name z pz], .tup ms, [a, b, d] => decide (c.N[i]? = some x) && decide (c.N[j]? = some y) && decide (c.N[l]? = some z) && decide (i ≠ j ∧ i ≠ l ∧ j ≠ l) && decide (x ≠ y ∧ x ≠ z ∧ y ≠ z) && decide (py.line = px.line ∧ pz.line = px.line) && decide (sc.names.lookup x = some .local ∧ sc.names.lookup y = some .local ∧ sc.names.lookup z = some .local) && !(es.all (constantsAlone 8)) && ckEs c n sc ms es
            | _, _, _, _ => false)))
        | e => ckE c n sc m e)
      | _ => false)
    | .asg (.sub a i) m => (match s with
      | .Assign [.Subscript x y _] e _ => plainB y && (ckE c n sc m e && (ckE c n sc a x && ckE c n sc i y))
      | _ => false)
    | .augN i op m => (match s with
      | .AugAssign (.Name x _) o e _ => decide (o = opP op) && (match op with
        | .add => true
        | .sub => true
        | _ => false) && decide (c.N[i]? = some x) && decide (sc.names.lookup x = some .local) && ckE c n sc m e
      | _ => false)
    | .raise cl [.lit v] => (match s with
      | .Raise (some (.Call (.Name x _) [.Constant (.str _) _ _] [] _)) none _ => glB sc x && decide (c.T.clss.lookup x = some cl)
      | _ => false)
    | .raise cl [m1, m2] => (match s with
      | .Raise (some (.Call (.Name x _) [e1, e2] [] _)) none _ => glB sc x && decide (c.T.clss.lookup x = some cl) && c.T.xcl.contains cl && ckEs c n sc [m1, m2] [e1, e2]
      | _ => false)
    | .tri b cl io [.ret m] => (match s with
      | .Try body [.ExceptHandler (some (.Name x _)) nm [.Return (some e) _] _] [] [] _ => glB sc x && decide (c.T.clss.lookup x = some cl) && ckSs c n sc b body && ckX c nm n sc m e && (match io, nm with
        | some i, some y => decide (c.N[i]? = some y) && decide (sc.names.lookup y = some .local)
        | none, none => true
        | _, _ => false)
      | _ => false)
    | _ => false
def ckSs (c : Ck) : Nat → Scope → List MP.St → List Stmt → Bool
  | 0, _, _, _ => false
  | n + 1, sc, [], [] => true
  | n + 1, sc, m :: ms, s :: ss => ckS c n sc m s && ckSs c n sc ms ss
  | _ + 1, _, _, _ => false
end
end MPS
end

section
set_option Elab.async false
set_option linter.all false
set_option maxRecDepth 100000
set_option maxHeartbeats 4000000
namespace MPS
open PySem PySem.Spec PyProof.Rows L2

theorem ckX_ok {L : Lk} {C : MP.Ctx} {X : Cx} {W : WM} {c : Ck} {sc : Scope} {io : Option Str} {φ : Ph L} {a : Addr} {oe : Obj} {pn : List (Addr × Obj)} {xv : MP.XV} {d : Option Addr} (G : Gd L C X c.T W) (hS : SR X.env.scope sc) (hz : Zc (.ref (L.ca xv.c)) d oe) (hf : ∃ vs, oe.data = .fields vs) (hxe : xv.c ∈ L.exs)
    (hio : ∀ nm, io = some nm → ∃ i : Nat, X.N[i]? = some nm ∧ ∀ σ H, φ.p σ H → σ[i]? = some (some (V.ref a)) ∧ XFs L H d xv) :
    ∀ (n : Nat) (m : MP.Ex) (e : Expr), ckX c io n sc m e = true → PE (X.suite a ((a, oe) :: pn)) e (tEp φ (MP.evE { C with x := some xv } m))
  | 0, m, e, h => by simp [ckX] at h
  | n + 1, m, e, h => by
    unfold ckX at h
    split at h
    · split at h
      · exact h_lit h
      · cases h
    · split at h
      · exact h_not (ckX_ok G hS hz hf hxe hio n _ _ h)
      · cases h
    · split at h
      · rw [Bool.and_eq_true] at h
        exact h_and (ckX_ok G hS hz hf hxe hio n _ _ h.1) (pe_one (ckX_ok G hS hz hf hxe hio n _ _ h.2))
      · cases h
    · split at h
      · simp only [Bool.and_eq_true] at h
        obtain ⟨⟨h1, h2⟩, h3, h4⟩ := h
        exact h_tup (by simp) rfl (h_cons h1 (ckX_ok G hS hz hf hxe hio n _ _ h3) (h_cons h2 (ckX_ok G hS hz hf hxe hio n _ _ h4) h_nil))
      · cases h
    · split at h
      · simp only [Bool.and_eq_true] at h
        obtain ⟨⟨h1, h2⟩, h3, h4⟩ := h
        exact h_lst (by simp) rfl (h_cons h1 (ckX_ok G hS hz hf hxe hio n _ _ h3) (h_cons h2 (ckX_ok G hS hz hf hxe hio n _ _ h4) h_nil))
      · cases h
    · split at h
      · simp only [Bool.and_eq_true] at h
        obtain ⟨⟨⟨h1, h2⟩, h3⟩, ⟨h4, h5⟩, h6⟩ := h
        exact h_lst (by simp) rfl (h_cons h1 (ckX_ok G hS hz hf hxe hio n _ _ h4) (h_cons h2 (ckX_ok G hS hz hf hxe hio n _ _ h5) (h_cons h3 (ckX_ok G hS hz hf hxe hio n _ _ h6) h_nil)))
      · cases h
    · split at h
      · simp only [Bool.and_eq_true, decide_eq_true_eq] at h
        obtain ⟨⟨⟨⟨rfl, h1⟩, h2⟩, h3⟩, h4, h5⟩ := h
        exact h_bm1 (X := X.suite a ((a, oe) :: pn)) G.hK h1 h2 h3 (ckX_ok G hS hz hf hxe hio n _ _ h4) (h_cons h3 (ckX_ok G hS hz hf hxe hio n _ _ h5) h_nil)
      · cases h
    · split at h
      · simp only [Bool.and_eq_true, decide_eq_true_eq, Bool.not_eq_true'] at h
        obtain ⟨⟨⟨⟨⟨⟨⟨h1, h2⟩, h3⟩, h4⟩, h5⟩, h6⟩, h7⟩, h8⟩ := h
        obtain ⟨i, i1, i2⟩ := hio _ h1
        exact h_xis G hS hz hf hxe i2 i1 (hS.vis h7) h8 h2 h3 (free_of G h4) h5 h6
      · cases h
    · split at h
      · simp only [Bool.and_eq_true, decide_eq_true_eq, Bool.not_eq_true'] at h
        obtain ⟨⟨⟨h1, h2⟩, h3⟩, h4⟩ := h
        obtain ⟨i, i1, i2⟩ := hio _ h1
        exact h_xfld G hz hf hxe i2 i1 (hS.vis h3) h4 (G.ats _ _ h2)
      · cases h
    · cases h
structure StX (X : Cx) (sc : Scope) : Prop where
  hS : SR X.env.scope sc
  kind : X.env.scope.kind = .function
  stk : X.stack = X.env :: X.outer
  fr : X.env.frame = some X.env.locals
  po : PassesOwn (model X.prog X.w) X.A X.env X.xe
  fn : ∀ x, X.fn x = true
structure AllS (c : Ck) (n : Nat) : Prop where
  s : ∀ {L : Lk} {C : MP.Ctx} {X : Cx} {W : WM} {sc : Scope} {m : MP.St} {e : Stmt}, Gd L C X c.T W → X.N = c.N → StX X sc → ckS c n sc m e = true → PS X e (tS L W (MP.evS C m))
  ss : ∀ {L : Lk} {C : MP.Ctx} {X : Cx} {W : WM} {sc : Scope} {m : List MP.St} {e : List Stmt}, Gd L C X c.T W → X.N = c.N → StX X sc → ckSs c n sc m e = true → PSs X e (tS L W (MP.evSs C m))
theorem alls_ss {c : Ck} {n : Nat} (A : AllS c n) : ∀ {L : Lk} {C : MP.Ctx} {X : Cx} {W : WM} {sc : Scope} {m : List MP.St} {e : List Stmt}, Gd L C X c.T W → X.N = c.N → StX X sc → ckSs c (n + 1) sc m e = true → PSs X e (tS L W (MP.evSs C m)) := by
  intro L C X W sc m e G hN hX h
  unfold ckSs at h
  split at h
  · cases ‹n + 1 = 0›
  · exact ss_nil
  · cases ‹n + 1 = _›
    rw [Bool.and_eq_true] at h
    exact ss_cons (A.s G hN hX h.1) (A.ss G hN hX h.2)
  · cases h
theorem notTup_of {e : Expr} (h : ∀ a b d, e = .Tuple a b d → False) : notTup e = true := by
  cases e <;> first | rfl | exact (h _ _ _ rfl).elim
theorem alls_s {c : Ck} {n : Nat} (A : AllS c n) : ∀ {L : Lk} {C : MP.Ctx} {X : Cx} {W : WM} {sc : Scope} {m : MP.St} {e : Stmt}, Gd L C X c.T W → X.N = c.N → StX X sc → ckS c (n + 1) sc m e = true → PS X e (tS L W (MP.evS C m)) := by
  intro L C X W sc m e G hN hX h
  have AE := all_ok c n
  have hS := hX.hS
  unfold ckS at h
  split at h
  · split at h
    · exact s_pass
    · exact s_doc
    · cases h
  · split at h
    · exact s_brk
    · cases h
  · split at h
    · exact s_cont
    · cases h
  · split at h
    · rw [Bool.and_eq_true] at h
      exact s_expr (sw_notComp h.1) (AE.e G hN hS h.2).1
    · cases h
  · split at h
    · exact s_ret (AE.e G hN hS h).1
    · split at h
      · exact s_retN
      · cases h
    · cases h
  · split at h
    · simp only [Bool.and_eq_true] at h
      exact s_if ((AE.e G hN hS h.1.1).2 h.1.2) (A.ss G hN hX h.2.1) (A.ss G hN hX h.2.2)
    · cases h
  · split at h
    · simp only [Bool.and_eq_true] at h
      exact s_while hX.po ((AE.e G hN hS h.1.1).2 h.1.2) (A.ss G hN hX h.2)
    · cases h
  · split at h
    · simp only [Bool.and_eq_true] at h
      obtain ⟨pi, fo⟩ := AE.i G hN hS h.2.1
      exact s_for G hX.po pi fo (tg_ok hS (fun x _ => hX.fn x) G.hK G.calm G.nd _ _ (by rw [hN]; exact h.1)) (A.ss G hN hX h.2.2)
    · cases h
  · split at h
    · simp only [Bool.and_eq_true, decide_eq_true_eq] at h
      obtain ⟨⟨h1, h2⟩, h3⟩ := h
      have hi := h1
      rw [← hN] at hi
      split at h3
      · have lc : Loc X.env.scope _ := (locB_or h2).imp (fun z => hS.keep z (by decide)) fun z => hS.keep z (by decide)
        exact s_set G.nd hi lc (.inl (hX.fn _)) (sw_notComp ‹_›) (AE.e G hN hS h3).1
      · split at h3
        · have lc : Loc X.env.scope _ := (locB_or h2).imp (fun z => hS.keep z (by decide)) fun z => hS.keep z (by decide)
          exact s_set G.nd hi lc (.inl (hX.fn _)) (sw_false (fun z hz q => hS.keep q (by rcases hz with rfl | rfl <;> decide)) ‹_›) (AE.e G hN hS h3).1
        · split at h3
          · simp only [Bool.and_eq_true] at h3
            obtain ⟨⟨⟨⟨⟨k1, k2⟩, k3, k4⟩, k5⟩, k6⟩, k7⟩ := h3
            unfold swLc at k1
            simp only [Bool.and_eq_true, decide_eq_true_eq, Bool.not_eq_true'] at k1
            obtain ⟨pi, fo⟩ := AE.i G hN hS k5
            have ok := blkOk_by k7
            rw [← hN] at ok k3
            have lc := hS.keep k1.2 (by decide)
            exact s_setLc G hS hi lc own_map (sw_true hX.kind lc k1.1.1 k1.1.2) pi fo ok k4 k3 (fun X' G' hN' hS' => (AE.e G' (hN'.trans hN) hS' k2).1) fun X' G' hN' hS' => AE.t G' (hN'.trans hN) hS' k6
          · simp only [Bool.and_eq_true, List.all_eq_true] at h3
            obtain ⟨⟨⟨⟨⟨⟨k1, k2⟩, k3, k4⟩, ⟨k5, k6⟩, k7⟩, k8⟩, k9, k10⟩, k11⟩ := h3
            unfold swLc at k1
            simp only [Bool.and_eq_true, decide_eq_true_eq, Bool.not_eq_true'] at k1
            obtain ⟨pi, fo⟩ := AE.i G hN hS k8
            have ok := blkOk_by k11
            rw [← hN] at ok k3 k5
            have lc := hS.keep k1.2 (by decide)
            exact s_setLc2 G hS hi lc own_map (sw_true hX.kind lc k1.1.1 k1.1.2) pi fo ok k4 k3 k6 k5 (fun i hi => by simpa using k7 i hi) k9 (fun X' G' hN' hS' => (AE.e G' (hN'.trans hN) hS' k2).1) fun X' G' hN' hS' => (AE.e G' (hN'.trans hN) hS' k10).1
          · cases h3
    · cases h
  · split at h
    · rw [Bool.and_eq_true] at h
      obtain ⟨h1, h2⟩ := h
      have pg : ∀ {k : Nat} {tp : Pos}, PG X (.Tuple _ k tp) (gM L (.tp _)) := fun {k tp} => tg_ok hS (fun x _ => hX.fn x) G.hK G.calm G.nd (.tp _) (.Tuple _ k tp) (by rw [hN]; simpa only [tgB] using h1)
      split at h2
      · split at h2
        · rename_i hc
          rw [Bool.or_eq_true] at hc
          refine s_asgT (p := .Name "" default) pg sw_tup ?_ (AE.e G hN hS h2).1
          rcases hc with hc | hc
          · exact ss_fold hc
          · simp only [Bool.and_eq_true, decide_eq_true_eq] at hc
            exact ss_len hc
        · rename_i hc
          rw [Bool.or_eq_false_iff] at hc
          split at h2
          · rename_i hcell
            refine s_asgT (p := .Name "" default) pg sw_tup (ss_cell ?_) (AE.e G hN hS h2).1
            obtain ⟨t, ht1, ht2⟩ := List.any_eq_true.mp hcell
            refine List.any_eq_true.mpr ⟨t, ht1, ?_⟩
            unfold cellB at ht2 ⊢
            split at ht2
            · exact decide_eq_true (hS.keep (of_decide_eq_true ht2) (by decide))
            · cases ht2
          split at h2
          · simp only [Bool.and_eq_true, decide_eq_true_eq, Bool.not_eq_true'] at h2
            obtain ⟨⟨⟨⟨⟨⟨⟨k1, k2⟩, k3⟩, k4⟩, k5⟩, kl⟩, k6⟩, k7⟩ := h2
            obtain ⟨pa, pl, _⟩ := AE.es G hN hS k7
            have lx := hS.keep kl.1 (by decide)
            have ly := hS.keep kl.2 (by decide)
            simp only [List.all_cons, List.all_nil, Bool.and_eq_true, Bool.and_true] at pl
            exact s_par G (by rw [hN]; exact k1) (by rw [hN]; exact k2) k3 lx ly pa (ss_two hX.kind lx ly k4 k5 pl.1 pl.2 hc.1 k6)
          · simp only [Bool.and_eq_true, decide_eq_true_eq, Bool.not_eq_true'] at h2
            obtain ⟨⟨⟨⟨⟨⟨⟨⟨k1, k2⟩, k3⟩, k4⟩, k5⟩, k6⟩, kl⟩, k7⟩, k8⟩ := h2
            obtain ⟨pa, pl, _⟩ := AE.es G hN hS k8
            have lx := hS.keep kl.1 (by decide)
            have ly := hS.keep kl.2.1 (by decide)
            have lz := hS.keep kl.2.2 (by decide)
            simp only [List.all_cons, List.all_nil, Bool.and_eq_true, Bool.and_true] at pl
            exact s_par3 G (by rw [hN]; exact k1) (by rw [hN]; exact k2) (by rw [hN]; exact k3) k4.1 k4.2.1 k4.2.2 lx ly lz pa (ss_three hX.kind lx ly lz k5.1 k5.2.1 k5.2.2 k6.1 k6.2 pl.1 pl.2.1 pl.2.2 hc.1 k7)
          · cases h2
      · exact s_asgT (p := .Name "" default) pg sw_tup (ss_notTup (notTup_of (by assumption))) (AE.e G hN hS h2).1
    · cases h
  · split at h
    · rename_i x y tp e pos
      simp only [Bool.and_eq_true] at h
      obtain ⟨h0, h1, h2, h3⟩ := h
      exact s_sub G sw_sub ss_sub (fun v => by cases y <;> first | rfl | cases h0) (AE.e G hN hS h1).1 (AE.e G hN hS h2).1 (AE.e G hN hS h3).1
    · cases h
  · split at h
    · simp only [Bool.and_eq_true, decide_eq_true_eq] at h
      obtain ⟨⟨⟨⟨h0, h1⟩, h2⟩, h3⟩, h4⟩ := h
      rw [h0]
      exact s_augN G.nd (by cases ‹MP.Op› <;> first | exact .inl rfl | exact .inr rfl | cases h1) (by rw [hN]; exact h2) (hS.keep h3 (by decide)) (AE.e G hN hS h4).1
    · cases h
  · split at h
    · simp only [Bool.and_eq_true, decide_eq_true_eq] at h
      exact s_raise G hS h.1 h.2
    · cases h
  · split at h
    · simp only [Bool.and_eq_true, decide_eq_true_eq, List.contains_eq_mem] at h
      obtain ⟨⟨⟨h1, h2⟩, h3⟩, h4⟩ := h
      obtain ⟨pa, pl, _⟩ := AE.es G hN hS h4
      exact s_raiseF G hS h1 h2 h3 pl pa
    · cases h
  · split at h
    · simp only [Bool.and_eq_true, decide_eq_true_eq] at h
      obtain ⟨⟨⟨⟨h1, h2⟩, h3⟩, h4⟩, h5⟩ := h
      have body : ∀ (X' : Cx) (W' : WM), Gd L C X' c.T W' → X'.N = X.N → X'.env = X.env → X'.stack = X.stack → X'.outer = X.outer → X'.fn = X.fn → PassesOwn (model X'.prog X'.w) X'.A X'.env X'.xe → PSs X' _ (tS L W' (MP.evSs C _)) := fun X' W' G' e1 e2 e3 e4 e5 po =>
        A.ss G' (e1.trans hN) ⟨by rw [e2]; exact hS, by rw [e2]; exact hX.kind, by rw [e2, e3, e4]; exact hX.stk, by rw [e2]; exact hX.fr, po, fun x => by rw [e5]; exact hX.fn x⟩ h3
      split at h5
      · simp only [Bool.and_eq_true, decide_eq_true_eq] at h5
        have hi := h5.1
        rw [← hN] at hi
        exact s_try_as G hX.stk hX.fr hS hi (hS.keep h5.2 (by decide)) h1 h2 body fun a oe d pn xv hz hf hx => h_ret (ckX_ok G hS hz hf hx (fun nm z => by cases z; exact ⟨_, hi, fun σ H q => q⟩) n _ _ h4)
      · exact s_try_only G hX.stk hX.fr hS h1 h2 body fun a oe d pn xv hz hf hx => h_ret (ckX_ok G hS hz hf hx (fun nm z => by cases z) n _ _ h4)
      · cases h5
    · cases h
  · cases h
theorem alls_ok (c : Ck) : ∀ n, AllS c n
  | 0 => ⟨fun _ _ _ h => by simp [ckS] at h, fun _ _ _ h => by simp [ckSs] at h⟩
  | n + 1 => ⟨alls_s (alls_ok c n), alls_ss (alls_ok c n)⟩
end MPS
end

section
set_option Elab.async false
set_option linter.all false
set_option maxRecDepth 100000
set_option maxHeartbeats 4000000
namespace MPS
open PySem PySem.Spec PyProof.Rows L2

/-! ### a call's end -/
section
variable {L : Lk} {ρ ρ' : List Addr} {H H' : Hp} {h h1 : MP.Heap}
theorem gcF_ok (S : Sim L ρ h H) (l : Le L ρ H ρ' H') (S1 : Sim L ρ' h1 H') {v : MP.V} {u : V} (r : Rep L ρ' H' v u) {Q : VK} {PQ : MP.Res MP.V → Prop} (hP : ∀ v h', PQ (.ok v h') → ∀ (ρ' : List Addr) (H' : Hp) (u : V), Le L ρ H ρ' H' → Sim L ρ' h' H' → Rep L ρ' H' v u → Q u H') (q : PQ (MP.gcF h v h1)) : Q u H' := by
  have same : PQ (.ok v h1) → Q u H' := fun k => hP _ _ k ρ' H' u l S1 r
  have hlen := S.len
  unfold MP.gcF at q
  split at q
  · rename_i c
    obtain ⟨c1, c2⟩ := Bool.and_eq_true_iff.mp c
    have hr := Rep.cut h.length v u r c1
    rw [← hlen, l.take] at hr
    exact hP _ _ q ρ H' u ⟨fun _ _ e => e, l.tp, l.xd⟩ (S.cut l S1 c2) hr
  · split at q
    · rename_i a _
      split at q
      · rename_i xs eo
        split at q
        · rename_i c
          obtain ⟨c1, c3⟩ := Bool.and_eq_true_iff.mp c
          obtain ⟨c1, c2⟩ := Bool.and_eq_true_iff.mp c1
          have c1 := of_decide_eq_true c1
          obtain ⟨p, ep, rfl⟩ := r
          obtain ⟨us, hus, rus⟩ := S1.obj a p _ ep eo
          have SC := S.cut l S1 c3
          have ll : Le L ρ H (ρ ++ [p]) H' := ⟨fun i x e => by rw [List.getElem?_append_left (List.getElem?_eq_some_iff.mp e).1]; exact e, l.tp, l.xd⟩
          have l2 : Le L ρ H' (ρ ++ [p]) H' := ⟨ll.ad, fun _ _ z => z, fun _ _ z => z⟩
          have rus2 := Reps.cut h.length _ _ rus c2
          rw [← hlen, l.take] at rus2
          have lc := SC.len
          refine hP _ _ q (ρ ++ [p]) H' (.ref p) ll ⟨by simp [lc], fun i b o e1 e2 => ?_, fun i j b o o' e1 e2 e3 e4 m1 m2 => ?_⟩ ⟨p, by rw [← hlen]; simp, rfl⟩
          · by_cases hi : i < ρ.length
            · rw [List.getElem?_append_left hi] at e1
              rw [List.getElem?_append_left (by rw [← lc]; exact hi)] at e2
              exact (SC.obj i b o e1 e2).mono l2 fun _ z => z
            · have hi1 := (List.getElem?_eq_some_iff.mp e1).1
              simp at hi1
              have hi2 : i = ρ.length := by omega
              subst hi2
              rw [List.getElem?_append_right (by omega)] at e1
              rw [List.getElem?_append_right (by rw [← lc]; omega), ← lc] at e2
              simp at e1 e2
              subst e1 e2
              exact ⟨us, hus, Reps.mono l2 _ _ rus2⟩
          · have old : ∀ {k : Nat} {ok : MP.Obj}, k < ρ.length → (ρ ++ [p])[k]? = some b → (List.take h.length h1 ++ [MP.Obj.lst xs])[k]? = some ok → ρ'[k]? = some b ∧ h1[k]? = some ok := by
              intro k ok hk z1 z2
              rw [List.getElem?_append_left hk] at z1
              rw [List.getElem?_append_left (by rw [← lc]; exact hk)] at z2
              refine ⟨l.ad k b z1, ?_⟩
              rw [List.getElem?_take_of_lt (by rw [← hlen]; exact hk)] at z2
              exact z2
            have new : ∀ {k : Nat}, ¬ k < ρ.length → (ρ ++ [p])[k]? = some b → k = ρ.length ∧ b = p := by
              intro k hk z1
              have hk1 := (List.getElem?_eq_some_iff.mp z1).1
              simp at hk1
              have hk2 : k = ρ.length := by omega
              subst hk2
              rw [List.getElem?_append_right (by omega)] at z1
              simp at z1
              exact ⟨rfl, z1.symm⟩
            by_cases hi : i < ρ.length
            · obtain ⟨a1, a2⟩ := old hi e1 e3
              by_cases hj : j < ρ.length
              · obtain ⟨b1, b2⟩ := old hj e2 e4
                exact S1.inj i j b o o' a1 b1 a2 b2 m1 m2
              · obtain ⟨b1, b2⟩ := new hj e2
                subst b2
                have := S1.inj i a b o (.lst xs) a1 ep a2 eo m1 rfl
                omega
            · obtain ⟨a1, a2⟩ := new hi e1
              by_cases hj : j < ρ.length
              · obtain ⟨b1, b2⟩ := old hj e2 e4
                subst a2
                have := S1.inj j a b o' (.lst xs) b1 ep b2 eo m2 rfl
                omega
              · rw [a1, (new hj e2).1]
        · exact same q
      · exact same q
    · exact same q
theorem gcX_ok (S : Sim L ρ h H) (l : Le L ρ H ρ' H') (S1 : Sim L ρ' h1 H') {x : MP.XV} {cls : Value} {d : Option Addr} (r : XRep L H' cls d x) {E : XK} {PQ : MP.Res MP.V → Prop} (hP : ∀ x h', PQ (.exc x h') → ∀ (ρ' : List Addr) (H' : Hp) (cls : Value) (d : Option Addr), Le L ρ H ρ' H' → Sim L ρ' h' H' → XRep L H' cls d x → E cls d H') (q : PQ (MP.gcX h x h1)) : E cls d H' := by
  unfold MP.gcX at q
  split at q
  · rename_i c
    obtain ⟨c1, c2⟩ := Bool.and_eq_true_iff.mp c
    exact hP _ _ q ρ H' cls d ⟨fun _ _ e => e, l.tp, l.xd⟩ (S.cut l S1 c2) r
  · exact hP _ _ q ρ' H' cls d l S1 r
end

/-! ### the text's functions -/
structure TabF (L : Lk) (T : Tx) (Pm : MP.Prog) (f : Nat) (F : MP.FnD) (fd : FuncData) (ps : List Str) : Prop where
  mf : Pm.fns f = some F
  ex : ∃ (N : List Str) (x qual : Str) (params : Arguments) (body : List Stmt) (scope : Scope) (dvs : List V) (kws : List (Str × V)) (n : Nat), FunD L.K x qual params body scope dvs kws (L.fa f) fd ∧ FnScope N ps scope ∧ F.nparams = ps.length ∧ F.slots = N.length ∧ ps.length ≤ N.length ∧
    ckSs ⟨T, N⟩ n scope F.body body = true
  bn : ∀ n kn names, (f, n, kn, names) ∈ T.pats → Bnd L fd ps F n kn names
structure Top (L : Lk) (Pm : MP.Prog) (T : Tx) (mg : Str → Option Value) : Prop where
  fns : ∀ x f, T.fns.lookup x = some f → mg x = some (.ref (L.fa f)) ∧ ∃ F fd ps, TabF L T Pm f F fd ps
  glb : ∀ x g v, T.glb.lookup x = some g → Pm.glb g = some v → ∃ u u', mg x = some u' ∧ RelV u u' ∧ ∀ ρ H, Rep L ρ H v u
  free : ∀ x ∈ T.free, mg x = none
  clss : ∀ x c, T.clss.lookup x = some c → mg x = some (.ref (L.ca c)) ∧ c ∈ L.exs
  exc : ∀ c ∈ L.exs, ∀ (X : Cx) (C : MP.Ctx), X.K = L.K → C.P = Pm → ExcF L C X c
  ats : ∀ x f, T.ats.lookup x = some f → L.an f = x
  xcl : ∀ c ∈ T.xcl, ∃ K f1 f2, Pm.cls c = some K ∧ K.xfs = [f1, f2]
theorem start_rep {L : Lk} {ρ : List Addr} {H : Hp} {F : MP.FnD} {as : List MP.V} {vs : List V} {N : List Str} (r : Reps L ρ H as vs) (hs : F.slots = N.length) : EnvR L ρ H (MP.startE F as) (L2.start N vs) := by
  have hl := Reps.length _ _ r
  unfold MP.startE L2.start
  refine ⟨by simp [hl, hs], fun i v e => ?_⟩
  by_cases hi : i < as.length
  · rw [List.getElem?_append_left (by simpa using hi), List.getElem?_map] at e
    cases ea : as[i]? with
    | none => rw [ea] at e; cases e
    | some a =>
      rw [ea] at e
      cases e
      obtain ⟨u, hu, ru⟩ := Reps.get _ _ _ _ r ea
      exact ⟨u, by rw [List.getElem?_append_left (by simpa [hl] using hi), List.getElem?_map, hu]; rfl, ru⟩
  · rw [List.getElem?_append_right (by simpa using hi), List.getElem?_replicate] at e
    split at e <;> cases e
theorem fns_ok {L : Lk} {Pm : MP.Prog} {T : Tx} {mg : Str → Option Value} (TT : Top L Pm T mg) (P : Program) (w : World) (base : Heap) : ∀ (d f : Nat) (F : MP.FnD) (fd : FuncData) (ps : List Str), TabF L T Pm f F fd ps → FnOk P w L.K mg base (L2.CX P w) (d + 3) (L.fa f) fd ps (spM L (MP.callD Pm d f))
  | 0, f, F, fd, ps, TF => ⟨fun vs H Q E ⟨_, _, _, _, _, z⟩ => z.elim, fun A outer s H args us vs Q E hr e0 hb r ⟨_, _, _, _, _, z⟩ => z.elim⟩
  | d + 1, f, F, fd, ps, TF => by
    obtain ⟨N, x, qual, params, body, scope, dvs, kws, n, FD, S, hnp, hsl, hpl, hck⟩ := TF.ex
    refine FD.ok S (fun vs H Q E ⟨ρ, h, as, S0, rs, z⟩ => ?_) fun cdv A outer s H vs Q E hr ⟨ρ, h, as, S0, rs, z⟩ => ?_
    · simp only [MP.callD, TF.mf] at z
      by_cases hc : as.length = F.nparams
      · rw [Reps.length _ _ rs, hc, hnp]
      · rw [if_neg hc] at z; exact z.elim
    · simp only [MP.callD, TF.mf] at z
      by_cases hc : as.length = F.nparams
      · rw [if_pos hc] at z
        let X : Cx := cxOf (L2.CX P w) P w L.K mg base N qual scope (L.fa f) cdv A outer s H E
        let C : MP.Ctx := ⟨Pm, MP.callD Pm d, none⟩
        let W : WM := fun x env h1 ρ1 H1 => ∀ cls dd, Sim L ρ1 h1 H1 → XRep L H1 cls dd x → E cls dd H1
        have tk0 : Takes X (fun cls d _ H => E cls d H) := takes_of (X := X) rfl rfl rfl rfl
        have tk : Takes X (Wt L W) := tk0.imp fun cls d σ H ⟨ρ1, h1, env1, x, S1, xr, p⟩ => p cls d S1.sim xr
        have G : Gd L C X T W := by
          refine ⟨rfl, rfl, S.nd, by have := hr.un; show (A.deeper (envOfC qual scope s.heap.objs.size (L.fa f) cdv)).units + 150 < cLine; omega, ⟨hr.hd, by have := hr.dp; show (A.deeper (envOfC qual scope s.heap.objs.size (L.fa f) cdv)).depth + 3 * 2 + 5 < recursionLimit; omega, by have := hr.un; show (A.deeper (envOfC qual scope s.heap.objs.size (L.fa f) cdv)).units + 16 * 2 + 200 < cLine; omega⟩, tk, fun y g e => ?_, TT.glb, TT.free, TT.clss, fun c hc => TT.exc c hc X C rfl rfl, TT.ats, TT.xcl⟩
          obtain ⟨m1, F', fd', ps', TF'⟩ := TT.fns y g e
          obtain ⟨N', x', qual', params', body', scope', dvs', kws', n', FD', _⟩ := TF'.ex
          refine ⟨m1, FD'.kp, fun F2 e2 => ?_⟩
          have : F2 = F' := by
            have := TF'.mf
            rw [e2] at this
            exact Option.some.inj this
          subst this
          exact ⟨fd', ps', d + 3, fns_ok TT P w base d g F2 fd' ps' TF', hr, TF'.bn⟩
        have SX : StX X scope := ⟨SR.refl, S.kind, rfl, rfl, passes_of (X := X) rfl, fun _ => rfl⟩
        refine ⟨tS L W (MP.evSs C F.body), (alls_ok ⟨T, N⟩ n).ss G rfl SX hck, ρ, h, MP.startE F as, ⟨S0, start_rep rs hsl⟩, ?_⟩
        let PQ : MP.Res MP.V → Prop := fun r => match r with
          | .ok v h' => ∀ (ρ' : List Addr) (H' : Hp) (u : V), Le L ρ H ρ' H' → Sim L ρ' h' H' → Rep L ρ' H' v u → Q u H'
          | .exc x h' => ∀ (ρ' : List Addr) (H' : Hp) (cls : Value) (d : Option Addr), Le L ρ H ρ' H' → Sim L ρ' h' H' → XRep L H' cls d x → E cls d H'
          | .stuck => False
        have z : PQ (MP.finish h (MP.evSs C F.body (MP.startE F as) h)) := z
        cases er : MP.evSs C F.body (MP.startE F as) h with
        | nx env1 h1 => rw [er] at z; exact fun ρ' H' σ' l s => gcF_ok (PQ := PQ) S0 l s.sim (v := .non) (u := .non) rfl (fun _ _ k => k) z
        | ret v h1 => rw [er] at z; exact fun ρ' H' u l s r => gcF_ok (PQ := PQ) S0 l s r (fun _ _ k => k) z
        | exc x env1 h1 => rw [er] at z; exact fun ρ' H' l cls dd s r => gcX_ok (PQ := PQ) S0 l s r (fun _ _ k => k) z
        | brk env1 h1 => rw [er] at z; exact z.elim
        | ct env1 h1 => rw [er] at z; exact z.elim
        | stuck => rw [er] at z; exact z.elim
      · rw [if_neg hc] at z; exact z.elim
end MPS
end

section
set_option Elab.async false
set_option linter.all false
set_option maxRecDepth 100000
set_option maxHeartbeats 4000000
namespace MPS
open PySem PySem.Spec PyProof.Rows L2

/-! ### what a head says: the library's facts and more of one's own -/
def obsM (fa : List He.Fa) (fn : List He.DefD) (fx : PySem.W.Frag → Bool) (K : PySem.W.Frag) : He.AlD := ((He.obsD fa fn K).1 && fx K, (He.obsD fa fn K).2)
def SaysM (fa : List He.Fa) (fn : List He.DefD) (fx : PySem.W.Frag → Bool) (K : PySem.W.Frag) : Prop := obsM fa fn fx K = He.valD fn
def obsMG (n : Nat) (fa : List He.Fa) (fn : List He.DefD) (fx : PySem.W.Frag → Bool) (g : Addr → Option Obj) : He.AlD := obsM fa fn fx (He.frG g (He.asD g n))
def hookM (n : Nat) (fa : List He.Fa) (fn : List He.DefD) (fx : PySem.W.Frag → Bool) : PySem.W.Hook where
  α := He.AlD
  obs := fun t => obsMG n fa fn fx t.heap.get?
  val := fun _ => He.valD fn
  says := fun _ hp => ∃ K : PySem.W.Frag, K.In hp ∧ SaysM fa fn fx K
  of := fun _ _ z => ⟨_, He.frG_in, z⟩
  keeps := fun _ _ _ ⟨K, k1, k2⟩ z => ⟨K, PySem.W.Frag.In.keeps k1 z, k2⟩
theorem obsMG_eq {n : Nat} {fa : List He.Fa} {fn : List He.DefD} {fx : PySem.W.Frag → Bool} {g : Addr → Option Obj} {t : Shared} (h : ∀ a, g a = t.heap.get? a) : obsMG n fa fn fx g = (hookM n fa fn fx).obs t := by
  have e1 : g = t.heap.get? := funext h
  subst e1
  rfl
section
variable {fa : List He.Fa} {fn : List He.DefD} {fx : PySem.W.Frag → Bool} {K : PySem.W.Frag}
theorem SaysM.both (c : SaysM fa fn fx K) : He.SaysD fa fn K ∧ fx K = true := by
  have e1 : ((He.obsD fa fn K).1 && fx K) = true := congrArg (fun z : He.AlD => z.1) c
  have e2 : (He.obsD fa fn K).2 = fn.map He.DefD.val := congrArg (fun z : He.AlD => z.2) c
  obtain ⟨z1, z2⟩ := He.ba e1
  exact ⟨Prod.ext z1 e2, z2⟩
end
/-! ### exception classes -/
def excCB (K : PySem.W.Frag) (C : Addr) : Bool :=
  He.eqO (PySem.W.findIn K (.ref C) "__getattribute__") (some (some (.builtin "BaseException.__getattribute__"))) && (He.eqO (PySem.W.findIn K (.ref C) "__getattr__") (some none) && (decide (PySem.W.subIn K (.ref C) (.type "BaseException") = some true) && (PySem.W.hasDictIn K C &&
  (He.eqO (PySem.W.findIn K (.ref C) "__class__") (some (some (.builtin "object.__class__"))) && (He.eqO (PySem.W.specialIn K (.builtin "object.__class__") "__get__") (some (some (.builtin "getset_descriptor.__get__"))) &&
  (decide (PySem.W.takesIn K (.builtin "object.__class__") = some true) && decide (PySem.W.mroIn K C (.type "object") = some true)))))))
theorem excCB_ok {K : PySem.W.Frag} {C : Addr} (h : excCB K C = true) : ExcC K C := by
  obtain ⟨h1, h⟩ := He.ba h
  obtain ⟨h2, h⟩ := He.ba h
  obtain ⟨h3, h⟩ := He.ba h
  obtain ⟨h4, h⟩ := He.ba h
  obtain ⟨h5, h⟩ := He.ba h
  obtain ⟨h6, h⟩ := He.ba h
  obtain ⟨h7, h8⟩ := He.ba h
  exact ⟨He.eqO_ok h1, He.eqO_ok h2, of_decide_eq_true h3, h4, He.eqO_ok h5, He.eqO_ok h6, of_decide_eq_true h7, of_decide_eq_true h8⟩
/-- an exception class with an __init__ of its own, as an object -/
def oexB (K : PySem.W.Frag) (C : Addr) : Bool := match K.lookup C with
  | some ⟨.type t, _, .cls cd, sl⟩ => decide (t = "type") && (cd.hasDict && !cd.hasDel) && (match cd.mro with
    | .ref C' :: bm => decide (C' = C) && HandSPX.refsVE bm
    | _ => false) && (match sl.toList with
    | [_, _, _, _, some (.builtin n), _] => decide (n = "ValueError.__new__")
    | _ => false)
  | _ => false
theorem oexB_ok {K : PySem.W.Frag} {C : Addr} (h : oexB K C = true) : ∃ nm q N bs bm sn sub ab col dd k0 k1 k2 k3 k5, K.lookup C = some (excClassObj nm q C N bs bm true sn sub ab col dd k0 k1 k2 k3 k5 "ValueError.__new__") ∧ HandSPX.refsVE bm = true := by
  unfold oexB at h
  split at h
  · rename_i t dd cd sl e
    simp only [Bool.and_eq_true, decide_eq_true_eq, Bool.not_eq_true'] at h
    obtain ⟨⟨⟨rfl, h1, h1'⟩, h2⟩, h3⟩ := h
    obtain ⟨nm, bs, mro, ns, qn, hdct, sn, sub, ab, col, hdl⟩ := cd
    dsimp only at h1 h1' h2 h3
    subst h1 h1'
    split at h2
    · simp only [Bool.and_eq_true, decide_eq_true_eq] at h2
      obtain ⟨rfl, h2⟩ := h2
      split at h3
      · rename_i k0 k1 k2 k3 n k5 e2
        have h3 := of_decide_eq_true h3
        subst h3
        obtain ⟨sl⟩ := sl
        simp only at e2
        subst e2
        exact ⟨_, _, _, _, _, _, _, _, _, _, _, _, _, _, _, e, h2⟩
      · cases h3
    · cases h2
  · cases h
/-- the body of such an __init__: self.x = x, self.y = y -/
def initB (f1 f2 : Str) (N : List Str) : List Stmt → Bool
  | [.Assign [.Attribute (.Name s1 _) g1 _] (.Name a _) _, .Assign [.Attribute (.Name s2 _) g2 _] (.Name b _) _] => decide (g1 = f1) && decide (g2 = f2) && decide (N = [s1, a, b]) && decide (s1 = s2) && !dbg s1 && !dbg a && !dbg b
  | _ => false
theorem init_ok {K : PySem.W.Frag} {C : Addr} {x qual : Str} {params : Arguments} {body : List Stmt} {scope : Scope} {dvs : List V} {kws : List (Str × V)} {fI : Addr} {fd : FuncData} {N : List Str} {f1 f2 : Str} (ox : OexC K C) (n1 : PySem.W.findIn K (.ref C) f1 = some none) (n2 : PySem.W.findIn K (.ref C) f2 = some none)
    (FD : FunD K x qual params body scope dvs kws fI fd) (S : FnScope N N scope) (hb : initB f1 f2 N body = true) (P : Program) (w : World) (mg : Str → Option Value) (base : Heap) : FnOk P w K mg base (L2.CX P w) 1 fI fd N (spI C f1 f2) := by
  unfold initB at hb
  split at hb
  · rename_i s1 p1 g1 q1 a p2 r1 s2 p3 g2 q2 b p4 r2
    simp only [Bool.and_eq_true, decide_eq_true_eq, Bool.not_eq_true'] at hb
    obtain ⟨⟨⟨⟨⟨⟨rfl, rfl⟩, rfl⟩, rfl⟩, e1⟩, e2⟩, e3⟩ := hb
    obtain ⟨d1, d1', _⟩ := dbg_no e1
    obtain ⟨d2, d2', _⟩ := dbg_no e2
    obtain ⟨d3, d3', _⟩ := dbg_no e3
    have vis : ∀ y ∈ [s1, a, b], Vis scope y := fun y hy => (S.par y hy).elim .inl fun z => .inr (.inl z)
    refine FD.ok (k := 0) S (fun vs H Q E ⟨_, _, _, e, _⟩ => by subst e; rfl) fun cdv A outer s H vs Q E hr ⟨ad, y1, y2, ev, ea, k⟩ => ?_
    subst ev
    let X : Cx := cxOf (L2.CX P w) P w K mg base [s1, a, b] qual scope fI cdv A outer s H E
    have v0 : ∀ pos, PE X (.Name s1 pos) (tVar 0) := fun pos => pe_var (X := X) rfl (vis s1 (by simp)) d1 d1'
    have v1 : ∀ pos, PE X (.Name a pos) (tVar 1) := fun pos => pe_var (X := X) rfl (vis a (by simp)) d2 d2'
    have v2 : ∀ pos, PE X (.Name b pos) (tVar 2) := fun pos => pe_var (X := X) rfl (vis b (by simp)) d3 d3'
    refine ⟨_, pss_cons (ps_ost (v0 _) (v1 _)) (pss_cons (ps_ost (v0 _) (v2 _)) pss_nil), ?_⟩
    refine ⟨y1, rfl, .ref ad, rfl, ad, C, rfl, ox, n1, .inl ⟨ea, fun dx hdx hne => ?_⟩⟩
    refine ⟨y2, rfl, .ref ad, rfl, ad, C, rfl, ox, n2, .inr ⟨dx, [(g1, y1)], upd_same, ?_, by simp, ?_⟩⟩
    · rw [upd_ne hne, upd_same]
    · exact k dx hdx hne
  · cases hb
/-- cs: the classes' numbers, nm their names, sup what stands above; fi: the fields of those that have two -/
def exB (cs : List Nat) (nm : Nat → Str) (sup : Nat → List Nat) (fi : Nat → Option (Str × Str)) (K : PySem.W.Frag) : Bool := cs.all fun c => (match fi c with
    | none => (He.Fa.exc (nm c)).ok K
    | some (f1, f2) => oexB K (He.ga K (nm c)) && (PySem.W.keepIn K (.ref (He.ga K (nm c))) && (decide (PySem.W.subIn K (.ref (He.ga K (nm c))) (.type "BaseException") = some true) && (decide (PySem.W.typeIn K (.ref (He.ga K (nm c))) = some (.type "type")) &&
      (He.eqO (PySem.W.findIn K (.ref (He.ga K (nm c))) "__setattr__") (some (some (.builtin "object.__setattr__"))) && (He.eqO (PySem.W.findIn K (.ref (He.ga K (nm c))) "__init__") (some (some (.ref (He.ma K (He.ga K (nm c)) "__init__")))) &&
      (decide (PySem.W.typeIn K (.ref (He.ma K (He.ga K (nm c)) "__init__")) = some (.type "function")) && (He.eqO (PySem.W.findIn K (.ref (He.ga K (nm c))) f1) (some none) && He.eqO (PySem.W.findIn K (.ref (He.ga K (nm c))) f2) (some none))))))))) && (excCB K (He.ga K (nm c)) && cs.all fun d =>
  decide (PySem.W.exmOne K (.ref (He.ga K (nm c))) (.ref (He.ga K (nm d))) = some ((sup c).contains d)) && decide (PySem.W.kitOne K (.ref (He.ga K (nm c))) (.ref (He.ga K (nm d))) = some ((sup c).contains d)))
/-- what a head tells of the __init__ of a class with two fields -/
structure InitF (L : Lk) (c : Nat) (f1 f2 : Str) : Prop where
  ex : ∃ (N : List Str) (x qual : Str) (params : Arguments) (body : List Stmt) (scope : Scope) (kws : List (Str × V)) (fd : FuncData), FunD L.K x qual params body scope [] kws (He.ma L.K (L.ca c) "__init__") fd ∧ FnScope N N scope ∧ initB f1 f2 N body = true ∧
    ∀ (kV doc pm : Value) (an : Option Addr) (cdv ct : Value) (us : List Value), us.length = N.length → bindArgs (PySem.W.fnOf x qual params body scope .none kV doc pm an cdv ct) ⟨us, []⟩ = pure (N.zip us)
theorem exF_of {L : Lk} {C : MP.Ctx} {X : Cx} {nm : Nat → Str} {sup : Nat → List Nat} {fi : Nat → Option (Str × Str)} (hK : X.K = L.K) (hca : ∀ c, L.ca c = He.ga L.K (nm c)) (h : exB L.exs nm sup fi L.K = true) {c : Nat} (hc : c ∈ L.exs)
    (hk : ∃ K, C.P.cls c = some K ∧ K.sup = sup c ∧ ((fi c = none ∧ K.xfs = []) ∨ ∃ f1 f2, K.xfs = [f1, f2] ∧ fi c = some (L.an f1, L.an f2) ∧ L.an f1 ≠ L.an f2 ∧ f1 ≠ f2 ∧ InitF L c (L.an f1) (L.an f2))) : ExcF L C X c := by
  have h1 := List.all_eq_true.mp h c hc
  obtain ⟨h2, h3⟩ := He.ba h1
  obtain ⟨h4, h5⟩ := He.ba h3
  obtain ⟨K, k1, k3, k2⟩ := hk
  have hs : ∀ d ∈ L.exs, PySem.W.exmOne X.K (.ref (L.ca c)) (.ref (L.ca d)) = some (K.sup.contains d) ∧ PySem.W.kitOne X.K (.ref (L.ca c)) (.ref (L.ca d)) = some (K.sup.contains d) := by
    intro d hd
    obtain ⟨z1, z2⟩ := He.ba (List.all_eq_true.mp h5 d hd)
    rw [hK, hca, hca, k3]
    exact ⟨of_decide_eq_true z1, of_decide_eq_true z2⟩
  rcases k2 with ⟨k2, k4⟩ | ⟨f1, f2, k2, k4, k5, k7, k6⟩
  · rw [k2] at h2
    obtain ⟨e1, e2, e3, e4⟩ := He.exc_ok h2
    rw [← hca] at e1 e2 e3 e4 h4
    rw [← hK] at e1 e2 e3 e4 h4
    exact ⟨e2, raises_own e3 e4, excCB_ok h4, ⟨K, k1, .inl ⟨k4, _, _, _, _, PySem.F.excBase_ValueError, e1⟩⟩, K, k1, hs⟩
  · rw [k4] at h2
    dsimp only at h2
    obtain ⟨e0, h2⟩ := He.ba h2
    obtain ⟨e2, h2⟩ := He.ba h2
    obtain ⟨e3, h2⟩ := He.ba h2
    obtain ⟨e4, h2⟩ := He.ba h2
    obtain ⟨e5, h2⟩ := He.ba h2
    obtain ⟨e6, h2⟩ := He.ba h2
    obtain ⟨e7, h2⟩ := He.ba h2
    obtain ⟨e8, e9⟩ := He.ba h2
    have e3 := of_decide_eq_true e3
    have e4 := of_decide_eq_true e4
    have e5 := He.eqO_ok e5
    have e6 := He.eqO_ok e6
    have e7 := of_decide_eq_true e7
    have e8 := He.eqO_ok e8
    have e9 := He.eqO_ok e9
    rw [← hca] at e0 e2 e3 e4 e5 e6 e7 e8 e9 h4
    obtain ⟨N, x, qual, params, body, scope, kws, fd, FD, S, hb, hba⟩ := k6.ex
    rw [← hK] at e0 e2 e3 e4 e5 e6 e7 e8 e9 h4 FD
    have ox : OexC X.K (L.ca c) := ⟨oexB_ok e0, e5, e3, e4, e2⟩
    refine ⟨e2, raises_own e3 e4, excCB_ok h4, ⟨K, k1, .inr ⟨f1, f2, k2, ox, ⟨_, fd, N, e6, e7, fun s us hK' hl => ?_, init_ok ox e8 e9 FD S hb _ _ _ _⟩, e8, e9, k5, k7⟩⟩, K, k1, hs⟩
    have b := FunD.bindsA (ps := N) FD hba
    have hl' : us.length = N.length := by simpa using hl
    rw [List.append_nil]
    exact b s us hl'
/-! ### the law's call -/
theorem ints_reps {L : Lk} {ρ : List Addr} {H : Hp} : ∀ ns : List Int, Reps L ρ H (ns.map MP.V.int) (ns.map V.int)
  | [] => rfl
  | n :: ns => ⟨_, _, rfl, rfl, ints_reps ns⟩
theorem law_sp {L : Lk} {call : List MP.V → MP.Heap → MP.Res MP.V} {H : Hp} {a : Addr} {ns : List Int} (hO : Only H) (hS : SqL L.K H a (ns.map V.int)) (hm : ∃ h', call [.ref 0] [.ro (ns.map MP.V.int)] = .ok (.bl true) h') : spM L call [.ref a] H (fun v _ => v = .bl true) fun _ _ _ => False := by
  have ro : RoL L.K H a (ns.map V.int) := by
    rcases hS with (e | e) | e
    · rcases hO a with z | ⟨o, xs, z⟩
      · rw [z] at e; cases e
      · rw [z] at e; cases e
    · exact .inl e
    · exact .inr e
  obtain ⟨h', e⟩ := hm
  refine ⟨[a], [.ro (ns.map MP.V.int)], [.ref 0], ⟨rfl, fun i b o e1 e2 => ?_, fun i j b o o' e1 e2 e3 e4 m1 m2 => ?_⟩, ⟨_, _, rfl, ⟨a, rfl, rfl⟩, rfl⟩, ?_⟩
  · match i, e1, e2 with
    | 0, e1, e2 => cases e1; cases e2; exact ⟨_, ro, ints_reps ns⟩
    | i + 1, e1, e2 => simp at e1
  · match i, e3 with
    | 0, e3 => cases e3; cases m1
    | i + 1, e3 => simp at e3
  · rw [e]
    exact fun ρ' H' u l s r => r
theorem CX_no {P : Program} {w : World} {H : Hp} {s : Shared} {e : Value} {s' : Shared} (h : L2.CX P w [] H s (fun _ _ _ => False) e s') : False := by
  obtain ⟨_, _, _, _, _, _, _, _, _, _, _, _, z⟩ := h
  exact z
/-- the library's walk_ofE, what a call lets out by the world -/
theorem walk_M {l : PySem.W.OpenLaw} {n k : Nat} {q : Program} {loose : List Str} {XP : (Str → Option Value) → Heap → Prop} {YP : World → Heap → Prop} {d : DefRec} {x : Str} (h1 : l.most = some n) (h2 : n ≤ sizeLine) (h3 : d.params.defaults = []) (h4 : Room k callerA)
    (F : ∀ (w : World) (mg : Str → Option Value) (fa : Addr) (h : Heap), YP w h → h.Ns mainGlobals mg → mg d.name = some (.ref fa) →
      ∃ (K : PySem.W.Frag) (fd : FuncData) (sp : Sp), K.In h ∧ (∀ (s : Shared) (u : Value), BindsTo s fd ⟨[u], []⟩ [(x, u)]) ∧ (∀ (H : Hp) (a : Addr) (ns : List Int), ns.length ≤ n → Only H → SqL K H a (ns.map V.int) → sp [.ref a] H (fun v _ => v = .bl true) fun _ _ _ => False) ∧
        ∀ base : Heap, K.In base → base.Ns mainGlobals mg → FnOk l.prog w K mg base (L2.CX l.prog w) k fa fd [x] sp) : PySem.W.WalkO q loose XP YP l.row.toRowW d [] (fun f vs => PySem.call f vs) := by
  refine Att.attach_call h1 h3 fun w t0 t1 mg mb fa o pm cd doc a vs ns G Y z1 z2 z3 z4 z5 z6 z7 z8 => ?_
  obtain ⟨K, fd, sp, KX, hb, hsp, hF⟩ := F w mg fa _ Y G.T.g z4
  exact law_call KX G.T.g G.T.b G.T.builtins G.T.nolimit z8 z5 z6 (Nat.le_trans z7 h2) h4 hF hb (fun H hO hS => hsp H a ns z7 hO hS) fun H e s' z => CX_no z
end MPS
end

section
set_option Elab.async false
set_option linter.all false
set_option maxRecDepth 100000
set_option maxHeartbeats 4000000
namespace MPS
open PySem PySem.Spec PyProof.Rows L2

/-- of every pair of a list -/
def AllP {α β : Type} (P : α → β → Prop) : List (α × β) → Prop
  | [] => True
  | p :: l => P p.1 p.2 ∧ AllP P l
theorem AllP.mem {α β : Type} {P : α → β → Prop} : ∀ {l : List (α × β)}, AllP P l → ∀ {x : α} {y : β}, (x, y) ∈ l → P x y
  | [], _, _, _, h => by cases h
  | p :: l, ⟨a, b⟩, x, y, h => by
    rcases List.mem_cons.mp h with e | h
    · subst e; exact a
    · exact b.mem h
theorem AllP.look {β : Type} {P : Str → β → Prop} {l : List (Str × β)} (a : AllP P l) (x : Str) (y : β) (e : l.lookup x = some y) : P x y := a.mem (PySem.mem_of_lookup e)
theorem Reps.split {L : Lk} {ρ : List Addr} {H : Hp} {ms : List MP.V} {vs : List V} (r : Reps L ρ H ms vs) {ks : List MP.V} {zs : List V} (r2 : Reps L ρ H ks zs) : Reps L ρ H (ms ++ ks) (vs ++ zs) := Reps.app _ _ _ _ r r2
/-- a call: n positional values, the keywords in the parameters' order; nothing is filled in -/
theorem bnd_of {L : Lk} {F : MP.FnD} {x qual : Str} {params : Arguments} {body : List Stmt} {scope : Scope} {kws : List (Str × V)} {f : Addr} {fd : FuncData} {ps : List Str} (FD : FunD L.K x qual params body scope [] kws f fd) {n : Nat} {kn : List Nat} {names : List Str}
    (h1 : ∀ (kV doc pm : Value) (an : Option Addr) (cdv ct : Value) (us ws : List Value), us.length = n → ws.length = names.length → bindArgs (PySem.W.fnOf x qual params body scope .none kV doc pm an cdv ct) ⟨us, names.zip ws⟩ = pure (ps.zip (us ++ ws)))
    (h2 : ∀ ms ks as : List MP.V, ms.length = n → ks.length = kn.length → MP.bindF F ms (kn.zip ks) = some as → as = ms ++ ks) : Bnd L fd ps F n kn names := by
  obtain ⟨oc, od, dV, kV, doc, pm, an, cdv, ct, osl, rfl, lk, hcd, hD, hK⟩ := FD.ex
  rcases hD with ⟨_, rfl⟩ | ⟨e, _⟩
  · refine ⟨fun us ws => us ++ ws, fun s us ws X l1 l2 => BindsTo.of_eq (h1 kV doc pm an cdv ct us ws l1 l2), fun ρ H ms ks as vs zs us ws r1 r2 v1 v2 l1 l2 e => ⟨vs ++ zs, ?_, v1.append v2⟩⟩
    rw [h2 ms ks as l1 l2 e]
    exact Reps.app _ _ _ _ r1 r2
  · exact absurd rfl e
/-- n positional values, the defaults behind the first j fill up -/
theorem bnd_dfl {L : Lk} {F : MP.FnD} {x qual : Str} {params : Arguments} {body : List Stmt} {scope : Scope} {dvs : List V} {kws : List (Str × V)} {f : Addr} {fd : FuncData} {ps : List Str} (FD : FunD L.K x qual params body scope dvs kws f fd) (hd : dvs ≠ []) {n : Nat} (j : Nat)
    (h1 : ∀ (T : Addr) (kV doc pm : Value) (an : Option Addr) (cdv ct : Value) (us its : List Value), us.length = n → its.length = dvs.length →
      ∃ k, bindArgs (PySem.W.fnOf x qual params body scope (.ref T) kV doc pm an cdv ct) ⟨us, []⟩ = seqItems? (.ref T) >>= k ∧ k (some its.toArray) = pure (ps.zip (us ++ its.drop j)))
    (h2 : ∀ ms as : List MP.V, ms.length = n → MP.bindF F ms [] = some as → as = ms ++ F.dfl.drop j) (h3 : ∀ ρ H, Reps L ρ H F.dfl dvs) : Bnd L fd ps F n [] [] := by
  obtain ⟨oc, od, dV, kV, doc, pm, an, cdv, ct, osl, rfl, lk, hcd, hD, hK⟩ := FD.ex
  rcases hD with ⟨e, _⟩ | ⟨_, T, o, its, m, rfl, lT, oT, rT⟩
  · exact absurd e hd
  · refine ⟨fun us ws => us ++ its.drop j, fun s us ws X l1 l2 => ?_, fun ρ H ms ks as vs zs us ws r1 r2 v1 v2 l1 l2 e => ⟨vs ++ dvs.drop j, ?_, v1.append (rT.drop j)⟩⟩
    · obtain ⟨k, e1, e2⟩ := h1 T kV doc pm an cdv ct us its l1 rT.length.symm
      refine BindsTo.of_looks fun M => ?_
      show PySem.W.Looks M s.heap (bindArgs (PySem.W.fnOf x qual params body scope (.ref T) kV doc pm an cdv ct) ⟨us, []⟩) _
      rw [e1]
      exact looks_items X lT oT (.of_pure e2)
    · rw [h2 ms as l1 e]
      exact Reps.app _ _ _ _ r1 (Reps.dr _ _ _ (h3 ρ H))
/-- the keyword-only ones in order: true where it lacks -/
def pickL {α : Type} : List Bool → List α → List α → List α
  | [], _, _ => []
  | true :: s, m :: mv, ws => m :: pickL s mv ws
  | false :: s, mv, w :: ws => w :: pickL s mv ws
  | _, _, _ => []
theorem pickL_vals : ∀ (s : List Bool) {vs zs : List V} {us ws : List Value}, Vals vs us → Vals zs ws → Vals (pickL s vs zs) (pickL s us ws)
  | [], _, _, _, _, _, _ => .nil
  | true :: s, vs, zs, us, ws, a, b => by
    cases a with
    | nil => exact .nil
    | cons r a => exact .cons r (pickL_vals s a b)
  | false :: s, vs, zs, us, ws, a, b => by
    cases b with
    | nil => exact .nil
    | cons r b => exact .cons r (pickL_vals s a b)
theorem pickL_reps {L : Lk} {ρ : List Addr} {H : Hp} : ∀ (s : List Bool) {ms ks : List MP.V} {vs zs : List V}, Reps L ρ H ms vs → Reps L ρ H ks zs → Reps L ρ H (pickL s ms ks) (pickL s vs zs)
  | [], _, _, _, _, _, _ => rfl
  | true :: s, ms, ks, vs, zs, a, b => by
    cases ms with
    | nil => cases a; exact rfl
    | cons m ms =>
      obtain ⟨u, r, rfl, h1, h2⟩ := a
      exact ⟨u, _, rfl, h1, pickL_reps s h2 b⟩
  | false :: s, ms, ks, vs, zs, a, b => by
    cases ks with
    | nil => cases b; exact rfl
    | cons m ks =>
      obtain ⟨u, r, rfl, h1, h2⟩ := b
      exact ⟨u, _, rfl, h1, pickL_reps s a h2⟩
/-- a call that leaves out keyword-only ones -/
theorem bnd_kwd {L : Lk} {F : MP.FnD} {x qual : Str} {params : Arguments} {body : List Stmt} {scope : Scope} {kws : List (Str × V)} {f : Addr} {fd : FuncData} {ps : List Str} (FD : FunD L.K x qual params body scope [] kws f fd) (hk : kws ≠ []) {n : Nat} {kn : List Nat} {names : List Str}
    (sp : List Bool) (mz : List (Str × V)) (dm : List MP.V) (hms : ∀ q ∈ mz, q ∈ kws)
    (h1 : ∀ (D : Addr) (doc pm : Value) (an : Option Addr) (cdv ct : Value) (us mv ws : List Value), us.length = n → mv.length = mz.length → ws.length = names.length →
      KwChain D ((mz.map (·.1)).zip mv) (bindArgs (PySem.W.fnOf x qual params body scope .none (.ref D) doc pm an cdv ct) ⟨us, names.zip ws⟩) (ps.zip (us ++ pickL sp mv ws)))
    (h2 : ∀ ms ks as : List MP.V, ms.length = n → ks.length = kn.length → MP.bindF F ms (kn.zip ks) = some as → as = ms ++ pickL sp dm ks) (h3 : ∀ ρ H, Reps L ρ H dm (mz.map (·.2))) : Bnd L fd ps F n kn names := by
  obtain ⟨oc, od, dV, kV, doc, pm, an, cdv, ct, osl, rfl, lk, hcd, hD, hK⟩ := FD.ex
  rcases hD with ⟨_, rfl⟩ | ⟨e, _⟩
  · rcases hK with e | ⟨D, rfl, hq⟩
    · exact absurd e hk
    · obtain ⟨mv, hl, rk, hks⟩ := kwd_vals (ms := mz) fun q hm => hq q (hms q hm)
      refine ⟨fun us ws => us ++ pickL sp mv ws, fun s us ws X l1 l2 => BindsTo.of_looks fun M => KwChain.looks X hks (h1 D doc pm an cdv ct us mv ws l1 hl l2), fun ρ H ms ks as vs zs us ws r1 r2 v1 v2 l1 l2 e => ⟨vs ++ pickL sp (mz.map (·.2)) zs, ?_, v1.append (pickL_vals sp rk v2)⟩⟩
      rw [h2 ms ks as l1 l2 e]
      exact Reps.app _ _ _ _ r1 (pickL_reps sp (h3 ρ H) r2)
  · exact absurd rfl e
theorem glb_int {L : Lk} {mg : Str → Option Value} {x : Str} {i : Int} (h : ∃ t, mg x = some (.int i t)) : ∃ u u', mg x = some u' ∧ RelV u u' ∧ ∀ ρ H, Rep L ρ H (.int i) u := by
  obtain ⟨t, e⟩ := h
  exact ⟨.int i, _, e, ⟨t, rfl⟩, fun _ _ => rfl⟩
theorem glb_str {L : Lk} {mg : Str → Option Value} {x z : Str} {s : List Nat} (h : ∃ t, mg x = some (.str z t)) (hz : z = ⟨s.toArray⟩) (ok : okS s = true) : ∃ u u', mg x = some u' ∧ RelV u u' ∧ ∀ ρ H, Rep L ρ H (.str s) u := by
  obtain ⟨t, e⟩ := h
  subst hz
  exact ⟨stV s, _, e, ⟨t, rfl⟩, fun _ _ => ⟨ok, rfl⟩⟩
end MPS
end

section
set_option Elab.async false
set_option linter.all false
set_option maxRecDepth 100000
set_option maxHeartbeats 4000000
namespace MPS
open PySem PySem.Spec PyProof.Rows L2

/-! ### globals that are tuples -/
mutual
def valB (K : PySem.W.Frag) : MP.V → Value → Bool
  | .non, u => (match u with
    | .none => true
    | _ => false)
  | .bl b, u => (match u with
    | .bool c => b == c
    | _ => false)
  | .int i, u => (match u with
    | .int j _ => decide (i = j)
    | _ => false)
  | .str s, u => (match u with
    | .str y _ => decide (y = ⟨s.toArray⟩) && okS s
    | _ => false)
  | .tup ms, u => (match u with
    | .ref a => (match K.lookup a with
      | some o => decide (o.cls = .type "tuple") && (match o.data with
        | .seq its n => decide (its.size ≤ sizeLine) && valsB K ms its.toList
        | _ => false)
      | none => false)
    | _ => false)
  | .ref _, _ => false
  | .fn _, _ => false
  | .cls _, _ => false
def valsB (K : PySem.W.Frag) : List MP.V → List Value → Bool
  | [], us => us.isEmpty
  | m :: ms, us => (match us with
    | u :: r => valB K m u && valsB K ms r
    | [] => false)
end
mutual
theorem valB_ok {L : Lk} : ∀ (m : MP.V) (u : Value), valB L.K m u = true → ∃ v : V, RelV v u ∧ ∀ ρ H, Rep L ρ H m v
  | .non, u, h => by
    cases u <;> simp [valB] at h
    exact ⟨.non, rfl, fun _ _ => rfl⟩
  | .bl b, u, h => by
    cases u <;> simp [valB] at h
    subst h
    exact ⟨.bl b, rfl, fun _ _ => rfl⟩
  | .int i, u, h => by
    cases u <;> simp [valB] at h
    subst h
    exact ⟨.int i, ⟨_, rfl⟩, fun _ _ => rfl⟩
  | .str s, u, h => by
    cases u <;> simp [valB] at h
    obtain ⟨rfl, h2⟩ := h
    exact ⟨stV s, ⟨_, rfl⟩, fun _ _ => ⟨h2, rfl⟩⟩
  | .tup ms, u, h => by
    cases u <;> simp only [valB] at h <;> try (cases h; done)
    rename_i a
    cases e : L.K.lookup a with
    | none => rw [e] at h; cases h
    | some o =>
      rw [e] at h
      simp only [Bool.and_eq_true, decide_eq_true_eq] at h
      obtain ⟨h1, h2⟩ := h
      cases e2 : o.data with
      | seq its n =>
        rw [e2] at h2
        simp only [Bool.and_eq_true, decide_eq_true_eq] at h2
        obtain ⟨h3, h4⟩ := h2
        obtain ⟨vs, k1, k2⟩ := valsB_ok ms its.toList h4
        exact ⟨.ref a, rfl, fun ρ H => ⟨a, vs, rfl, .inr ⟨o, its, n, e, h1, e2, h3, k1⟩, k2 ρ H⟩⟩
      | _ => rw [e2] at h2; cases h2
  | .ref _, u, h => by simp [valB] at h
  | .fn _, u, h => by simp [valB] at h
  | .cls _, u, h => by simp [valB] at h
theorem valsB_ok {L : Lk} : ∀ (ms : List MP.V) (us : List Value), valsB L.K ms us = true → ∃ vs : List V, Vals vs us ∧ ∀ ρ H, Reps L ρ H ms vs
  | [], us, h => by
    cases us with
    | nil => exact ⟨[], .nil, fun _ _ => rfl⟩
    | cons a b => simp [valsB] at h
  | m :: ms, us, h => by
    cases us with
    | nil => simp [valsB] at h
    | cons u r =>
      simp only [valsB, Bool.and_eq_true] at h
      obtain ⟨v, k1, k2⟩ := valB_ok m u h.1
      obtain ⟨vs, k3, k4⟩ := valsB_ok ms r h.2
      exact ⟨v :: vs, .cons k1 k3, fun ρ H => ⟨v, vs, rfl, k2 ρ H, k4 ρ H⟩⟩
end
/-- the globals that are tuples, as a head is asked -/
def glB2 (K : PySem.W.Frag) : List (Str × MP.V) → Bool
  | [] => true
  | (x, v) :: r => (match PySem.W.nsIn K mainGlobals x with
    | some (some u) => valB K v u
    | _ => false) && glB2 K r
theorem glB2_mem {K : PySem.W.Frag} : ∀ {l : List (Str × MP.V)}, glB2 K l = true → ∀ {x : Str} {v : MP.V}, (x, v) ∈ l → ∃ u, PySem.W.nsIn K mainGlobals x = some (some u) ∧ valB K v u = true
  | [], _, x, v, h => by cases h
  | (y, w) :: r, g, x, v, h => by
    simp only [glB2, Bool.and_eq_true] at g
    rcases List.mem_cons.mp h with e | h
    · cases e
      have g1 := g.1
      revert g1
      generalize PySem.W.nsIn K mainGlobals _ = z
      intro g1
      match z, g1 with
      | some (some u), g1 => exact ⟨u, rfl, g1⟩
    · exact glB2_mem g.2 h
theorem glb_tup {L : Lk} {h : Heap} {mg : Str → Option Value} {l : List (Str × MP.V)} (X : L.K.In h) (G : h.Ns mainGlobals mg) (c : glB2 L.K l = true) {x : Str} {v : MP.V} (hx : (x, v) ∈ l) : ∃ u u', mg x = some u' ∧ RelV u u' ∧ ∀ ρ H, Rep L ρ H v u := by
  obtain ⟨u, e1, e2⟩ := glB2_mem c hx
  obtain ⟨v, k1, k2⟩ := valB_ok _ u e2
  exact ⟨v, u, PySem.W.mg_of X G e1, k1, k2⟩
end MPS
end

section
set_option Elab.async false
set_option linter.all false
set_option maxRecDepth 10000
namespace MP
open Ex St
/- errors.PageError -/
def K1 : ClsD := ⟨[1], none, [], []⟩

/- errors.NoNumber -/
def K2 : ClsD := ⟨[2, 1], none, [], []⟩

/- errors.NoProgram -/
def K4 : ClsD := ⟨[4, 1], none, [], [18, 19]⟩

/- exact.is_whole: thing -/
def B1 : List St := 
 [.ret (.and_ (.callb .isint [.var 0]) (.not_ (.callb .isbool [.var 0])))]
def D1 : FnD := ⟨1, [], [1], [], [], 1, B1⟩

/- exact.common: one other -/
def B2 : List St := 
 [.asg (.nm (.tp [.nm 0, .nm 1])) (.tup [.callb .abs [.var 0], .callb .abs [.var 1]]),
  .whl (.cmp .gt (.var 1) (.lit (.int 0))) [.asg (.nm (.tp [.nm 0, .nm 1])) (.tup [.var 1, .bin .mod (.var 0) (.var 1)])],
  .ret (.var 0)]
def D2 : FnD := ⟨2, [], [2, 3], [], [], 2, B2⟩

/- exact.is_number: thing -/
def B3 : List St := 
 [.iff (.or_ (.not_ (.callb .istuple [.var 0])) (.or_ (.cmp .ne (.callb .len [.var 0]) (.lit (.int 2))) (.or_ (.not_ (.callf 1 [.idx (.var 0) (.lit (.int 0))] [] [])) (.not_ (.callf 1 [.idx (.var 0) (.lit (.int 1))] [] []))))) [.ret (.lit (.bl false))] [],
  .ret (.and_ (.cmp .gt (.idx (.var 0) (.lit (.int 1))) (.lit (.int 0))) (.and_ (.cmp .eq (.callf 2 [.idx (.var 0) (.lit (.int 0)), .idx (.var 0) (.lit (.int 1))] [] []) (.lit (.int 1))) (.and_ (.cmp .lt (.callb .abs [.idx (.var 0) (.lit (.int 0))]) (.glob 1)) (.cmp .lt (.idx (.var 0) (.lit (.int 1))) (.glob 1)))))]
def D3 : FnD := ⟨1, [], [1], [], [], 1, B3⟩

/- exact.need_number: of -/
def B4 : List St := 
 [.iff (.not_ (.callf 3 [.var 0] [] [])) [.raise 2 [.lit (.str [110, 111, 32, 110, 117, 109, 98, 101, 114])]] []]
def D4 : FnD := ⟨0, [4], [4], [], [], 1, B4⟩

/- exact.text_of: one -/
def B7 : List St := 
 [.expr (.callf 4 [] [4] [.var 0]),
  .ret (.ite (.cmp .eq (.idx (.var 0) (.lit (.int 1))) (.lit (.int 1))) (.callb .str [.idx (.var 0) (.lit (.int 0))]) (.bin .add (.bin .add (.callb .str [.idx (.var 0) (.lit (.int 0))]) (.lit (.str [58]))) (.callb .str [.idx (.var 0) (.lit (.int 1))])))]
def D7 : FnD := ⟨1, [], [2], [], [], 1, B7⟩

/- reading.is_name: word sign -/
def B20 : List St := 
 [.iff (.or_ (.not_ (.callb .isstr [.var 0])) (.or_ (.not_ (.chain .le .le (.lit (.int 1)) (.callb .len [.var 0]) (.lit (.int 12)))) (.cmp .notin (.idx (.var 0) (.lit (.int 0))) (.glob 3)))) [.ret (.lit (.bl false))] [],
  .ret (.callb .all [.comp (.cmp .in_ (.var 1) (.slc (.glob 4) [] [(.lit (.int 37))])) (.nm 1) .val [.var 0] [] [1]])]
def D20 : FnD := ⟨1, [], [7], [], [], 2, B20⟩

/- reading.is_text: word sign -/
def B21 : List St := 
 [.ret (.and_ (.callb .isstr [.var 0]) (.not_ (.callb .any [.comp (.cmp .in_ (.var 1) (.lit (.str [40, 41, 10]))) (.nm 1) .val [.var 0] [] [1]])))]
def D21 : FnD := ⟨1, [], [7], [], [], 2, B21⟩

/- reading.is_item: thing kind what one -/
def B22 : List St := 
 [.iff (.or_ (.not_ (.callb .istuple [.var 0])) (.or_ (.cmp .ne (.callb .len [.var 0]) (.lit (.int 2))) (.not_ (.callb .isstr [.idx (.var 0) (.lit (.int 0))])))) [.ret (.lit (.bl false))] [],
  .asg (.nm (.tp [.nm 1, .nm 2])) (.var 0),
  .iff (.cmp .eq (.var 1) (.lit (.str [110, 117, 109, 98, 101, 114]))) [.tri [.ret (.cmp .ne (.callf 7 [.var 2] [] []) (.lit (.str [])))] 1 none [.ret (.lit (.bl false))]] [],
  .iff (.cmp .eq (.var 1) (.lit (.str [100, 111]))) [.ret (.or_ (.callf 20 [.var 2] [] []) (.and_ (.callb .isstr [.var 2]) (.cmp .in_ (.var 2) (.tup [.lit (.str [91]), .lit (.str [93])]))))] [],
  .iff (.cmp .eq (.var 1) (.lit (.str [112, 114, 111, 99]))) [.ret (.and_ (.callb .istuple [.var 2]) (.callb .all [.comp (.callf 22 [.var 3] [] []) (.nm 3) .val [.var 2] [] [3]]))] [],
  .ret (.ite (.cmp .eq (.var 1) (.lit (.str [110, 97, 109, 101]))) (.callf 20 [.var 2] [] []) (.and_ (.cmp .eq (.var 1) (.lit (.str [116, 101, 120, 116]))) (.callf 21 [.var 2] [] [])))]
def D22 : FnD := ⟨1, [], [1], [], [], 4, B22⟩

/- reading.item_text: item kind what one -/
def B23 : List St := 
 [.asg (.nm (.tp [.nm 1, .nm 2])) (.var 0),
  .iff (.cmp .eq (.var 1) (.lit (.str [110, 117, 109, 98, 101, 114]))) [.ret (.callf 7 [.var 2] [] [])] [],
  .iff (.cmp .eq (.var 1) (.lit (.str [112, 114, 111, 99]))) [.ret (.bmeth (.lit (.str [32])) .join [.bin .add (.bin .add (.lst [.lit (.str [123])]) (.comp (.callf 23 [.var 3] [] []) (.nm 3) .val [.var 2] [] [3])) (.lst [.lit (.str [125])])])] [],
  .iff (.cmp .eq (.var 1) (.lit (.str [116, 101, 120, 116]))) [.ret (.bin .add (.bin .add (.lit (.str [40])) (.var 2)) (.lit (.str [41])))] [],
  .ret (.ite (.cmp .eq (.var 1) (.lit (.str [110, 97, 109, 101]))) (.bin .add (.lit (.str [47])) (.var 2)) (.var 2))]
def D23 : FnD := ⟨1, [], [20], [], [], 4, B23⟩

/- reading.program_text: items item -/
def B24 : List St := 
 [.iff (.or_ (.not_ (.callb .islist [.var 0])) (.not_ (.callb .all [.comp (.callf 22 [.var 1] [] []) (.nm 1) .val [.var 0] [] [1]]))) [.raise 4 [.lit (.int 0), .lit (.int 0)]] [],
  .ret (.bmeth (.lit (.str [32])) .join [.comp (.callf 23 [.var 1] [] []) (.nm 1) .val [.var 0] [] [1]])]
def D24 : FnD := ⟨1, [], [21], [], [], 2, B24⟩

/- reading.count_items: items kind what -/
def B25 : List St := 
 [.ret (.callb .sum [.comp (.ite (.cmp .eq (.var 1) (.lit (.str [112, 114, 111, 99]))) (.bin .add (.lit (.int 1)) (.callf 25 [.callb .list [.var 2]] [] [])) (.lit (.int 1))) (.tp [.nm 1, .nm 2]) .val [.var 0] [] [1, 2]])]
def D25 : FnD := ⟨1, [], [21], [], [], 3, B25⟩

/- law._law_drawn: _law_script _law_k _law_many _law_cell _law_turn _law_rest -/
def B11 : List St := 
 [.asg (.nm (.nm 3)) (.bin .mul (.lit (.int 7)) (.var 1)),
  .iff (.cmp .ne (.var 0) (.lst [])) [.asg (.nm (.nm 3)) (.idx (.var 0) (.bin .mod (.var 1) (.callb .len [.var 0]))),
     .asg (.nm (.nm 4)) (.bin .fdiv (.var 1) (.callb .len [.var 0])),
     .iff (.and_ (.cmp .ge (.var 3) (.bin .pow (.lit (.int 10)) (.lit (.int 18)))) (.cmp .lt (.var 4) (.lit (.int 60)))) [.asg (.nm (.nm 5)) (.bin .fdiv (.var 3) (.bin .pow (.lit (.int 10)) (.lit (.int 18)))),
        .whl (.and_ (.cmp .gt (.var 5) (.lit (.int 0))) (.cmp .gt (.var 4) (.lit (.int 0)))) [.asg (.nm (.nm 5)) (.bin .fdiv (.var 5) (.lit (.int 1000000))),
           .asg (.nm (.nm 4)) (.bin .sub (.var 4) (.lit (.int 1)))],
        .iff (.cmp .gt (.var 5) (.lit (.int 0))) [.ret (.bin .mod (.bin .mod (.var 5) (.lit (.int 1000000))) (.var 2))] []] [],
     .asg (.nm (.nm 3)) (.bin .add (.var 3) (.bin .mul (.lit (.int 6553)) (.bin .fdiv (.var 1) (.callb .len [.var 0]))))] [],
  .asg (.nm (.nm 3)) (.bin .mod (.bin .add (.bin .mul (.bin .mod (.var 3) (.lit (.int 2147483563))) (.lit (.int 69069))) (.bin .mul (.lit (.int 104723)) (.bin .add (.var 1) (.lit (.int 1))))) (.lit (.int 2147483563))),
  .asg (.nm (.nm 3)) (.bin .mod (.bin .add (.bin .mul (.var 3) (.var 3)) (.bin .fdiv (.var 3) (.lit (.int 3)))) (.lit (.int 2147483399))),
  .ret (.bin .mod (.bin .fdiv (.bin .mod (.bin .add (.bin .mul (.var 3) (.var 3)) (.bin .fdiv (.var 3) (.lit (.int 7)))) (.lit (.int 2147483647))) (.lit (.int 11))) (.var 2))]
def D11 : FnD := ⟨3, [], [9, 10, 11], [], [], 6, B11⟩

/- law._law_common: _law_one _law_other -/
def B12 : List St := 
 [.whl (.cmp .gt (.var 1) (.lit (.int 0))) [.asg (.nm (.tp [.nm 0, .nm 1])) (.tup [.var 1, .bin .mod (.var 0) (.var 1)])],
  .ret (.var 0)]
def D12 : FnD := ⟨2, [], [12, 13], [], [], 2, B12⟩

/- law._law_made: _law_above _law_below _law_size -/
def B13 : List St := 
 [.asg (.nm (.nm 2)) (.callf 12 [.callb .abs [.var 0], .callb .abs [.var 1]] [] []),
  .asg (.nm (.nm 2)) (.ite (.cmp .lt (.var 1) (.lit (.int 0))) (.neg (.var 2)) (.var 2)),
  .ret (.tup [.bin .fdiv (.var 0) (.var 2), .bin .fdiv (.var 1) (.var 2)])]
def D13 : FnD := ⟨2, [], [14, 15], [], [], 3, B13⟩

/- law._law_number: _law_script _law_at _law_below -/
def B26 : List St := 
 [.asg (.nm (.nm 2)) (.idx (.lst [.lit (.int 1), .lit (.int 1), .lit (.int 1), .lit (.int 2), .lit (.int 3), .lit (.int 4), .lit (.int 6)]) (.callf 11 [.var 0, .var 1, .lit (.int 7)] [] [])),
  .ret (.callf 13 [.bin .sub (.callf 11 [.var 0, .bin .add (.var 1) (.lit (.int 1)), .idx (.lst [.lit (.int 9), .lit (.int 9), .lit (.int 41), .lit (.int 200)]) (.callf 11 [.var 0, .bin .add (.var 1) (.lit (.int 2)), .lit (.int 4)] [] [])] [] []) (.lit (.int 4)), .var 2] [] [])]
def D26 : FnD := ⟨2, [], [9, 22], [], [], 3, B26⟩

/- law._law_text: _law_one -/
def B14 : List St := 
 [.ret (.ite (.cmp .eq (.idx (.var 0) (.lit (.int 1))) (.lit (.int 1))) (.callb .str [.idx (.var 0) (.lit (.int 0))]) (.bin .add (.bin .add (.callb .str [.idx (.var 0) (.lit (.int 0))]) (.lit (.str [58]))) (.callb .str [.idx (.var 0) (.lit (.int 1))])))]
def D14 : FnD := ⟨1, [], [12], [], [], 1, B14⟩

/- law._law_item_text: _law_item_here _law_kind _law_what _law_one -/
def B27 : List St := 
 [.asg (.nm (.tp [.nm 1, .nm 2])) (.var 0),
  .iff (.cmp .eq (.var 1) (.lit (.str [110, 117, 109, 98, 101, 114]))) [.ret (.callf 14 [.var 2] [] [])] [],
  .iff (.cmp .eq (.var 1) (.lit (.str [112, 114, 111, 99]))) [.ret (.bmeth (.lit (.str [32])) .join [.bin .add (.bin .add (.lst [.lit (.str [123])]) (.comp (.callf 27 [.var 3] [] []) (.nm 3) .val [.var 2] [] [3])) (.lst [.lit (.str [125])])])] [],
  .iff (.cmp .eq (.var 1) (.lit (.str [116, 101, 120, 116]))) [.ret (.bin .add (.bin .add (.lit (.str [40])) (.var 2)) (.lit (.str [41])))] [],
  .ret (.ite (.cmp .eq (.var 1) (.lit (.str [110, 97, 109, 101]))) (.bin .add (.lit (.str [47])) (.var 2)) (.var 2))]
def D27 : FnD := ⟨1, [], [23], [], [], 4, B27⟩

/- law._law_write: _law_items_here _law_item_here -/
def B28 : List St := 
 [.ret (.bmeth (.lit (.str [32])) .join [.comp (.callf 27 [.var 1] [] []) (.nm 1) .val [.var 0] [] [1]])]
def D28 : FnD := ⟨1, [], [24], [], [], 2, B28⟩

/- law._law_item: _law_script _law_at _law_deep _law_kind _law_many _law_words _law_word _law_k -/
def B29 : List St := 
 [.asg (.nm (.nm 3)) (.idx (.lst [.lit (.str [110, 117, 109, 98, 101, 114]), .lit (.str [100, 111]), .lit (.str [110, 97, 109, 101]), .lit (.str [116, 101, 120, 116]), .lit (.str [110, 117, 109, 98, 101, 114]), .lit (.str [100, 111]), .lit (.str [112, 114, 111, 99]), .lit (.str [100, 111])]) (.callf 11 [.var 0, .var 1, .lit (.int 8)] [] [])),
  .iff (.and_ (.cmp .eq (.var 3) (.lit (.str [112, 114, 111, 99]))) (.cmp .gt (.var 2) (.lit (.int 0)))) [.asg (.nm (.nm 4)) (.callf 11 [.var 0, .bin .add (.var 1) (.lit (.int 1)), .lit (.int 4)] [] []),
     .ret (.tup [.var 3, .callb .tuple [.comp (.callf 29 [.var 0, .bin .add (.bin .add (.var 1) (.lit (.int 7))) (.bin .mul (.lit (.int 9)) (.var 7)), .bin .sub (.var 2) (.lit (.int 1))] [] []) (.nm 7) .range [.var 4] [] [7]]])] [],
  .iff (.cmp .eq (.var 3) (.lit (.str [110, 117, 109, 98, 101, 114]))) [.ret (.tup [.var 3, .callf 26 [.var 0, .bin .add (.var 1) (.lit (.int 2))] [] []])] [],
  .iff (.cmp .eq (.var 3) (.lit (.str [116, 101, 120, 116]))) [.ret (.tup [.var 3, .idx (.lst [.lit (.str []), .lit (.str [97, 98]), .lit (.str [97, 32, 98]), .lit (.str [35, 53]), .lit (.str [120, 123, 121, 125]), .lit (.str [47]), .lit (.str [91, 32, 49])]) (.callf 11 [.var 0, .bin .add (.var 1) (.lit (.int 3)), .lit (.int 7)] [] [])])] [],
  .asg (.nm (.nm 5)) (.lst [.lit (.str [100, 117, 112]), .lit (.str [97, 100, 100]), .lit (.str [120]), .lit (.str [97, 45, 49]), .lit (.str [100, 101, 102]), .lit (.str [91]), .lit (.str [93]), .lit (.str [101, 120, 101, 99]), .lit (.str [112, 97, 103, 101, 115, 50]), .lit (.str [122, 45])]),
  .asg (.nm (.nm 6)) (.idx (.var 5) (.callf 11 [.var 0, .bin .add (.var 1) (.lit (.int 4)), .lit (.int 10)] [] [])),
  .ret (.ite (.or_ (.cmp .ne (.var 3) (.lit (.str [110, 97, 109, 101]))) (.cmp .in_ (.var 6) (.tup [.lit (.str [91]), .lit (.str [93])]))) (.tup [.lit (.str [100, 111]), .var 6]) (.tup [.var 3, .var 6]))]
def D29 : FnD := ⟨3, [], [9, 22, 25], [], [], 8, B29⟩

/- law._law_items: _law_script _law_at _law_many _law_deep _law_k -/
def B30 : List St := 
 [.ret (.comp (.callf 29 [.var 0, .bin .add (.var 1) (.bin .mul (.lit (.int 40)) (.var 4)), .var 3] [] []) (.nm 4) .range [.var 2] [] [4])]
def D30 : FnD := ⟨4, [], [9, 22, 11, 25], [], [], 5, B30⟩

/- law._law_counted: _law_items_here _law_many _law_kind _law_what -/
def B31 : List St := 
 [.asg (.nm (.nm 1)) (.lit (.int 0)),
  .forr (.tp [.nm 2, .nm 3]) .val [.var 0] [.asg (.nm (.nm 1)) (.bin .add (.var 1) (.lit (.int 1))),
     .iff (.cmp .eq (.var 2) (.lit (.str [112, 114, 111, 99]))) [.asg (.nm (.nm 1)) (.bin .add (.var 1) (.callf 31 [.var 3] [] []))] []],
  .ret (.var 1)]
def D31 : FnD := ⟨1, [], [24], [], [], 4, B31⟩

/- law._law_no: _law_thing e -/
def B15 : List St := 
 [.tri [.expr (.callf 24 [.var 0] [] [])] 4 (some 1) [.ret (.tup [.xfld 18, .xfld 19])],
  .ret (.lit (.non))]
def D15 : FnD := ⟨1, [], [26], [], [], 2, B15⟩

/- law.law: _law_script _law_items_here _law_kept _law_bad _law_known _law_item_here _law_thing -/
def B16 : List St := 
 [.asg (.nm (.nm 1)) (.callf 30 [.var 0, .lit (.int 0), .callf 11 [.var 0, .lit (.int 300), .lit (.int 6)] [] [], .lit (.int 3)] [] []),
  .asg (.nm (.nm 2)) (.callb .list [.var 1]),
  .iff (.cmp .ne (.comp (.var 5) (.nm 5) .val [.var 1] [.cmp .isnot (.callf 22 [.var 5] [] []) (.lit (.bl true))] [5]) (.lst [])) [.ret (.lit (.bl false))] [],
  .iff (.cmp .ne (.callf 24 [.var 1] [] []) (.callf 28 [.var 1] [] [])) [.ret (.lit (.bl false))] [],
  .iff (.or_ (.cmp .ne (.callf 25 [.var 1] [] []) (.callf 31 [.var 1] [] [])) (.cmp .ne (.var 1) (.var 2))) [.ret (.lit (.bl false))] [],
  .asg (.nm (.nm 3)) (.lst [.lit (.non), .lit (.str [100, 117, 112]), .tup [.lit (.str [100, 111])], .tup [.lit (.str [100, 111]), .lit (.str [68, 117, 112])], .tup [.lit (.str [100, 111]), .lit (.str [49, 97])], .tup [.lit (.str [100, 111]), .lit (.str [])]]),
  .asg (.nm (.nm 3)) (.bin .add (.var 3) (.lst [.tup [.lit (.str [100, 111]), .lit (.str [97, 98, 99, 100, 101, 102, 103, 104, 105, 106, 107, 108, 109])], .tup [.lit (.str [110, 97, 109, 101]), .lit (.str [91])], .tup [.lit (.str [110, 97, 109, 101]), .lit (.str [97, 32, 98])], .lst [.lit (.str [100, 111]), .lit (.str [97])]])),
  .asg (.nm (.nm 3)) (.bin .add (.var 3) (.lst [.tup [.lit (.str [110, 117, 109, 98, 101, 114]), .lit (.int 3)], .tup [.lit (.str [110, 117, 109, 98, 101, 114]), .tup [.lit (.int 2), .lit (.int 4)]], .tup [.lit (.str [110, 117, 109, 98, 101, 114]), .lit (.non)], .tup [.lit (.str [116, 101, 120, 116]), .lit (.str [97, 40, 98])], .tup [.lit (.str [116, 101, 120, 116]), .lit (.int 5)]])),
  .asg (.nm (.nm 3)) (.bin .add (.var 3) (.lst [.tup [.lit (.str [116, 101, 120, 116]), .lit (.str [97, 41])], .tup [.lit (.str [112, 114, 111, 99]), .lst []], .tup [.lit (.str [112, 114, 111, 99]), .tup [.lit (.int 3)]]])),
  .asg (.nm (.nm 3)) (.bin .add (.var 3) (.lst [.tup [.lit (.str [112, 114, 111, 99]), .tup [.tup [.lit (.str [100, 111]), .lit (.str [65])]]], .tup [.lit (.str [116, 114, 117, 116, 104]), .lit (.bl true)], .tup [.lit (.str [100, 111]), .lit (.non)], .tup [.lit (.str [100, 111]), .tup [.lit (.str [97])]], .tup [.lit (.int 1), .lit (.int 2)]])),
  .asg (.nm (.nm 3)) (.bin .add (.var 3) (.lst [.tup [.lit (.str [100, 111]), .lit (.str [97]), .lit (.str [98])], .tup [.lit (.str [100, 111]), .lit (.str [45, 97])]])),
  .iff (.cmp .ne (.comp (.var 6) (.nm 6) .val [.var 3] [.or_ (.cmp .isnot (.callf 22 [.var 6] [] []) (.lit (.bl false))) (.cmp .ne (.callf 15 [.lst [.var 6]] [] []) (.tup [.lit (.int 0), .lit (.int 0)]))] [6]) (.lst [])) [.ret (.lit (.bl false))] [],
  .iff (.or_ (.cmp .ne (.callf 15 [.callb .tuple [.var 1]] [] []) (.tup [.lit (.int 0), .lit (.int 0)])) (.or_ (.cmp .ne (.callf 15 [.lit (.non)] [] []) (.tup [.lit (.int 0), .lit (.int 0)])) (.cmp .ne (.callf 15 [.lit (.str [100, 117, 112])] [] []) (.tup [.lit (.int 0), .lit (.int 0)])))) [.ret (.lit (.bl false))] [],
  .asg (.nm (.nm 4)) (.lst [.tup [.lit (.str [110, 117, 109, 98, 101, 114]), .tup [.neg (.lit (.int 1)), .lit (.int 2)]], .tup [.lit (.str [112, 114, 111, 99]), .tup [.tup [.lit (.str [100, 111]), .lit (.str [100, 117, 112])], .tup [.lit (.str [112, 114, 111, 99]), .tup []]]], .tup [.lit (.str [110, 97, 109, 101]), .lit (.str [120])]]),
  .asg (.nm (.nm 4)) (.bin .add (.var 4) (.lst [.tup [.lit (.str [116, 101, 120, 116]), .lit (.str [97, 32, 35, 98])], .tup [.lit (.str [100, 111]), .lit (.str [93])]])),
  .iff (.cmp .ne (.callf 24 [.var 4] [] []) (.lit (.str [45, 49, 58, 50, 32, 123, 32, 100, 117, 112, 32, 123, 32, 125, 32, 125, 32, 47, 120, 32, 40, 97, 32, 35, 98, 41, 32, 93]))) [.ret (.lit (.bl false))] [],
  .ret (.and_ (.cmp .eq (.callf 24 [.lst []] [] []) (.lit (.str []))) (.cmp .eq (.callf 25 [.var 4] [] []) (.lit (.int 7))))]
def D16 : FnD := ⟨1, [], [9], [], [], 7, B16⟩

def prog : Prog where
  fns := fun n => match n with
    | 1 => some D1
    | 2 => some D2
    | 3 => some D3
    | 4 => some D4
    | 7 => some D7
    | 20 => some D20
    | 21 => some D21
    | 22 => some D22
    | 23 => some D23
    | 24 => some D24
    | 25 => some D25
    | 11 => some D11
    | 12 => some D12
    | 13 => some D13
    | 26 => some D26
    | 14 => some D14
    | 27 => some D27
    | 28 => some D28
    | 29 => some D29
    | 30 => some D30
    | 31 => some D31
    | 15 => some D15
    | 16 => some D16
    | _ => none
  cls := fun n => match n with
    | 1 => some K1
    | 2 => some K2
    | 4 => some K4
    | _ => none
  glb := fun n => match n with
    | 1 => some (.int 10000000000000000000000000000000000000000) -- exact.MOST
    | 3 => some (.str [97, 98, 99, 100, 101, 102, 103, 104, 105, 106, 107, 108, 109, 110, 111, 112, 113, 114, 115, 116, 117, 118, 119, 120, 121, 122]) -- reading.LETTERS
    | 4 => some (.str [97, 98, 99, 100, 101, 102, 103, 104, 105, 106, 107, 108, 109, 110, 111, 112, 113, 114, 115, 116, 117, 118, 119, 120, 121, 122, 48, 49, 50, 51, 52, 53, 54, 55, 56, 57, 45, 58, 46]) -- reading.WORD
    | _ => none
end MP
end

section
set_option Elab.async false
set_option linter.all false
set_option maxRecDepth 100000
set_option maxHeartbeats 0
namespace HD
open PySem PySem.Spec PyProof.Rows L2
def cdef (s : Stmt) (j : Nat) : Stmt := match s with
  | .ClassDef _ _ _ b _ _ _ _ _ _ _ => b.getD j (.Pass ⟨0, 0, 0, 0⟩)
  | _ => .Pass ⟨0, 0, 0, 0⟩
def top (i : Nat) : Stmt := PySem.Challenge.pw_pageloom_k05_items.main.body.getD i (.Pass ⟨0, 0, 0, 0⟩)
def d1 : He.DefD := ⟨("is_whole", none), "is_whole", "is_whole", defArgs (top 6), defBody (top 6), defScope (top 6), [], []⟩
def d2 : He.DefD := ⟨("common", none), "common", "common", defArgs (top 7), defBody (top 7), defScope (top 7), [], []⟩
def d3 : He.DefD := ⟨("is_number", none), "is_number", "is_number", defArgs (top 8), defBody (top 8), defScope (top 8), [], []⟩
def d4 : He.DefD := ⟨("need_number", none), "need_number", "need_number", defArgs (top 9), defBody (top 9), defScope (top 9), [], []⟩
def d7 : He.DefD := ⟨("text_of", none), "text_of", "text_of", defArgs (top 10), defBody (top 10), defScope (top 10), [], []⟩
def d20 : He.DefD := ⟨("is_name", none), "is_name", "is_name", defArgs (top 14), defBody (top 14), defScope (top 14), [], []⟩
def d21 : He.DefD := ⟨("is_text", none), "is_text", "is_text", defArgs (top 15), defBody (top 15), defScope (top 15), [], []⟩
def d22 : He.DefD := ⟨("is_item", none), "is_item", "is_item", defArgs (top 16), defBody (top 16), defScope (top 16), [], []⟩
def d23 : He.DefD := ⟨("item_text", none), "item_text", "item_text", defArgs (top 17), defBody (top 17), defScope (top 17), [], []⟩
def d24 : He.DefD := ⟨("program_text", none), "program_text", "program_text", defArgs (top 18), defBody (top 18), defScope (top 18), [], []⟩
def d25 : He.DefD := ⟨("count_items", none), "count_items", "count_items", defArgs (top 19), defBody (top 19), defScope (top 19), [], []⟩
def d11 : He.DefD := ⟨("_law_drawn", none), "_law_drawn", "_law_drawn", defArgs (top 21), defBody (top 21), defScope (top 21), [], []⟩
def d12 : He.DefD := ⟨("_law_common", none), "_law_common", "_law_common", defArgs (top 22), defBody (top 22), defScope (top 22), [], []⟩
def d13 : He.DefD := ⟨("_law_made", none), "_law_made", "_law_made", defArgs (top 23), defBody (top 23), defScope (top 23), [], []⟩
def d26 : He.DefD := ⟨("_law_number", none), "_law_number", "_law_number", defArgs (top 24), defBody (top 24), defScope (top 24), [], []⟩
def d14 : He.DefD := ⟨("_law_text", none), "_law_text", "_law_text", defArgs (top 25), defBody (top 25), defScope (top 25), [], []⟩
def d27 : He.DefD := ⟨("_law_item_text", none), "_law_item_text", "_law_item_text", defArgs (top 26), defBody (top 26), defScope (top 26), [], []⟩
def d28 : He.DefD := ⟨("_law_write", none), "_law_write", "_law_write", defArgs (top 27), defBody (top 27), defScope (top 27), [], []⟩
def d29 : He.DefD := ⟨("_law_item", none), "_law_item", "_law_item", defArgs (top 28), defBody (top 28), defScope (top 28), [], []⟩
def d30 : He.DefD := ⟨("_law_items", none), "_law_items", "_law_items", defArgs (top 29), defBody (top 29), defScope (top 29), [], []⟩
def d31 : He.DefD := ⟨("_law_counted", none), "_law_counted", "_law_counted", defArgs (top 30), defBody (top 30), defScope (top 30), [], []⟩
def d15 : He.DefD := ⟨("_law_no", none), "_law_no", "_law_no", defArgs (top 31), defBody (top 31), defScope (top 31), [], []⟩
def d16 : He.DefD := ⟨("law", none), "law", "law", defArgs (top 32), defBody (top 32), defScope (top 32), [], []⟩
def cd4 : He.DefD := ⟨("NoProgram", some "__init__"), "__init__", "NoProgram.__init__", defArgs (cdef (top 3) 0), defBody (cdef (top 3) 0), defScope (cdef (top 3) 0), [], []⟩
def fn : List He.DefD := [d1, d2, d3, d4, d7, d20, d21, d22, d23, d24, d25, d11, d12, d13, d26, d14, d27, d28, d29, d30, d31, d15, d16, cd4]
def fa : List He.Fa := [
  .glo "is_whole",
  .glo "common",
  .glo "is_number",
  .glo "need_number",
  .glo "text_of",
  .glo "is_name",
  .glo "is_text",
  .glo "is_item",
  .glo "item_text",
  .glo "program_text",
  .glo "count_items",
  .glo "_law_drawn",
  .glo "_law_common",
  .glo "_law_made",
  .glo "_law_number",
  .glo "_law_text",
  .glo "_law_item_text",
  .glo "_law_write",
  .glo "_law_item",
  .glo "_law_items",
  .glo "_law_counted",
  .glo "_law_no",
  .glo "law",
  .glo "PageError",
  .glo "NoNumber",
  .glo "NoProgram",
  .free "abs",
  .free "all",
  .free "any",
  .free "bool",
  .free "int",
  .free "isinstance",
  .free "len",
  .free "list",
  .free "range",
  .free "str",
  .free "sum",
  .free "tuple",
  .str "LETTERS" "abcdefghijklmnopqrstuvwxyz",
  .int "MOST" (10000000000000000000000000000000000000000),
  .str "WORD" "abcdefghijklmnopqrstuvwxyz0123456789-:."]
def nm : Nat → PySem.Str := fun n => match n with
  | 1 => "is_whole"
  | 2 => "common"
  | 3 => "is_number"
  | 4 => "need_number"
  | 7 => "text_of"
  | 20 => "is_name"
  | 21 => "is_text"
  | 22 => "is_item"
  | 23 => "item_text"
  | 24 => "program_text"
  | 25 => "count_items"
  | 11 => "_law_drawn"
  | 12 => "_law_common"
  | 13 => "_law_made"
  | 26 => "_law_number"
  | 14 => "_law_text"
  | 27 => "_law_item_text"
  | 28 => "_law_write"
  | 29 => "_law_item"
  | 30 => "_law_items"
  | 31 => "_law_counted"
  | 15 => "_law_no"
  | 16 => "law"
  | _ => ""
def cnm : Nat → PySem.Str := fun n => match n with
  | 1 => "PageError"
  | 2 => "NoNumber"
  | 4 => "NoProgram"
  | _ => ""
def sup : Nat → List Nat := fun n => match n with
  | 1 => [1]
  | 2 => [2, 1]
  | 4 => [4, 1]
  | _ => []
def exs : List Nat := [1, 2, 4]
def an : Nat → PySem.Str := fun n => match n with
  | 19 => "column"
  | 18 => "row"
  | _ => ""
def fi : Nat → Option (PySem.Str × PySem.Str) := fun n => match n with
  | 4 => some ("row", "column")
  | _ => none
def tups : List (PySem.Str × MP.V) := []
def fx : PySem.W.Frag → Bool := fun K => MPS.exB exs cnm sup fi K && MPS.glB2 K tups
abbrev R : PySem.W.OpenRow := PySem.W.OpenLaw.row PySem.Challenge.rw_pageloom_k05_items
abbrev hk : PySem.W.Hook := MPS.hookM 5 fa fn fx
def ob (t : PySem.W.SharedT) : He.AlD := MPS.obsMG 5 fa fn fx (HandSHeadRun.getT t)
theorem ob_ok (t : PySem.W.SharedT) : ob t = hk.obs t.abs := MPS.obsMG_eq (HandSHeadRun.getT_eq t)
def loose0 : List PySem.Str := ["PageError", "NoNumber", "NoProgram", "MOST", "is_whole", "common", "is_number", "need_number", "text_of", "LETTERS", "WORD", "is_name", "is_text", "is_item", "item_text", "program_text", "count_items", "_law_drawn"]
def loose1 : List PySem.Str := ["_law_common", "_law_made", "_law_number", "_law_text", "_law_item_text", "_law_write", "_law_item", "_law_items", "_law_counted", "_law_no"]
def loose : List PySem.Str := loose0 ++ loose1
theorem run (w : World) : HandSHeadRun.RunEq R (PySem.W.view R.prog [32]) hk ob 4000 loose w := by
  intro os
  kernel_rfl
def Lk (K : PySem.W.Frag) : MPS.Lk := ⟨K, fun f => He.ga K (nm f), fun c => He.ga K (cnm c), exs, an⟩
def Tt : MPS.Tx := ⟨("is_whole", 1) :: ("common", 2) :: ("is_number", 3) :: ("need_number", 4) :: ("text_of", 7) :: ("is_name", 20) :: ("is_text", 21) :: ("is_item", 22) :: ("item_text", 23) :: ("program_text", 24) :: ("count_items", 25) :: ("_law_drawn", 11) :: ("_law_common", 12) :: ("_law_made", 13) :: ("_law_number", 26) :: ("_law_text", 14) :: ("_law_item_text", 27) :: ("_law_write", 28) :: ("_law_item", 29) :: ("_law_items", 30) :: ("_law_counted", 31) :: ("_law_no", 15) :: ("law", 16) :: [], [("PageError", 1), ("NoNumber", 2), ("NoProgram", 4)], [("LETTERS", 3), ("MOST", 1), ("WORD", 4)], ["abs", "all", "any", "bool", "int", "isinstance", "len", "list", "range", "str", "sum", "tuple"], [("column", 19), ("row", 18)], [4], (1, 1, [], []) :: (2, 2, [], []) :: (3, 1, [], []) :: (4, 0, [4], ["of"]) :: (7, 1, [], []) :: (11, 3, [], []) :: (12, 2, [], []) :: (13, 2, [], []) :: (14, 1, [], []) :: (15, 1, [], []) :: (20, 1, [], []) :: (21, 1, [], []) :: (22, 1, [], []) :: (23, 1, [], []) :: (24, 1, [], []) :: (25, 1, [], []) :: (26, 2, [], []) :: (27, 1, [], []) :: (28, 1, [], []) :: (29, 3, [], []) :: (30, 4, [], []) :: (31, 1, [], []) :: []⟩
section
variable {K : PySem.W.Frag} {hp : Heap} {mg : PySem.Str → Option Value}
theorem tf1 (X : K.In hp) (G : hp.Ns mainGlobals mg) (c : MPS.SaysM fa fn fx K) : mg "is_whole" = some (.ref ((Lk K).fa 1)) ∧ ∃ F fd ps, MPS.TabF (Lk K) Tt MP.prog 1 F fd ps := by
  obtain ⟨fd, FD⟩ := c.both.1.def_ 0 (d := d1) rfl
  refine ⟨He.glo_ok X G (c.both.1.fact 0 (f := .glo "is_whole") rfl), MP.D1, fd, ["thing"], ⟨rfl, ⟨["thing"], _, _, _, _, _, _, _, 90, FD, ⟨rfl, rfl, rfl, by decide +kernel, rfl, by decide +kernel, by decide +kernel⟩, rfl, rfl, by decide, by kernel_rfl⟩, fun n kn names z => ?_⟩⟩
  simp [Tt] at z
  obtain ⟨rfl, rfl, rfl⟩ := z
  · exact MPS.bnd_of FD (fun _ _ _ _ _ _ us ws hu hw => match us, ws, hu, hw with | [u0], [], _, _ => rfl) fun ms ks as hm hk e => match ms, ks, hm, hk with | [m0], [], _, _ => by simpa [MP.bindF, MP.fillKw, MP.D1, List.lookup] using e.symm
theorem tf2 (X : K.In hp) (G : hp.Ns mainGlobals mg) (c : MPS.SaysM fa fn fx K) : mg "common" = some (.ref ((Lk K).fa 2)) ∧ ∃ F fd ps, MPS.TabF (Lk K) Tt MP.prog 2 F fd ps := by
  obtain ⟨fd, FD⟩ := c.both.1.def_ 1 (d := d2) rfl
  refine ⟨He.glo_ok X G (c.both.1.fact 1 (f := .glo "common") rfl), MP.D2, fd, ["one", "other"], ⟨rfl, ⟨["one", "other"], _, _, _, _, _, _, _, 90, FD, ⟨rfl, rfl, rfl, by decide +kernel, rfl, by decide +kernel, by decide +kernel⟩, rfl, rfl, by decide, by kernel_rfl⟩, fun n kn names z => ?_⟩⟩
  simp [Tt] at z
  obtain ⟨rfl, rfl, rfl⟩ := z
  · exact MPS.bnd_of FD (fun _ _ _ _ _ _ us ws hu hw => match us, ws, hu, hw with | [u0, u1], [], _, _ => rfl) fun ms ks as hm hk e => match ms, ks, hm, hk with | [m0, m1], [], _, _ => by simpa [MP.bindF, MP.fillKw, MP.D2, List.lookup] using e.symm
theorem tf3 (X : K.In hp) (G : hp.Ns mainGlobals mg) (c : MPS.SaysM fa fn fx K) : mg "is_number" = some (.ref ((Lk K).fa 3)) ∧ ∃ F fd ps, MPS.TabF (Lk K) Tt MP.prog 3 F fd ps := by
  obtain ⟨fd, FD⟩ := c.both.1.def_ 2 (d := d3) rfl
  refine ⟨He.glo_ok X G (c.both.1.fact 2 (f := .glo "is_number") rfl), MP.D3, fd, ["thing"], ⟨rfl, ⟨["thing"], _, _, _, _, _, _, _, 90, FD, ⟨rfl, rfl, rfl, by decide +kernel, rfl, by decide +kernel, by decide +kernel⟩, rfl, rfl, by decide, by kernel_rfl⟩, fun n kn names z => ?_⟩⟩
  simp [Tt] at z
  obtain ⟨rfl, rfl, rfl⟩ := z
  · exact MPS.bnd_of FD (fun _ _ _ _ _ _ us ws hu hw => match us, ws, hu, hw with | [u0], [], _, _ => rfl) fun ms ks as hm hk e => match ms, ks, hm, hk with | [m0], [], _, _ => by simpa [MP.bindF, MP.fillKw, MP.D3, List.lookup] using e.symm
theorem tf4 (X : K.In hp) (G : hp.Ns mainGlobals mg) (c : MPS.SaysM fa fn fx K) : mg "need_number" = some (.ref ((Lk K).fa 4)) ∧ ∃ F fd ps, MPS.TabF (Lk K) Tt MP.prog 4 F fd ps := by
  obtain ⟨fd, FD⟩ := c.both.1.def_ 3 (d := d4) rfl
  refine ⟨He.glo_ok X G (c.both.1.fact 3 (f := .glo "need_number") rfl), MP.D4, fd, ["of"], ⟨rfl, ⟨["of"], _, _, _, _, _, _, _, 90, FD, ⟨rfl, rfl, rfl, by decide +kernel, rfl, by decide +kernel, by decide +kernel⟩, rfl, rfl, by decide, by kernel_rfl⟩, fun n kn names z => ?_⟩⟩
  simp [Tt] at z
  obtain ⟨rfl, rfl, rfl⟩ := z
  · exact MPS.bnd_of FD (fun _ _ _ _ _ _ us ws hu hw => match us, ws, hu, hw with | [], [w0], _, _ => rfl) fun ms ks as hm hk e => match ms, ks, hm, hk with | [], [k0], _, _ => by simpa [MP.bindF, MP.fillKw, MP.D4, List.lookup] using e.symm
theorem tf7 (X : K.In hp) (G : hp.Ns mainGlobals mg) (c : MPS.SaysM fa fn fx K) : mg "text_of" = some (.ref ((Lk K).fa 7)) ∧ ∃ F fd ps, MPS.TabF (Lk K) Tt MP.prog 7 F fd ps := by
  obtain ⟨fd, FD⟩ := c.both.1.def_ 4 (d := d7) rfl
  refine ⟨He.glo_ok X G (c.both.1.fact 4 (f := .glo "text_of") rfl), MP.D7, fd, ["one"], ⟨rfl, ⟨["one"], _, _, _, _, _, _, _, 90, FD, ⟨rfl, rfl, rfl, by decide +kernel, rfl, by decide +kernel, by decide +kernel⟩, rfl, rfl, by decide, by kernel_rfl⟩, fun n kn names z => ?_⟩⟩
  simp [Tt] at z
  obtain ⟨rfl, rfl, rfl⟩ := z
  · exact MPS.bnd_of FD (fun _ _ _ _ _ _ us ws hu hw => match us, ws, hu, hw with | [u0], [], _, _ => rfl) fun ms ks as hm hk e => match ms, ks, hm, hk with | [m0], [], _, _ => by simpa [MP.bindF, MP.fillKw, MP.D7, List.lookup] using e.symm
theorem tf20 (X : K.In hp) (G : hp.Ns mainGlobals mg) (c : MPS.SaysM fa fn fx K) : mg "is_name" = some (.ref ((Lk K).fa 20)) ∧ ∃ F fd ps, MPS.TabF (Lk K) Tt MP.prog 20 F fd ps := by
  obtain ⟨fd, FD⟩ := c.both.1.def_ 5 (d := d20) rfl
  refine ⟨He.glo_ok X G (c.both.1.fact 5 (f := .glo "is_name") rfl), MP.D20, fd, ["word"], ⟨rfl, ⟨["word", "sign"], _, _, _, _, _, _, _, 90, FD, ⟨rfl, rfl, rfl, by decide +kernel, rfl, by decide +kernel, by decide +kernel⟩, rfl, rfl, by decide, by kernel_rfl⟩, fun n kn names z => ?_⟩⟩
  simp [Tt] at z
  obtain ⟨rfl, rfl, rfl⟩ := z
  · exact MPS.bnd_of FD (fun _ _ _ _ _ _ us ws hu hw => match us, ws, hu, hw with | [u0], [], _, _ => rfl) fun ms ks as hm hk e => match ms, ks, hm, hk with | [m0], [], _, _ => by simpa [MP.bindF, MP.fillKw, MP.D20, List.lookup] using e.symm
theorem tf21 (X : K.In hp) (G : hp.Ns mainGlobals mg) (c : MPS.SaysM fa fn fx K) : mg "is_text" = some (.ref ((Lk K).fa 21)) ∧ ∃ F fd ps, MPS.TabF (Lk K) Tt MP.prog 21 F fd ps := by
  obtain ⟨fd, FD⟩ := c.both.1.def_ 6 (d := d21) rfl
  refine ⟨He.glo_ok X G (c.both.1.fact 6 (f := .glo "is_text") rfl), MP.D21, fd, ["word"], ⟨rfl, ⟨["word", "sign"], _, _, _, _, _, _, _, 90, FD, ⟨rfl, rfl, rfl, by decide +kernel, rfl, by decide +kernel, by decide +kernel⟩, rfl, rfl, by decide, by kernel_rfl⟩, fun n kn names z => ?_⟩⟩
  simp [Tt] at z
  obtain ⟨rfl, rfl, rfl⟩ := z
  · exact MPS.bnd_of FD (fun _ _ _ _ _ _ us ws hu hw => match us, ws, hu, hw with | [u0], [], _, _ => rfl) fun ms ks as hm hk e => match ms, ks, hm, hk with | [m0], [], _, _ => by simpa [MP.bindF, MP.fillKw, MP.D21, List.lookup] using e.symm
theorem tf22 (X : K.In hp) (G : hp.Ns mainGlobals mg) (c : MPS.SaysM fa fn fx K) : mg "is_item" = some (.ref ((Lk K).fa 22)) ∧ ∃ F fd ps, MPS.TabF (Lk K) Tt MP.prog 22 F fd ps := by
  obtain ⟨fd, FD⟩ := c.both.1.def_ 7 (d := d22) rfl
  refine ⟨He.glo_ok X G (c.both.1.fact 7 (f := .glo "is_item") rfl), MP.D22, fd, ["thing"], ⟨rfl, ⟨["thing", "kind", "what", "one"], _, _, _, _, _, _, _, 90, FD, ⟨rfl, rfl, rfl, by decide +kernel, rfl, by decide +kernel, by decide +kernel⟩, rfl, rfl, by decide, by kernel_rfl⟩, fun n kn names z => ?_⟩⟩
  simp [Tt] at z
  obtain ⟨rfl, rfl, rfl⟩ := z
  · exact MPS.bnd_of FD (fun _ _ _ _ _ _ us ws hu hw => match us, ws, hu, hw with | [u0], [], _, _ => rfl) fun ms ks as hm hk e => match ms, ks, hm, hk with | [m0], [], _, _ => by simpa [MP.bindF, MP.fillKw, MP.D22, List.lookup] using e.symm
theorem tf23 (X : K.In hp) (G : hp.Ns mainGlobals mg) (c : MPS.SaysM fa fn fx K) : mg "item_text" = some (.ref ((Lk K).fa 23)) ∧ ∃ F fd ps, MPS.TabF (Lk K) Tt MP.prog 23 F fd ps := by
  obtain ⟨fd, FD⟩ := c.both.1.def_ 8 (d := d23) rfl
  refine ⟨He.glo_ok X G (c.both.1.fact 8 (f := .glo "item_text") rfl), MP.D23, fd, ["item"], ⟨rfl, ⟨["item", "kind", "what", "one"], _, _, _, _, _, _, _, 90, FD, ⟨rfl, rfl, rfl, by decide +kernel, rfl, by decide +kernel, by decide +kernel⟩, rfl, rfl, by decide, by kernel_rfl⟩, fun n kn names z => ?_⟩⟩
  simp [Tt] at z
  obtain ⟨rfl, rfl, rfl⟩ := z
  · exact MPS.bnd_of FD (fun _ _ _ _ _ _ us ws hu hw => match us, ws, hu, hw with | [u0], [], _, _ => rfl) fun ms ks as hm hk e => match ms, ks, hm, hk with | [m0], [], _, _ => by simpa [MP.bindF, MP.fillKw, MP.D23, List.lookup] using e.symm
theorem tf24 (X : K.In hp) (G : hp.Ns mainGlobals mg) (c : MPS.SaysM fa fn fx K) : mg "program_text" = some (.ref ((Lk K).fa 24)) ∧ ∃ F fd ps, MPS.TabF (Lk K) Tt MP.prog 24 F fd ps := by
  obtain ⟨fd, FD⟩ := c.both.1.def_ 9 (d := d24) rfl
  refine ⟨He.glo_ok X G (c.both.1.fact 9 (f := .glo "program_text") rfl), MP.D24, fd, ["items"], ⟨rfl, ⟨["items", "item"], _, _, _, _, _, _, _, 90, FD, ⟨rfl, rfl, rfl, by decide +kernel, rfl, by decide +kernel, by decide +kernel⟩, rfl, rfl, by decide, by kernel_rfl⟩, fun n kn names z => ?_⟩⟩
  simp [Tt] at z
  obtain ⟨rfl, rfl, rfl⟩ := z
  · exact MPS.bnd_of FD (fun _ _ _ _ _ _ us ws hu hw => match us, ws, hu, hw with | [u0], [], _, _ => rfl) fun ms ks as hm hk e => match ms, ks, hm, hk with | [m0], [], _, _ => by simpa [MP.bindF, MP.fillKw, MP.D24, List.lookup] using e.symm
theorem tf25 (X : K.In hp) (G : hp.Ns mainGlobals mg) (c : MPS.SaysM fa fn fx K) : mg "count_items" = some (.ref ((Lk K).fa 25)) ∧ ∃ F fd ps, MPS.TabF (Lk K) Tt MP.prog 25 F fd ps := by
  obtain ⟨fd, FD⟩ := c.both.1.def_ 10 (d := d25) rfl
  refine ⟨He.glo_ok X G (c.both.1.fact 10 (f := .glo "count_items") rfl), MP.D25, fd, ["items"], ⟨rfl, ⟨["items", "kind", "what"], _, _, _, _, _, _, _, 90, FD, ⟨rfl, rfl, rfl, by decide +kernel, rfl, by decide +kernel, by decide +kernel⟩, rfl, rfl, by decide, by kernel_rfl⟩, fun n kn names z => ?_⟩⟩
  simp [Tt] at z
  obtain ⟨rfl, rfl, rfl⟩ := z
  · exact MPS.bnd_of FD (fun _ _ _ _ _ _ us ws hu hw => match us, ws, hu, hw with | [u0], [], _, _ => rfl) fun ms ks as hm hk e => match ms, ks, hm, hk with | [m0], [], _, _ => by simpa [MP.bindF, MP.fillKw, MP.D25, List.lookup] using e.symm
theorem tf11 (X : K.In hp) (G : hp.Ns mainGlobals mg) (c : MPS.SaysM fa fn fx K) : mg "_law_drawn" = some (.ref ((Lk K).fa 11)) ∧ ∃ F fd ps, MPS.TabF (Lk K) Tt MP.prog 11 F fd ps := by
  obtain ⟨fd, FD⟩ := c.both.1.def_ 11 (d := d11) rfl
  refine ⟨He.glo_ok X G (c.both.1.fact 11 (f := .glo "_law_drawn") rfl), MP.D11, fd, ["_law_script", "_law_k", "_law_many"], ⟨rfl, ⟨["_law_script", "_law_k", "_law_many", "_law_cell", "_law_turn", "_law_rest"], _, _, _, _, _, _, _, 90, FD, ⟨rfl, rfl, rfl, by decide +kernel, rfl, by decide +kernel, by decide +kernel⟩, rfl, rfl, by decide, by kernel_rfl⟩, fun n kn names z => ?_⟩⟩
  simp [Tt] at z
  obtain ⟨rfl, rfl, rfl⟩ := z
  · exact MPS.bnd_of FD (fun _ _ _ _ _ _ us ws hu hw => match us, ws, hu, hw with | [u0, u1, u2], [], _, _ => rfl) fun ms ks as hm hk e => match ms, ks, hm, hk with | [m0, m1, m2], [], _, _ => by simpa [MP.bindF, MP.fillKw, MP.D11, List.lookup] using e.symm
theorem tf12 (X : K.In hp) (G : hp.Ns mainGlobals mg) (c : MPS.SaysM fa fn fx K) : mg "_law_common" = some (.ref ((Lk K).fa 12)) ∧ ∃ F fd ps, MPS.TabF (Lk K) Tt MP.prog 12 F fd ps := by
  obtain ⟨fd, FD⟩ := c.both.1.def_ 12 (d := d12) rfl
  refine ⟨He.glo_ok X G (c.both.1.fact 12 (f := .glo "_law_common") rfl), MP.D12, fd, ["_law_one", "_law_other"], ⟨rfl, ⟨["_law_one", "_law_other"], _, _, _, _, _, _, _, 90, FD, ⟨rfl, rfl, rfl, by decide +kernel, rfl, by decide +kernel, by decide +kernel⟩, rfl, rfl, by decide, by kernel_rfl⟩, fun n kn names z => ?_⟩⟩
  simp [Tt] at z
  obtain ⟨rfl, rfl, rfl⟩ := z
  · exact MPS.bnd_of FD (fun _ _ _ _ _ _ us ws hu hw => match us, ws, hu, hw with | [u0, u1], [], _, _ => rfl) fun ms ks as hm hk e => match ms, ks, hm, hk with | [m0, m1], [], _, _ => by simpa [MP.bindF, MP.fillKw, MP.D12, List.lookup] using e.symm
theorem tf13 (X : K.In hp) (G : hp.Ns mainGlobals mg) (c : MPS.SaysM fa fn fx K) : mg "_law_made" = some (.ref ((Lk K).fa 13)) ∧ ∃ F fd ps, MPS.TabF (Lk K) Tt MP.prog 13 F fd ps := by
  obtain ⟨fd, FD⟩ := c.both.1.def_ 13 (d := d13) rfl
  refine ⟨He.glo_ok X G (c.both.1.fact 13 (f := .glo "_law_made") rfl), MP.D13, fd, ["_law_above", "_law_below"], ⟨rfl, ⟨["_law_above", "_law_below", "_law_size"], _, _, _, _, _, _, _, 90, FD, ⟨rfl, rfl, rfl, by decide +kernel, rfl, by decide +kernel, by decide +kernel⟩, rfl, rfl, by decide, by kernel_rfl⟩, fun n kn names z => ?_⟩⟩
  simp [Tt] at z
  obtain ⟨rfl, rfl, rfl⟩ := z
  · exact MPS.bnd_of FD (fun _ _ _ _ _ _ us ws hu hw => match us, ws, hu, hw with | [u0, u1], [], _, _ => rfl) fun ms ks as hm hk e => match ms, ks, hm, hk with | [m0, m1], [], _, _ => by simpa [MP.bindF, MP.fillKw, MP.D13, List.lookup] using e.symm
theorem tf26 (X : K.In hp) (G : hp.Ns mainGlobals mg) (c : MPS.SaysM fa fn fx K) : mg "_law_number" = some (.ref ((Lk K).fa 26)) ∧ ∃ F fd ps, MPS.TabF (Lk K) Tt MP.prog 26 F fd ps := by
  obtain ⟨fd, FD⟩ := c.both.1.def_ 14 (d := d26) rfl
  refine ⟨He.glo_ok X G (c.both.1.fact 14 (f := .glo "_law_number") rfl), MP.D26, fd, ["_law_script", "_law_at"], ⟨rfl, ⟨["_law_script", "_law_at", "_law_below"], _, _, _, _, _, _, _, 90, FD, ⟨rfl, rfl, rfl, by decide +kernel, rfl, by decide +kernel, by decide +kernel⟩, rfl, rfl, by decide, by kernel_rfl⟩, fun n kn names z => ?_⟩⟩
  simp [Tt] at z
  obtain ⟨rfl, rfl, rfl⟩ := z
  · exact MPS.bnd_of FD (fun _ _ _ _ _ _ us ws hu hw => match us, ws, hu, hw with | [u0, u1], [], _, _ => rfl) fun ms ks as hm hk e => match ms, ks, hm, hk with | [m0, m1], [], _, _ => by simpa [MP.bindF, MP.fillKw, MP.D26, List.lookup] using e.symm
theorem tf14 (X : K.In hp) (G : hp.Ns mainGlobals mg) (c : MPS.SaysM fa fn fx K) : mg "_law_text" = some (.ref ((Lk K).fa 14)) ∧ ∃ F fd ps, MPS.TabF (Lk K) Tt MP.prog 14 F fd ps := by
  obtain ⟨fd, FD⟩ := c.both.1.def_ 15 (d := d14) rfl
  refine ⟨He.glo_ok X G (c.both.1.fact 15 (f := .glo "_law_text") rfl), MP.D14, fd, ["_law_one"], ⟨rfl, ⟨["_law_one"], _, _, _, _, _, _, _, 90, FD, ⟨rfl, rfl, rfl, by decide +kernel, rfl, by decide +kernel, by decide +kernel⟩, rfl, rfl, by decide, by kernel_rfl⟩, fun n kn names z => ?_⟩⟩
  simp [Tt] at z
  obtain ⟨rfl, rfl, rfl⟩ := z
  · exact MPS.bnd_of FD (fun _ _ _ _ _ _ us ws hu hw => match us, ws, hu, hw with | [u0], [], _, _ => rfl) fun ms ks as hm hk e => match ms, ks, hm, hk with | [m0], [], _, _ => by simpa [MP.bindF, MP.fillKw, MP.D14, List.lookup] using e.symm
theorem tf27 (X : K.In hp) (G : hp.Ns mainGlobals mg) (c : MPS.SaysM fa fn fx K) : mg "_law_item_text" = some (.ref ((Lk K).fa 27)) ∧ ∃ F fd ps, MPS.TabF (Lk K) Tt MP.prog 27 F fd ps := by
  obtain ⟨fd, FD⟩ := c.both.1.def_ 16 (d := d27) rfl
  refine ⟨He.glo_ok X G (c.both.1.fact 16 (f := .glo "_law_item_text") rfl), MP.D27, fd, ["_law_item_here"], ⟨rfl, ⟨["_law_item_here", "_law_kind", "_law_what", "_law_one"], _, _, _, _, _, _, _, 90, FD, ⟨rfl, rfl, rfl, by decide +kernel, rfl, by decide +kernel, by decide +kernel⟩, rfl, rfl, by decide, by kernel_rfl⟩, fun n kn names z => ?_⟩⟩
  simp [Tt] at z
  obtain ⟨rfl, rfl, rfl⟩ := z
  · exact MPS.bnd_of FD (fun _ _ _ _ _ _ us ws hu hw => match us, ws, hu, hw with | [u0], [], _, _ => rfl) fun ms ks as hm hk e => match ms, ks, hm, hk with | [m0], [], _, _ => by simpa [MP.bindF, MP.fillKw, MP.D27, List.lookup] using e.symm
theorem tf28 (X : K.In hp) (G : hp.Ns mainGlobals mg) (c : MPS.SaysM fa fn fx K) : mg "_law_write" = some (.ref ((Lk K).fa 28)) ∧ ∃ F fd ps, MPS.TabF (Lk K) Tt MP.prog 28 F fd ps := by
  obtain ⟨fd, FD⟩ := c.both.1.def_ 17 (d := d28) rfl
  refine ⟨He.glo_ok X G (c.both.1.fact 17 (f := .glo "_law_write") rfl), MP.D28, fd, ["_law_items_here"], ⟨rfl, ⟨["_law_items_here", "_law_item_here"], _, _, _, _, _, _, _, 90, FD, ⟨rfl, rfl, rfl, by decide +kernel, rfl, by decide +kernel, by decide +kernel⟩, rfl, rfl, by decide, by kernel_rfl⟩, fun n kn names z => ?_⟩⟩
  simp [Tt] at z
  obtain ⟨rfl, rfl, rfl⟩ := z
  · exact MPS.bnd_of FD (fun _ _ _ _ _ _ us ws hu hw => match us, ws, hu, hw with | [u0], [], _, _ => rfl) fun ms ks as hm hk e => match ms, ks, hm, hk with | [m0], [], _, _ => by simpa [MP.bindF, MP.fillKw, MP.D28, List.lookup] using e.symm
theorem tf29 (X : K.In hp) (G : hp.Ns mainGlobals mg) (c : MPS.SaysM fa fn fx K) : mg "_law_item" = some (.ref ((Lk K).fa 29)) ∧ ∃ F fd ps, MPS.TabF (Lk K) Tt MP.prog 29 F fd ps := by
  obtain ⟨fd, FD⟩ := c.both.1.def_ 18 (d := d29) rfl
  refine ⟨He.glo_ok X G (c.both.1.fact 18 (f := .glo "_law_item") rfl), MP.D29, fd, ["_law_script", "_law_at", "_law_deep"], ⟨rfl, ⟨["_law_script", "_law_at", "_law_deep", "_law_kind", "_law_many", "_law_words", "_law_word", "_law_k"], _, _, _, _, _, _, _, 90, FD, ⟨rfl, rfl, rfl, by decide +kernel, rfl, by decide +kernel, by decide +kernel⟩, rfl, rfl, by decide, by kernel_rfl⟩, fun n kn names z => ?_⟩⟩
  simp [Tt] at z
  obtain ⟨rfl, rfl, rfl⟩ := z
  · exact MPS.bnd_of FD (fun _ _ _ _ _ _ us ws hu hw => match us, ws, hu, hw with | [u0, u1, u2], [], _, _ => rfl) fun ms ks as hm hk e => match ms, ks, hm, hk with | [m0, m1, m2], [], _, _ => by simpa [MP.bindF, MP.fillKw, MP.D29, List.lookup] using e.symm
theorem tf30 (X : K.In hp) (G : hp.Ns mainGlobals mg) (c : MPS.SaysM fa fn fx K) : mg "_law_items" = some (.ref ((Lk K).fa 30)) ∧ ∃ F fd ps, MPS.TabF (Lk K) Tt MP.prog 30 F fd ps := by
  obtain ⟨fd, FD⟩ := c.both.1.def_ 19 (d := d30) rfl
  refine ⟨He.glo_ok X G (c.both.1.fact 19 (f := .glo "_law_items") rfl), MP.D30, fd, ["_law_script", "_law_at", "_law_many", "_law_deep"], ⟨rfl, ⟨["_law_script", "_law_at", "_law_many", "_law_deep", "_law_k"], _, _, _, _, _, _, _, 90, FD, ⟨rfl, rfl, rfl, by decide +kernel, rfl, by decide +kernel, by decide +kernel⟩, rfl, rfl, by decide, by kernel_rfl⟩, fun n kn names z => ?_⟩⟩
  simp [Tt] at z
  obtain ⟨rfl, rfl, rfl⟩ := z
  · exact MPS.bnd_of FD (fun _ _ _ _ _ _ us ws hu hw => match us, ws, hu, hw with | [u0, u1, u2, u3], [], _, _ => rfl) fun ms ks as hm hk e => match ms, ks, hm, hk with | [m0, m1, m2, m3], [], _, _ => by simpa [MP.bindF, MP.fillKw, MP.D30, List.lookup] using e.symm
theorem tf31 (X : K.In hp) (G : hp.Ns mainGlobals mg) (c : MPS.SaysM fa fn fx K) : mg "_law_counted" = some (.ref ((Lk K).fa 31)) ∧ ∃ F fd ps, MPS.TabF (Lk K) Tt MP.prog 31 F fd ps := by
  obtain ⟨fd, FD⟩ := c.both.1.def_ 20 (d := d31) rfl
  refine ⟨He.glo_ok X G (c.both.1.fact 20 (f := .glo "_law_counted") rfl), MP.D31, fd, ["_law_items_here"], ⟨rfl, ⟨["_law_items_here", "_law_many", "_law_kind", "_law_what"], _, _, _, _, _, _, _, 90, FD, ⟨rfl, rfl, rfl, by decide +kernel, rfl, by decide +kernel, by decide +kernel⟩, rfl, rfl, by decide, by kernel_rfl⟩, fun n kn names z => ?_⟩⟩
  simp [Tt] at z
  obtain ⟨rfl, rfl, rfl⟩ := z
  · exact MPS.bnd_of FD (fun _ _ _ _ _ _ us ws hu hw => match us, ws, hu, hw with | [u0], [], _, _ => rfl) fun ms ks as hm hk e => match ms, ks, hm, hk with | [m0], [], _, _ => by simpa [MP.bindF, MP.fillKw, MP.D31, List.lookup] using e.symm
theorem tf15 (X : K.In hp) (G : hp.Ns mainGlobals mg) (c : MPS.SaysM fa fn fx K) : mg "_law_no" = some (.ref ((Lk K).fa 15)) ∧ ∃ F fd ps, MPS.TabF (Lk K) Tt MP.prog 15 F fd ps := by
  obtain ⟨fd, FD⟩ := c.both.1.def_ 21 (d := d15) rfl
  refine ⟨He.glo_ok X G (c.both.1.fact 21 (f := .glo "_law_no") rfl), MP.D15, fd, ["_law_thing"], ⟨rfl, ⟨["_law_thing", "e"], _, _, _, _, _, _, _, 90, FD, ⟨rfl, rfl, rfl, by decide +kernel, rfl, by decide +kernel, by decide +kernel⟩, rfl, rfl, by decide, by kernel_rfl⟩, fun n kn names z => ?_⟩⟩
  simp [Tt] at z
  obtain ⟨rfl, rfl, rfl⟩ := z
  · exact MPS.bnd_of FD (fun _ _ _ _ _ _ us ws hu hw => match us, ws, hu, hw with | [u0], [], _, _ => rfl) fun ms ks as hm hk e => match ms, ks, hm, hk with | [m0], [], _, _ => by simpa [MP.bindF, MP.fillKw, MP.D15, List.lookup] using e.symm
theorem tf16 (X : K.In hp) (G : hp.Ns mainGlobals mg) (c : MPS.SaysM fa fn fx K) : mg "law" = some (.ref ((Lk K).fa 16)) ∧ ∃ F fd ps, MPS.TabF (Lk K) Tt MP.prog 16 F fd ps := by
  obtain ⟨fd, FD⟩ := c.both.1.def_ 22 (d := d16) rfl
  refine ⟨He.glo_ok X G (c.both.1.fact 22 (f := .glo "law") rfl), MP.D16, fd, ["_law_script"], ⟨rfl, ⟨["_law_script", "_law_items_here", "_law_kept", "_law_bad", "_law_known", "_law_item_here", "_law_thing"], _, _, _, _, _, _, _, 90, FD, ⟨rfl, rfl, rfl, by decide +kernel, rfl, by decide +kernel, by decide +kernel⟩, rfl, rfl, by decide, by kernel_rfl⟩, fun n kn names z => ?_⟩⟩
  simp [Tt] at z
theorem ti4 (c : MPS.SaysM fa fn fx K) : MPS.InitF (Lk K) 4 ((Lk K).an 18) ((Lk K).an 19) := by
  obtain ⟨fd, FD⟩ := c.both.1.def_ 23 (d := cd4) rfl
  exact ⟨["self", "row", "column"], _, _, _, _, _, _, fd, FD, ⟨rfl, rfl, rfl, by decide +kernel, rfl, by decide +kernel, by decide +kernel⟩, by kernel_rfl, fun _ _ _ _ _ _ us hl => match us, hl with | [_, _, _], _ => rfl⟩
theorem top_ok (X : K.In hp) (G : hp.Ns mainGlobals mg) (c : MPS.SaysM fa fn fx K) : MPS.Top (Lk K) MP.prog Tt mg where
  fns := MPS.AllP.look (P := fun x f => mg x = some (.ref ((Lk K).fa f)) ∧ ∃ F fd ps, MPS.TabF (Lk K) Tt MP.prog f F fd ps) ⟨tf1 X G c, tf2 X G c, tf3 X G c, tf4 X G c, tf7 X G c, tf20 X G c, tf21 X G c, tf22 X G c, tf23 X G c, tf24 X G c, tf25 X G c, tf11 X G c, tf12 X G c, tf13 X G c, tf26 X G c, tf14 X G c, tf27 X G c, tf28 X G c, tf29 X G c, tf30 X G c, tf31 X G c, tf15 X G c, tf16 X G c, trivial⟩
  glb := fun x g v e1 e2 => MPS.AllP.look (P := fun x g => ∀ v, MP.prog.glb g = some v → ∃ u u', mg x = some u' ∧ RelV u u' ∧ ∀ ρ H, MPS.Rep (Lk K) ρ H v u) (l := Tt.glb) ⟨fun v e => by
    cases e
    exact MPS.glb_str (He.str_ok X G (c.both.1.fact 38 (f := .str "LETTERS" "abcdefghijklmnopqrstuvwxyz") rfl)) (by decide +kernel) (by decide +kernel), fun v e => by
    cases e
    exact MPS.glb_int (He.int_ok X G (c.both.1.fact 39 (f := .int "MOST" (10000000000000000000000000000000000000000)) rfl)), fun v e => by
    cases e
    exact MPS.glb_str (He.str_ok X G (c.both.1.fact 40 (f := .str "WORD" "abcdefghijklmnopqrstuvwxyz0123456789-:.") rfl)) (by decide +kernel) (by decide +kernel), trivial⟩ x g e1 v e2
  free := fun x hx => by
    have all : ∀ y ∈ Tt.free, mg y = none := by
      intro y hy
      simp only [Tt, List.mem_cons, List.not_mem_nil, or_false] at hy
      rcases hy with rfl | rfl | rfl | rfl | rfl | rfl | rfl | rfl | rfl | rfl | rfl | rfl
      · exact He.free_ok X G (c.both.1.fact 26 (f := .free "abs") rfl)
      · exact He.free_ok X G (c.both.1.fact 27 (f := .free "all") rfl)
      · exact He.free_ok X G (c.both.1.fact 28 (f := .free "any") rfl)
      · exact He.free_ok X G (c.both.1.fact 29 (f := .free "bool") rfl)
      · exact He.free_ok X G (c.both.1.fact 30 (f := .free "int") rfl)
      · exact He.free_ok X G (c.both.1.fact 31 (f := .free "isinstance") rfl)
      · exact He.free_ok X G (c.both.1.fact 32 (f := .free "len") rfl)
      · exact He.free_ok X G (c.both.1.fact 33 (f := .free "list") rfl)
      · exact He.free_ok X G (c.both.1.fact 34 (f := .free "range") rfl)
      · exact He.free_ok X G (c.both.1.fact 35 (f := .free "str") rfl)
      · exact He.free_ok X G (c.both.1.fact 36 (f := .free "sum") rfl)
      · exact He.free_ok X G (c.both.1.fact 37 (f := .free "tuple") rfl)
    exact all x hx
  clss := MPS.AllP.look (P := fun x q => mg x = some (.ref ((Lk K).ca q)) ∧ q ∈ (Lk K).exs) ⟨⟨He.glo_ok X G (c.both.1.fact 23 (f := .glo "PageError") rfl), (show (1 : Nat) ∈ exs from by decide)⟩, ⟨He.glo_ok X G (c.both.1.fact 24 (f := .glo "NoNumber") rfl), (show (2 : Nat) ∈ exs from by decide)⟩, ⟨He.glo_ok X G (c.both.1.fact 25 (f := .glo "NoProgram") rfl), (show (4 : Nat) ∈ exs from by decide)⟩, trivial⟩
  exc := fun q hq Y C hK hP => MPS.exF_of (nm := cnm) (sup := sup) (fi := fi) hK (fun _ => rfl) (Bool.and_eq_true_iff.mp c.both.2).1 hq (by
    rw [hP]
    have all : ∀ y ∈ exs, ∃ D, MP.prog.cls y = some D ∧ D.sup = sup y ∧ ((fi y = none ∧ D.xfs = []) ∨ ∃ f1 f2, D.xfs = [f1, f2] ∧ fi y = some ((Lk K).an f1, (Lk K).an f2) ∧ (Lk K).an f1 ≠ (Lk K).an f2 ∧ f1 ≠ f2 ∧ MPS.InitF (Lk K) y ((Lk K).an f1) ((Lk K).an f2)) := by
      intro y hy
      simp only [exs, List.mem_cons, List.not_mem_nil, or_false] at hy
      rcases hy with rfl | rfl | rfl
      · exact ⟨_, rfl, rfl, .inl ⟨rfl, rfl⟩⟩
      · exact ⟨_, rfl, rfl, .inl ⟨rfl, rfl⟩⟩
      · exact ⟨_, rfl, rfl, .inr ⟨_, _, rfl, rfl, (show an 18 ≠ an 19 from by decide), by decide, ti4 c⟩⟩
    exact all q hq)
  ats := MPS.AllP.look (P := fun x f => (Lk K).an f = x) ⟨rfl, rfl, trivial⟩
  xcl := by
    intro y hy
    simp [Tt] at hy
    subst hy
    exact ⟨_, _, _, rfl, rfl⟩
theorem law_fd {w : World} {f : Addr} (X : K.In hp) (G : hp.Ns mainGlobals mg) (c : MPS.SaysM fa fn fx K) (hm : mg "law" = some (.ref f)) :
    ∃ fd : FuncData, (∀ (s : Shared) (v : Value), BindsTo s fd ⟨[v], []⟩ [("_law_script", v)]) ∧ ∀ base : Heap, K.In base → base.Ns mainGlobals mg → FnOk (PySem.Challenge.rw_pageloom_k05_items).prog w K mg base (L2.CX (PySem.Challenge.rw_pageloom_k05_items).prog w) (40 + 3) f fd ["_law_script"] (MPS.spM (Lk K) (MP.callD MP.prog 40 16)) := by
  obtain ⟨fd, FD⟩ := c.both.1.def_ 22 (d := d16) rfl
  have e1 := hm.symm.trans (He.glo_ok X G (c.both.1.fact 22 (f := .glo "law") rfl))
  cases e1
  have b := FunD.bindsA (ps := ["_law_script"]) FD fun _ _ _ _ _ _ us hl => match us, hl with | [_], _ => rfl
  refine ⟨fd, fun s v => b s [v] rfl, fun base _ _ => MPS.fns_ok (top_ok X G c) _ w base 40 16 MP.D16 fd ["_law_script"] ⟨rfl, ⟨["_law_script", "_law_items_here", "_law_kept", "_law_bad", "_law_known", "_law_item_here", "_law_thing"], _, _, _, _, _, _, _, 90, FD, ⟨rfl, rfl, rfl, by decide +kernel, rfl, by decide +kernel, by decide +kernel⟩, rfl, rfl, by decide, by kernel_rfl⟩, fun n kn names z => ?_⟩⟩
  simp [Tt] at z
end
end HD
open PySem PySem.W PySem.Calls PyProof.Rows
theorem JOIN_k05 (lawM : ∀ ns : List Int, ns.length ≤ 63 → ∃ h', MP.callD MP.prog 40 16 [.ref 0] [.ro (ns.map MP.V.int)] = .ok (.bl true) h') : PySem.Challenge.rw_pageloom_k05_items.Holds := by
  w_on; o_law
  refine HandSHeadRun.head_any (r := OpenLaw.row PySem.Challenge.rw_pageloom_k05_items) (q := view (OpenLaw.row PySem.Challenge.rw_pageloom_k05_items).prog [32]) (H := HD.hk) (ob := HD.ob) (M := 4000) (loose := HD.loose) (d := HandSHeadRun.topDef (OpenLaw.row PySem.Challenge.rw_pageloom_k05_items).prog 32) (kwd := []) HD.ob_ok
    (by kernel_rfl) (fun s => by kernel_rfl) HD.run (by kernel_rfl) (by kernel_rfl) (by kernel_rfl) (by rfl) (by first | assumption | decide +kernel) (by decide +kernel) ⟨rfl, rfl, rfl, rfl, rfl, by decide +kernel⟩ ?hw ?hc
  case hw => w_witness2
  case hc =>
    refine MPS.walk_M (l := PySem.Challenge.rw_pageloom_k05_items) (n := 63) (k := 40 + 3) (x := "_law_script") rfl (by decide) (by kernel_rfl) ⟨rfl, by decide, by decide⟩ ?F
    intro w mg f hp Y G hmg0
    obtain ⟨K, KX, c⟩ := Y
    have hmg : mg ("law" : PySem.Str) = some (.ref f) := by
      have e : (HandSHeadRun.topDef (OpenLaw.row PySem.Challenge.rw_pageloom_k05_items).prog 32).name = ("law" : PySem.Str) := by kernel_rfl
      rw [← e]
      exact hmg0
    obtain ⟨fd, hb, hF⟩ := HD.law_fd (w := w) KX G c hmg
    exact ⟨K, fd, _, KX, hb, fun H a ns hl hO hS => MPS.law_sp (L := HD.Lk K) hO hS (lawM ns hl), hF⟩
end

section
set_option Elab.async false
set_option linter.all false
set_option maxRecDepth 10000
namespace MP
/-! ### runs, in steps -/
section
variable {α β : Type}
@[simp] theorem bind_ok (a : α) (h : Heap) (f : α → Heap → Res β) : (Res.ok a h).bind f = f a h := rfl
@[simp] theorem bind_exc (x : XV) (h : Heap) (f : α → Heap → Res β) : (Res.exc x h : Res α).bind f = .exc x h := rfl
@[simp] theorem bind_stuck (f : α → Heap → Res β) : (Res.stuck : Res α).bind f = .stuck := rfl
@[simp] theorem fl_ok (env : Env) (a : α) (h : Heap) (f : α → Heap → Fl) : (Res.ok a h).fl env f = f a h := rfl
@[simp] theorem fl_exc (env : Env) (x : XV) (h : Heap) (f : α → Heap → Fl) : (Res.exc x h : Res α).fl env f = .exc x env h := rfl
@[simp] theorem at_nx (env : Env) (h : Heap) (f : Env → Heap → Fl) : (Fl.nx env h).andThen f = f env h := rfl
@[simp] theorem at_ret (v : V) (h : Heap) (f : Env → Heap → Fl) : (Fl.ret v h).andThen f = .ret v h := rfl
@[simp] theorem at_brk (env : Env) (h : Heap) (f : Env → Heap → Fl) : (Fl.brk env h).andThen f = .brk env h := rfl
@[simp] theorem at_ct (env : Env) (h : Heap) (f : Env → Heap → Fl) : (Fl.ct env h).andThen f = .ct env h := rfl
@[simp] theorem at_exc (x : XV) (env : Env) (h : Heap) (f : Env → Heap → Fl) : (Fl.exc x env h).andThen f = .exc x env h := rfl
@[simp] theorem truth_ok (b : Bool) (h : Heap) : truth (.ok (.bl b) h) = .ok b h := rfl
@[simp] theorem truth_exc (x : XV) (h : Heap) : truth (.exc x h) = .exc x h := rfl
@[simp] theorem ofO_some (h : Heap) (v : V) : ofO h (some v) = .ok v h := rfl
@[simp] theorem ofB_some (h : Heap) (b : Bool) : ofB h (some b) = .ok (.bl b) h := rfl
/-! built-ins, by shapes -/
@[simp] theorem bi_len_tup (xs : List V) (h : Heap) : biV .len [.tup xs] h = .ok (.int xs.length) h := rfl
@[simp] theorem bi_len_str (s : List Nat) (h : Heap) : biV .len [.str s] h = if s.length ≤ LINE then .ok (.int s.length) h else .stuck := rfl
theorem ifabs (i : Int) : (if i < 0 then -i else i) = (i.natAbs : Int) := by split <;> omega
@[simp] theorem bi_abs (i : Int) (h : Heap) : biV .abs [.int i] h = .ok (.int i.natAbs) h := by
  show Res.ok (V.int (if i < 0 then -i else i)) h = _
  rw [ifabs]
@[simp] theorem bi_str (i : Int) (h : Heap) : biV .str [.int i] h = if decide (i.natAbs < 2 ^ TXT) then .ok (.str (strI i)) h else .stuck := rfl
@[simp] theorem bi_max (i j : Int) (h : Heap) : biV .max2 [.int i, .int j] h = .ok (.int (if j > i then j else i)) h := rfl
@[simp] theorem bi_min (i j : Int) (h : Heap) : biV .min2 [.int i, .int j] h = .ok (.int (if j < i then j else i)) h := rfl
@[simp] theorem bi_isint (v : V) (h : Heap) : biV .isint [v] h = isK (fun k => k == 2 || k == 1) h v := by cases v <;> rfl
@[simp] theorem bi_isbool (v : V) (h : Heap) : biV .isbool [v] h = isK (fun k => k == 1) h v := by cases v <;> rfl
@[simp] theorem bi_isstr (v : V) (h : Heap) : biV .isstr [v] h = isK (fun k => k == 3) h v := by cases v <;> rfl
@[simp] theorem bi_istup (v : V) (h : Heap) : biV .istuple [v] h = isK (fun k => k == 4) h v := by cases v <;> rfl
@[simp] theorem bi_islst (v : V) (h : Heap) : biV .islist [v] h = isK (fun k => k == 5) h v := by cases v <;> rfl
@[simp] theorem isK_non (f : Nat → Bool) (h : Heap) : isK f h .non = .ok (.bl (f 0)) h := rfl
@[simp] theorem isK_bl (f : Nat → Bool) (h : Heap) (b : Bool) : isK f h (.bl b) = .ok (.bl (f 1)) h := rfl
@[simp] theorem isK_int (f : Nat → Bool) (h : Heap) (i : Int) : isK f h (.int i) = .ok (.bl (f 2)) h := rfl
@[simp] theorem isK_str (f : Nat → Bool) (h : Heap) (s : List Nat) : isK f h (.str s) = .ok (.bl (f 3)) h := rfl
@[simp] theorem isK_tup (f : Nat → Bool) (h : Heap) (xs : List V) : isK f h (.tup xs) = .ok (.bl (f 4)) h := rfl
theorem isK_lst (f : Nat → Bool) (h : Heap) (a : Nat) (xs : List V) (e : listAt h a = some xs) : isK f h (.ref a) = .ok (.bl (f 5)) h := by
  have k : kindV h (.ref a) = some 5 := by
    unfold listAt at e
    show (match h[a]? with
      | some (.lst _) => some 5
      | some (.ro _) => some 5
      | some (.dct _) => some 6
      | some (.ins _ _) => some 7
      | none => none) = some 5
    cases q : h[a]? with
    | none => rw [q] at e; cases e
    | some o => rw [q] at e; cases o <;> first | rfl | cases e
  unfold isK
  rw [k]
/-! targets, by shapes -/
@[simp] theorem asg_nm (C : Ctx) (i : Nat) (v : V) (env : Env) (h : Heap) : asgT C (.nm (.nm i)) v env h = .nx (env.set i (some v)) h := by simp [asgT, bindT]
@[simp] theorem asg_two (C : Ctx) (i j : Nat) (v w : V) (env : Env) (h : Heap) : asgT C (.nm (.tp [.nm i, .nm j])) (.tup [v, w]) env h = .nx ((env.set i (some v)).set j (some w)) h := by simp [asgT, bindT, bindTs]
@[simp] theorem asg_three (C : Ctx) (i j k : Nat) (v w z : V) (env : Env) (h : Heap) : asgT C (.nm (.tp [.nm i, .nm j, .nm k])) (.tup [v, w, z]) env h = .nx (((env.set i (some v)).set j (some w)).set k (some z)) h := by simp [asgT, bindT, bindTs]
/-! operators, by shapes -/
@[simp] theorem add_int (i j : Int) (h : Heap) : binV .add (.int i) (.int j) h = .ok (.int (i + j)) h := rfl
@[simp] theorem sub_int (i j : Int) (h : Heap) : binV .sub (.int i) (.int j) h = .ok (.int (i - j)) h := rfl
theorem mul_int (i j : Int) (h : Heap) (a : small i = true) (b : small j = true) : binV .mul (.int i) (.int j) h = .ok (.int (i * j)) h := by simp [binV, intOp, a, b]
theorem fdiv_int (i j : Int) (h : Heap) (a : j ≠ 0) (b : small j = true) : binV .fdiv (.int i) (.int j) h = .ok (.int (i.fdiv j)) h := by simp [binV, intOp, a, b]
theorem mod_int (i j : Int) (h : Heap) (a : j ≠ 0) : binV .mod (.int i) (.int j) h = .ok (.int (i.fmod j)) h := by simp [binV, intOp, a]
theorem add_str (a b : List Nat) (h : Heap) (l : a.length + b.length ≤ LINE) : binV .add (.str a) (.str b) h = .ok (.str (a ++ b)) h := by simp [binV, l]
@[simp] theorem lt_int (h : Heap) (i j : Int) : cmpV .lt h (.int i) (.int j) = some (decide (i < j)) := rfl
@[simp] theorem le_int (h : Heap) (i j : Int) : cmpV .le h (.int i) (.int j) = some (decide (i ≤ j)) := rfl
@[simp] theorem gt_int (h : Heap) (i j : Int) : cmpV .gt h (.int i) (.int j) = some (decide (j < i)) := rfl
@[simp] theorem ge_int (h : Heap) (i j : Int) : cmpV .ge h (.int i) (.int j) = some (decide (j ≤ i)) := rfl
@[simp] theorem eq_int (h : Heap) (i j : Int) : cmpV .eq h (.int i) (.int j) = some (decide (i = j)) := by simp [cmpV, eqV, deep, deepV, Dt.depth, Dt.eqv]
@[simp] theorem ne_int (h : Heap) (i j : Int) : cmpV .ne h (.int i) (.int j) = some (!decide (i = j)) := by simp [cmpV, eqV, deep, deepV, Dt.depth, Dt.eqv]
@[simp] theorem eq_str (h : Heap) (i j : List Nat) : cmpV .eq h (.str i) (.str j) = some (decide (i = j)) := by simp [cmpV, eqV, deep, deepV, Dt.depth, Dt.eqv]
@[simp] theorem ne_str (h : Heap) (i j : List Nat) : cmpV .ne h (.str i) (.str j) = some (!decide (i = j)) := by simp [cmpV, eqV, deep, deepV, Dt.depth, Dt.eqv]
@[simp] theorem is_non (h : Heap) (v : V) : cmpV .is_ h v .non = some (decide (v = .non)) := rfl
@[simp] theorem isnot_non (h : Heap) (v : V) : cmpV .isnot h v .non = some (!decide (v = .non)) := rfl
@[simp] theorem is_bl (h : Heap) (a b : Bool) : cmpV .is_ h (.bl a) (.bl b) = some (decide (a = b)) := rfl
@[simp] theorem isnot_bl (h : Heap) (a b : Bool) : cmpV .isnot h (.bl a) (.bl b) = some (!decide (a = b)) := rfl
end
theorem okPre_refl (n : Nat) : ∀ h : Heap, okPre n h h = true
  | [] => rfl
  | o :: h => by simp [okPre, okPre_refl n h]
theorem okPre_app (n : Nat) : ∀ h l : Heap, okPre n h (h ++ l) = true
  | [], _ => rfl
  | o :: h, l => by simp [okPre, okPre_app n h l]
@[simp] theorem gcR_same (h : Heap) (v : V) : gcR h (.ok v h) = .ok v h := by
  simp [gcR]
@[simp] theorem gcR_stuck (h : Heap) : gcR h .stuck = .stuck := rfl
@[simp] theorem gcR_exc (h h1 : Heap) (x : XV) : gcR h (.exc x h1) = .exc x h1 := rfl
theorem gcR_app (h l : Heap) (v : V) : gcR h (.ok v (h ++ l)) = if v.lo h.length then .ok v h else .ok v (h ++ l) := by
  simp [gcR, okPre_app]
@[simp] theorem gcF_same (h : Heap) (v : V) : gcF h v h = .ok v h := by
  unfold gcF
  split
  · simp
  · split
    · split
      · split
        · rename_i xs e c
          have := (List.getElem?_eq_some_iff.mp e).1
          simp at c
          omega
        · rfl
      · rfl
    · rfl
theorem gcF_lo (h l : Heap) (v : V) (hv : v.lo h.length = true) : gcF h v (h ++ l) = .ok v h := by
  simp [gcF, okPre_app, hv]
@[simp] theorem gcX_same (h : Heap) (x : XV) : gcX h x h = .exc x h := by
  simp [gcX]
theorem gcX_app (h l : Heap) (c : Nat) : gcX h ⟨c, []⟩ (h ++ l) = .exc ⟨c, []⟩ h := by
  simp [gcX, okPre_app]
@[simp] theorem finish_nx (h h1 : Heap) (env : Env) : finish h (.nx env h1) = gcF h .non h1 := rfl
@[simp] theorem finish_ret (h h1 : Heap) (v : V) : finish h (.ret v h1) = gcF h v h1 := rfl
@[simp] theorem finish_exc (h h1 : Heap) (x : XV) (env : Env) : finish h (.exc x env h1) = gcX h x h1 := rfl
/-- a call of a function that stands in the table -/
theorem callD_of {P : Prog} {d f : Nat} {as : List V} {h : Heap} {F : FnD} (hf : P.fns f = some F) (hl : as.length = F.nparams) : callD P (d + 1) f as h = finish h (evSs ⟨P, callD P d, none⟩ F.body (startE F as) h) := by
  simp [callD, hf, hl]
theorem small_of {i : Int} {n : Nat} (hn : n ≤ 8000) (h : i.natAbs < 2 ^ n) : small i = true := by
  unfold small
  rw [BITS_eq]
  exact decide_eq_true (Nat.lt_of_lt_of_le h (Nat.pow_le_pow_right (by omega) hn))
end MP
namespace MP
/-- a comprehension that leaves the heap as it is: a filter and a map -/
theorem comp_map {f : Env → Heap → Res V} {t : Env → Heap → Res Bool} {env : Env} {tg : Tg} {st : List (Nat × Obj)} {h : Heap} (p : V → Bool) (g : V → V) : ∀ (xs : List V) (acc : List V), acc.length + xs.length ≤ LINE → (∀ l, stays (h ++ [.lst l]) st = true) →
    (∀ x ∈ xs, ∀ l, ∃ e1, bindT (h ++ [.lst l]) tg x env = some e1 ∧ t e1 (h ++ [.lst l]) = .ok (p x) (h ++ [.lst l]) ∧ (p x = true → gcR (h ++ [.lst l]) (f e1 (h ++ [.lst l])) = .ok (g x) (h ++ [.lst l]))) →
    compL f t env tg st h.length xs (h ++ [.lst acc]) = .ok (.ref h.length) (h ++ [.lst (acc ++ (xs.filter p).map g)])
  | [], acc, _, hs, _ => by simp [compL, hs]
  | x :: xs, acc, hl, hs, hx => by
    obtain ⟨e1, b1, b2, b3⟩ := hx x (by simp) acc
    simp only [compL, hs, if_true, b1, b2]
    cases hp : p x with
    | false =>
      simp only
      rw [comp_map p g xs acc (by simp at hl; omega) hs fun y hy => hx y (List.mem_cons_of_mem _ hy)]
      simp [hp]
    | true =>
      simp only [b3 hp]
      have e : (h ++ [Obj.lst acc])[h.length]? = some (.lst acc) := by simp
      rw [e]
      simp only
      simp at hl
      rw [if_pos (by omega)]
      have e2 : (h ++ [Obj.lst acc]).set h.length (.lst (acc ++ [g x])) = h ++ [.lst (acc ++ [g x])] := by simp
      rw [e2, comp_map p g xs (acc ++ [g x]) (by simp; omega) hs fun y hy => hx y (List.mem_cons_of_mem _ hy)]
      simp [hp]
end MP
end

section
set_option Elab.async false
set_option linter.all false
set_option maxRecDepth 10000
namespace MP
/-! ### one step of a run each (no rfl-lemmas: the kernel is not to unfold the recursion) -/
section
variable (C : Ctx) (env : Env) (h : Heap)
@[simp] theorem r_lit (v : V) : evE C (.lit v) env h = .ok v h := by simp only [evE]
@[simp] theorem r_var (i : Nat) : evE C (.var i) env h = ofO h ((env[i]?).join) := by simp only [evE]
@[simp] theorem r_glob (g : Nat) : evE C (.glob g) env h = ofO h (C.P.glb g) := by simp only [evE]
@[simp] theorem r_tup (es : List Ex) : evE C (.tup es) env h = (evEs C es env h).bind fun vs h1 => .ok (.tup vs) h1 := by simp only [evE]
@[simp] theorem r_lst (es : List Ex) : evE C (.lst es) env h = (evEs C es env h).bind fun vs h1 => .ok (.ref h1.length) (h1 ++ [.lst vs]) := by simp only [evE]
@[simp] theorem r_bin (op : Op) (a b : Ex) : evE C (.bin op a b) env h = (evE C a env h).bind fun x h1 => (evE C b env h1).bind fun y h2 => binV op x y h2 := by simp only [evE]
@[simp] theorem r_neg (a : Ex) : evE C (.neg a) env h = (evE C a env h).bind fun x h1 => match x with
    | .int i => .ok (.int (-i)) h1
    | _ => .stuck := by
  first
  | (simp only [evE]; done)
  | (simp only [evE]; rfl)
@[simp] theorem r_and (a b : Ex) : evE C (.and_ a b) env h = (truth (evE C a env h)).bind fun x h1 => if x then (truth (evE C b env h1)).bind fun y h2 => .ok (.bl y) h2 else .ok (.bl false) h1 := by simp only [evE]
@[simp] theorem r_or (a b : Ex) : evE C (.or_ a b) env h = (truth (evE C a env h)).bind fun x h1 => if x then .ok (.bl true) h1 else (truth (evE C b env h1)).bind fun y h2 => .ok (.bl y) h2 := by simp only [evE]
@[simp] theorem r_not (a : Ex) : evE C (.not_ a) env h = (truth (evE C a env h)).bind fun x h1 => .ok (.bl (!x)) h1 := by simp only [evE]
@[simp] theorem r_cmp (op : Cmp) (a b : Ex) : evE C (.cmp op a b) env h = gcR h ((evE C a env h).bind fun x h1 => (evE C b env h1).bind fun y h2 => ofB h2 (cmpV op h2 x y)) := by simp only [evE]
@[simp] theorem r_ite (c a b : Ex) : evE C (.ite c a b) env h = (truth (evE C c env h)).bind fun x h1 => if x then evE C a env h1 else evE C b env h1 := by simp only [evE]
@[simp] theorem r_idx (a i : Ex) : evE C (.idx a i) env h = gcR h ((evE C a env h).bind fun x h1 => (evE C i env h1).bind fun y h2 => ofO h2 (idxV h2 x y)) := by simp only [evE]
@[simp] theorem r_callf (f : Nat) (es : List Ex) (kn : List Nat) (ks : List Ex) : evE C (.callf f es kn ks) env h = gcR h ((evEs C es env h).bind fun vs h1 => (evEs C ks env h1).bind fun ws h2 => match C.P.fns f with
    | some F => match bindF F vs (kn.zip ws) with
      | some as => C.call f as h2
      | none => .stuck
    | none => .stuck) := by
  first
  | (simp only [evE]; done)
  | (simp only [evE]; rfl)
@[simp] theorem r_callb (b : Bi) (es : List Ex) : evE C (.callb b es) env h = gcR h ((evEs C es env h).bind fun vs h1 => biV b vs h1) := by simp only [evE]
@[simp] theorem r_bmeth (o : Ex) (m : Bm) (es : List Ex) : evE C (.bmeth o m es) env h = gcR h ((evE C o env h).bind fun x h1 => if bmT m x h1 then (evEs C es env h1).bind fun vs h2 => bmV m x vs h2 else .stuck) := by simp only [evE]
@[simp] theorem r_nil : evEs C [] env h = .ok [] h := by simp only [evEs]
@[simp] theorem r_cons (e : Ex) (es : List Ex) : evEs C (e :: es) env h = (evE C e env h).bind fun v h1 => (evEs C es env h1).bind fun vs h2 => .ok (v :: vs) h2 := by simp only [evEs]
@[simp] theorem r_asg (t : Tgt) (e : Ex) : evS C (.asg t e) env h = (evE C e env h).fl env fun v h1 => asgT C t v env h1 := by simp only [evS]
@[simp] theorem r_expr (e : Ex) : evS C (.expr e) env h = (evE C e env h).fl env fun _ h1 => .nx env h1 := by simp only [evS]
@[simp] theorem r_ret (e : Ex) : evS C (.ret e) env h = (evE C e env h).fl env fun v h1 => .ret v h1 := by simp only [evS]
@[simp] theorem r_iff (c : Ex) (a b : List St) : evS C (.iff c a b) env h = (truth (evE C c env h)).fl env fun x h1 => if x then evSs C a env h1 else evSs C b env h1 := by simp only [evS]
@[simp] theorem r_whl (c : Ex) (b : List St) : evS C (.whl c b) env h = whlL (fun e g => truth (evE C c e g)) (fun e g => evSs C b e g) ROUNDS env h := by simp only [evS]
@[simp] theorem r_snil : evSs C [] env h = .nx env h := by simp only [evSs]
@[simp] theorem r_scons (s : St) (r : List St) : evSs C (s :: r) env h = (evS C s env h).andThen fun env1 h1 => evSs C r env1 h1 := by simp only [evSs]
end
end MP
end

section
set_option Elab.async false
set_option linter.all false
set_option maxRecDepth 10000
namespace MP
/-! ### figures -/
theorem digs_len {n k : Nat} (hk : 0 < k) (h : n < 10 ^ k) : (digs n).length ≤ k := by
  unfold digs
  rw [List.length_map]
  exact (Nat.length_toDigits_le_iff (by omega) hk).mpr h
theorem digs_pos (n : Nat) : 1 ≤ (digs n).length := by
  unfold digs
  rw [List.length_map]
  exact Nat.length_toDigits_pos
theorem digs_fig (n : Nat) : (digs n).all isFig = true := by
  rw [List.all_eq_true]
  intro c hc
  unfold digs at hc
  obtain ⟨x, hx, rfl⟩ := List.mem_map.mp hc
  have := Nat.isDigit_of_mem_toDigits (by omega) (by omega) hx
  unfold Char.isDigit at this
  simp only [Bool.and_eq_true, decide_eq_true_eq] at this
  unfold isFig
  exact decide_eq_true ⟨this.1, this.2⟩
theorem figVal_map : ∀ (l : List Char) (a : Nat), (l.map Char.toNat).foldl (fun a c => a * 10 + (c - 48)) a = Nat.ofDigitChars 10 l a
  | [], a => by simp [Nat.ofDigitChars]
  | c :: l, a => by
    simp only [List.map_cons, List.foldl_cons]
    rw [figVal_map l]
    simp only [Nat.ofDigitChars, List.foldl_cons]
    congr 1
    show a * 10 + (c.toNat - 48) = 10 * a + (c.toNat - '0'.toNat)
    rw [Nat.mul_comm]
    rfl
theorem figVal_digs (n : Nat) : figVal (digs n) = n := by
  unfold figVal digs
  rw [figVal_map]
  exact Nat.ofDigitChars_toDigits (by omega) (by omega)
end MP
end

section
set_option Elab.async false
set_option linter.all false
set_option maxRecDepth 10000
namespace MP
/-! ### _law_drawn, the same in every law -/
theorem mod_rng (i m : Int) (h : 0 < m) : 0 ≤ i.fmod m ∧ i.fmod m < m := by
  rw [Int.fmod_eq_emod_of_nonneg _ (by omega)]
  exact ⟨Int.emod_nonneg _ (by omega), Int.emod_lt_of_pos _ h⟩
theorem small_rng {i : Int} (h : i.natAbs < 2 ^ 200) : small i = true := small_of (n := 200) (by omega) h
def drawTail : List St :=
 [.asg (.nm (.nm 3)) (.bin .mod (.bin .add (.bin .mul (.bin .mod (.var 3) (.lit (.int 2147483563))) (.lit (.int 69069))) (.bin .mul (.lit (.int 104723)) (.bin .add (.var 1) (.lit (.int 1))))) (.lit (.int 2147483563))),
  .asg (.nm (.nm 3)) (.bin .mod (.bin .add (.bin .mul (.var 3) (.var 3)) (.bin .fdiv (.var 3) (.lit (.int 3)))) (.lit (.int 2147483399))),
  .ret (.bin .mod (.bin .fdiv (.bin .mod (.bin .add (.bin .mul (.var 3) (.var 3)) (.bin .fdiv (.var 3) (.lit (.int 7)))) (.lit (.int 2147483647))) (.lit (.int 11))) (.var 2))]
theorem sm {i : Int} (h : i.natAbs < 2 ^ 100) : small i = true := small_of (n := 100) (by omega) h
theorem draw_tail (C : Ctx) (h : Heap) (s o4 o5 : Option V) (k many cell : Int) (hk : 0 ≤ k) (hk2 : k < 2 ^ 40) (hm : 0 < many) : ∃ r, 0 ≤ r ∧ r < many ∧ evSs C drawTail [s, some (.int k), some (.int many), some (.int cell), o4, o5] h = .ret (.int r) h := by
  unfold drawTail
  obtain ⟨a1, a2⟩ := mod_rng cell 2147483563 (by omega)
  have e1 : evE C (.bin .mod (.bin .add (.bin .mul (.bin .mod (.var 3) (.lit (.int 2147483563))) (.lit (.int 69069))) (.bin .mul (.lit (.int 104723)) (.bin .add (.var 1) (.lit (.int 1))))) (.lit (.int 2147483563))) [s, some (.int k), some (.int many), some (.int cell), o4, o5] h = .ok (.int (((cell.fmod 2147483563) * 69069 + 104723 * (k + 1)).fmod 2147483563)) h := by
    have m1 := mod_int cell 2147483563 h (by omega)
    generalize cell.fmod 2147483563 = x at a1 a2 m1 ⊢
    have m2 := mul_int x 69069 h (sm (by omega)) (sm (by omega))
    have m3 := mul_int 104723 (k + 1) h (sm (by omega)) (sm (by omega))
    have m4 := mod_int (x * 69069 + 104723 * (k + 1)) 2147483563 h (by omega)
    simp [m1, m2, m3, m4]
  obtain ⟨b1, b2⟩ := mod_rng (cell.fmod 2147483563 * 69069 + 104723 * (k + 1)) 2147483563 (by omega)
  generalize (cell.fmod 2147483563 * 69069 + 104723 * (k + 1)).fmod 2147483563 = x at e1 b1 b2
  have sq : ∀ y : Int, 0 ≤ y → y < 2147483563 → small y = true := fun y h1 h2 => sm (by omega)
  have e2 : evE C (.bin .mod (.bin .add (.bin .mul (.var 3) (.var 3)) (.bin .fdiv (.var 3) (.lit (.int 3)))) (.lit (.int 2147483399))) [s, some (.int k), some (.int many), some (.int x), o4, o5] h = .ok (.int ((x * x + x.fdiv 3).fmod 2147483399)) h := by
    have m1 := mul_int x x h (sq x b1 b2) (sq x b1 b2)
    have m2 := fdiv_int x 3 h (by omega) (sm (by omega))
    have m3 := mod_int (x * x + x.fdiv 3) 2147483399 h (by omega)
    simp [m1, m2, m3]
  obtain ⟨d1, d2⟩ := mod_rng (x * x + x.fdiv 3) 2147483399 (by omega)
  generalize (x * x + x.fdiv 3).fmod 2147483399 = y at e2 d1 d2
  have e3 : evE C (.bin .mod (.bin .fdiv (.bin .mod (.bin .add (.bin .mul (.var 3) (.var 3)) (.bin .fdiv (.var 3) (.lit (.int 7)))) (.lit (.int 2147483647))) (.lit (.int 11))) (.var 2)) [s, some (.int k), some (.int many), some (.int y), o4, o5] h = .ok (.int ((((y * y + y.fdiv 7).fmod 2147483647).fdiv 11).fmod many)) h := by
    have m1 := mul_int y y h (sq y d1 (by omega)) (sq y d1 (by omega))
    have m2 := fdiv_int y 7 h (by omega) (sm (by omega))
    have m3 := mod_int (y * y + y.fdiv 7) 2147483647 h (by omega)
    have m4 := fdiv_int ((y * y + y.fdiv 7).fmod 2147483647) 11 h (by omega) (sm (by omega))
    have m5 := mod_int (((y * y + y.fdiv 7).fmod 2147483647).fdiv 11) many h (by omega)
    simp [m1, m2, m3, m4, m5]
  obtain ⟨r1, r2⟩ := mod_rng (((y * y + y.fdiv 7).fmod 2147483647).fdiv 11) many hm
  refine ⟨_, r1, r2, ?_⟩
  rw [r_scons, r_asg, e1, fl_ok, asg_nm, at_nx]
  show evSs C _ [s, some (.int k), some (.int many), some (.int x), o4, o5] h = _
  rw [r_scons, r_asg, e2, fl_ok, asg_nm, at_nx]
  show evSs C _ [s, some (.int k), some (.int many), some (.int y), o4, o5] h = _
  rw [r_scons, r_ret, e3]
  simp
theorem draw_loop (C : Ctx) (h : Heap) (s o1 o2 o3 : Option V) : ∀ (t n : Nat) (r : Int), t < n → ∃ r' t' : Int, whlL (fun e g => truth (evE C (.and_ (.cmp .gt (.var 5) (.lit (.int 0))) (.cmp .gt (.var 4) (.lit (.int 0)))) e g)) (fun e g => evSs C [.asg (.nm (.nm 5)) (.bin .fdiv (.var 5) (.lit (.int 1000000))), .asg (.nm (.nm 4)) (.bin .sub (.var 4) (.lit (.int 1)))] e g) n [s, o1, o2, o3, some (.int (t : Int)), some (.int r)] h = .nx [s, o1, o2, o3, some (.int t'), some (.int r')] h := by
  have test : ∀ (t r : Int), truth (evE C (.and_ (.cmp .gt (.var 5) (.lit (.int 0))) (.cmp .gt (.var 4) (.lit (.int 0)))) [s, o1, o2, o3, some (.int t), some (.int r)] h) = .ok (decide (0 < r) && decide (0 < t)) h := by
    intro t r
    by_cases h1 : 0 < r
    · simp [h1]
    · simp [h1]
  have body : ∀ (t r : Int), evSs C [.asg (.nm (.nm 5)) (.bin .fdiv (.var 5) (.lit (.int 1000000))), .asg (.nm (.nm 4)) (.bin .sub (.var 4) (.lit (.int 1)))] [s, o1, o2, o3, some (.int t), some (.int r)] h = .nx [s, o1, o2, o3, some (.int (t - 1)), some (.int (r.fdiv 1000000))] h := by
    intro t r
    have m := fdiv_int r 1000000 h (by omega) (sm (by omega))
    simp [m]
  intro t
  induction t with
  | zero =>
    intro n r hn
    obtain ⟨n, rfl⟩ : ∃ m, n = m + 1 := ⟨n - 1, by omega⟩
    exact ⟨r, 0, by rw [whlL, test, fl_ok, if_neg (by simp)]; rfl⟩
  | succ t ih =>
    intro n r hn
    obtain ⟨n, rfl⟩ : ∃ m, n = m + 1 := ⟨n - 1, by omega⟩
    rw [whlL, test, fl_ok]
    by_cases h1 : 0 < r
    · rw [if_pos (by simp [h1]), body]
      obtain ⟨r', t', e⟩ := ih n (r.fdiv 1000000) (by omega)
      refine ⟨r', t', ?_⟩
      have : ((t + 1 : Nat) : Int) - 1 = (t : Int) := by omega
      rw [this]
      exact e
    · rw [if_neg (by simp [h1])]
      exact ⟨r, _, rfl⟩
end MP
end

section
set_option Elab.async false
set_option linter.all false
set_option maxRecDepth 10000
namespace MP
/-! ### runs in a greater heap: addresses shifted -/
mutual
def V.sh (k : Nat) : V → V
  | .tup xs => .tup (V.shs k xs)
  | .ref a => .ref (k + a)
  | .non => .non
  | .bl b => .bl b
  | .int i => .int i
  | .str s => .str s
  | .fn f => .fn f
  | .cls c => .cls c
def V.shs (k : Nat) : List V → List V
  | [] => []
  | x :: xs => V.sh k x :: V.shs k xs
end
theorem shs_map (k : Nat) : ∀ xs : List V, V.shs k xs = xs.map (V.sh k)
  | [] => rfl
  | x :: xs => by simp [V.shs, shs_map k xs]
section
variable (k : Nat)
@[simp] theorem sh_tup (xs : List V) : V.sh k (.tup xs) = .tup (xs.map (V.sh k)) := by rw [V.sh, shs_map]
@[simp] theorem sh_ref (a : Nat) : V.sh k (.ref a) = .ref (k + a) := by rw [V.sh]
@[simp] theorem sh_non : V.sh k .non = .non := by rw [V.sh]
@[simp] theorem sh_bl (b : Bool) : V.sh k (.bl b) = .bl b := by rw [V.sh]
@[simp] theorem sh_int (b : Int) : V.sh k (.int b) = .int b := by rw [V.sh]
@[simp] theorem sh_str (b : List Nat) : V.sh k (.str b) = .str b := by rw [V.sh]
@[simp] theorem sh_fn (b : Nat) : V.sh k (.fn b) = .fn b := by rw [V.sh]
@[simp] theorem sh_cls (b : Nat) : V.sh k (.cls b) = .cls b := by rw [V.sh]
end
mutual
theorem sh_inj (k : Nat) : ∀ x y : V, V.sh k x = V.sh k y → x = y
  | .tup xs, y, h => by
    cases y <;> simp at h
    rw [← shs_map, ← shs_map] at h
    rw [shs_inj k xs _ h]
  | .ref a, y, h => by cases y <;> simp at h; rw [h]
  | .non, y, h => by cases y <;> simp at h; rfl
  | .bl b, y, h => by cases y <;> simp at h; rw [h]
  | .int b, y, h => by cases y <;> simp at h; rw [h]
  | .str b, y, h => by cases y <;> simp at h; rw [h]
  | .fn b, y, h => by cases y <;> simp at h; rw [h]
  | .cls b, y, h => by cases y <;> simp at h; rw [h]
theorem shs_inj (k : Nat) : ∀ x y : List V, V.shs k x = V.shs k y → x = y
  | [], y, h => by cases y <;> simp [V.shs] at h; rfl
  | a :: x, y, h => by
    cases y with
    | nil => simp [V.shs] at h
    | cons b y =>
      simp [V.shs] at h
      rw [sh_inj k a b h.1, shs_inj k x y h.2]
end
@[simp] theorem sh_eq (k : Nat) (x y : V) : V.sh k x = V.sh k y ↔ x = y := ⟨sh_inj k x y, fun h => h ▸ rfl⟩
@[simp] theorem shm_eq (k : Nat) (x y : List V) : x.map (V.sh k) = y.map (V.sh k) ↔ x = y := by
  rw [← shs_map, ← shs_map]
  exact ⟨shs_inj k x y, fun h => h ▸ rfl⟩
def Obj.sh (k : Nat) : Obj → Obj
  | .lst xs => .lst (xs.map (V.sh k))
  | .ro xs => .ro (xs.map (V.sh k))
  | .dct kvs => .dct (kvs.map fun p => (p.1.sh k, p.2.sh k))
  | .ins c fs => .ins c (fs.map fun p => (p.1, p.2.sh k))
def XV.sh (k : Nat) (x : XV) : XV := ⟨x.c, x.fs.map fun p => (p.1, p.2.sh k)⟩
theorem kv_inj (k : Nat) : ∀ x y : List (V × V), (x.map fun p => (p.1.sh k, p.2.sh k)) = (y.map fun p => (p.1.sh k, p.2.sh k)) → x = y
  | [], y, h => by cases y <;> simp at h; rfl
  | (a, b) :: x, y, h => by
    cases y with
    | nil => simp at h
    | cons q y =>
      obtain ⟨c, d⟩ := q
      simp at h
      rw [h.1.1, h.1.2, kv_inj k x y h.2]
theorem fs_inj (k : Nat) : ∀ x y : List (Nat × V), (x.map fun p => (p.1, p.2.sh k)) = (y.map fun p => (p.1, p.2.sh k)) → x = y
  | [], y, h => by cases y <;> simp at h; rfl
  | (a, b) :: x, y, h => by
    cases y with
    | nil => simp at h
    | cons q y =>
      obtain ⟨c, d⟩ := q
      simp at h
      rw [h.1.1, h.1.2, fs_inj k x y h.2]
@[simp] theorem osh_eq (k : Nat) (x y : Obj) : Obj.sh k x = Obj.sh k y ↔ x = y := by
  refine ⟨fun h => ?_, fun h => h ▸ rfl⟩
  cases x <;> cases y <;> simp [Obj.sh] at h
  · rw [h]
  · rw [h]
  · rw [kv_inj k _ _ h]
  · rw [h.1, fs_inj k _ _ h.2]
mutual
theorem sh_lo (k n : Nat) : ∀ v : V, (V.sh k v).lo (k + n) = v.lo n
  | .tup xs => by rw [V.sh, V.lo, V.lo, shs_lo k n xs]
  | .ref a => by simp [V.lo]
  | .non => by simp [V.lo]
  | .bl b => by simp [V.lo]
  | .int b => by simp [V.lo]
  | .str b => by simp [V.lo]
  | .fn b => by simp [V.lo]
  | .cls b => by simp [V.lo]
theorem shs_lo (k n : Nat) : ∀ v : List V, V.los (k + n) (V.shs k v) = V.los n v
  | [] => rfl
  | x :: xs => by rw [V.shs, V.los, V.los, sh_lo k n x, shs_lo k n xs]
end
theorem shm_lo (k n : Nat) (v : List V) : V.los (k + n) (v.map (V.sh k)) = V.los n v := by rw [← shs_map, shs_lo]
theorem osh_lo (k n : Nat) (o : Obj) : (Obj.sh k o).lo (k + n) = o.lo n := by
  cases o with
  | lst xs => exact shm_lo k n xs
  | ro xs => exact shm_lo k n xs
  | dct kvs => simp [Obj.sh, Obj.lo, List.all_map, Function.comp_def, sh_lo]
  | ins c fs => simp [Obj.sh, Obj.lo, List.all_map, Function.comp_def, sh_lo]
/-- the heap h behind the heap p -/
def up (p h : Heap) : Heap := p ++ h.map (Obj.sh p.length)
section
variable (p : Heap)
@[simp] theorem up_len (h : Heap) : (up p h).length = p.length + h.length := by simp [up]
theorem up_at (h : Heap) (a : Nat) : (up p h)[p.length + a]? = (h[a]?).map (Obj.sh p.length) := by
  unfold up
  rw [List.getElem?_append_right (by omega)]
  simp
theorem up_app (h l : Heap) : up p (h ++ l) = up p h ++ l.map (Obj.sh p.length) := by simp [up]
theorem up_set (h : Heap) (a : Nat) (o : Obj) : up p (h.set a o) = (up p h).set (p.length + a) (o.sh p.length) := by
  unfold up
  rw [List.set_append_right _ _ (by omega), List.map_set]
  simp
theorem up_take (h : Heap) (n : Nat) : up p (h.take n) = (up p h).take (p.length + n) := by
  unfold up
  rw [List.take_append, List.map_take, List.take_of_length_le (l := p) (by omega)]
  simp
theorem okPre_pre (n : Nat) : ∀ p a b : Heap, okPre n (p ++ a) (p ++ b) = okPre n a b
  | [], _, _ => rfl
  | o :: p, a, b => by simp [okPre, okPre_pre n p a b]
theorem okPre_map (k n : Nat) : ∀ a b : Heap, okPre (k + n) (a.map (Obj.sh k)) (b.map (Obj.sh k)) = okPre n a b
  | [], _ => rfl
  | o :: a, [] => rfl
  | o :: a, q :: b => by simp [okPre, okPre_map k n a b, osh_lo]
theorem up_okPre (n : Nat) (h h1 : Heap) : okPre (p.length + n) (up p h) (up p h1) = okPre n h h1 := by
  unfold up
  rw [okPre_pre, okPre_map]
end
/-! ### lists, data -/
section
variable (p h : Heap)
theorem up_listAt (a : Nat) : listAt (up p h) (p.length + a) = (listAt h a).map (List.map (V.sh p.length)) := by
  unfold listAt
  rw [up_at]
  cases h[a]? with
  | none => rfl
  | some o => cases o <;> rfl
theorem up_lstAt (a : Nat) : lstAt (up p h) (p.length + a) = (lstAt h a).map (List.map (V.sh p.length)) := by
  unfold lstAt
  rw [up_at]
  cases h[a]? with
  | none => rfl
  | some o => cases o <;> rfl
end
mutual
theorem sh_deepV (k : Nat) (rd rd' : Nat → Option Dt) (e : ∀ a, rd' (k + a) = rd a) : ∀ v : V, deepV rd' (V.sh k v) = deepV rd v
  | .tup xs => by rw [V.sh, deepV, deepV, shs_deepV k rd rd' e xs]
  | .ref a => by simp [deepV, e]
  | .non => by simp [deepV]
  | .bl b => by simp [deepV]
  | .int b => by simp [deepV]
  | .str b => by simp [deepV]
  | .fn b => by simp [deepV]
  | .cls b => by simp [deepV]
theorem shs_deepV (k : Nat) (rd rd' : Nat → Option Dt) (e : ∀ a, rd' (k + a) = rd a) : ∀ v : List V, deepVs rd' (V.shs k v) = deepVs rd v
  | [] => rfl
  | x :: xs => by rw [V.shs, deepVs, deepVs, sh_deepV k rd rd' e x, shs_deepV k rd rd' e xs]
end
theorem shm_deepVs (k : Nat) (rd rd' : Nat → Option Dt) (e : ∀ a, rd' (k + a) = rd a) (v : List V) : deepVs rd' (v.map (V.sh k)) = deepVs rd v := by
  rw [← shs_map, shs_deepV k rd rd' e]
section
variable (p h : Heap)
theorem up_rdD : ∀ n a, rdD (up p h) n (p.length + a) = rdD h n a
  | 0, _ => rfl
  | n + 1, a => by
    unfold rdD
    rw [up_listAt]
    cases listAt h a with
    | none => rfl
    | some xs =>
      show Option.map _ (deepVs _ (xs.map _)) = _
      rw [shm_deepVs _ (rdD h n) _ (up_rdD n)]
theorem up_deep (v : V) : deep (up p h) (v.sh p.length) = deep h v := sh_deepV _ _ _ (up_rdD p h 4) v
theorem up_eqV (x y : V) : eqV (up p h) (x.sh p.length) (y.sh p.length) = eqV h x y := by
  unfold eqV
  rw [up_deep, up_deep]
theorem sh_flat (k : Nat) (x : V) : flat (x.sh k) = flat x := by cases x <;> simp [flat]
theorem all_flat_sh (k : Nat) (xs : List V) : (xs.map (V.sh k)).all flat = xs.all flat := by
  rw [List.all_map]
  congr 1
  funext z
  exact sh_flat _ z
theorem sh_flatEq (k : Nat) (x y : V) : flatEq (x.sh k) (y.sh k) = flatEq x y := by
  cases x <;> cases y <;> simp [flatEq]
theorem up_inSeq (x : V) (ys : List V) : inSeq (up p h) (x.sh p.length) (ys.map (V.sh p.length)) = inSeq h x ys := by
  unfold inSeq
  rw [up_deep, sh_flat, shm_deepVs _ (rdD h 3) _ (up_rdD p h 3)]
  simp [List.all_map, List.any_map, Function.comp_def, sh_flat, sh_flatEq]
theorem up_inV (x y : V) : inV (up p h) (x.sh p.length) (y.sh p.length) = inV h x y := by
  cases y with
  | ref a =>
    simp only [inV, sh_ref]
    rw [up_at]
    cases h[a]? with
    | none => rfl
    | some o =>
      cases o with
      | lst xs => exact up_inSeq p h x xs
      | ro xs => exact up_inSeq p h x xs
      | dct kvs =>
        have e1 : ∀ v : V, (∀ z, V.sh p.length z = v ↔ z = v) → ((kvs.map fun q : V × V => (q.1.sh p.length, q.2.sh p.length)).any fun q => decide (q.1 = v)) = kvs.any fun q => decide (q.1 = v) := by
          intro v hv
          rw [List.any_map]
          congr 1
          funext q
          simp [Function.comp, hv]
        cases x with
        | str s => exact congrArg some (e1 (.str s) fun z => by cases z <;> simp)
        | int s => exact congrArg some (e1 (.int s) fun z => by cases z <;> simp)
        | _ => simp [Obj.sh]
      | ins c fs => rfl
  | str b =>
    cases x with
    | str a => simp [inV]
    | _ => simp [inV]
  | tup ys => simp [inV, List.all_map, List.any_map, Function.comp_def, sh_flat, sh_flatEq]
  | _ => simp [inV]
theorem sh_isV (k : Nat) (x y : V) : isV (x.sh k) (y.sh k) = isV x y := by
  cases y <;> cases x <;> simp [isV]
theorem up_cmpV (op : Cmp) (x y : V) : cmpV op (up p h) (x.sh p.length) (y.sh p.length) = cmpV op h x y := by
  cases op <;> simp only [cmpV, up_eqV, up_inV, sh_isV]
  all_goals cases x <;> cases y <;> simp
theorem sh_idxL (k : Nat) (xs : List V) (i : V) : idxL (xs.map (V.sh k)) (i.sh k) = (idxL xs i).map (V.sh k) := by
  cases i <;> simp [idxL]
  cases atIdx xs.length _ <;> simp
theorem sh_lookup (k : Nat) (v : V) (hv : ∀ z, V.sh k z = v ↔ z = v) : ∀ kvs : List (V × V), (kvs.map fun q : V × V => (q.1.sh k, q.2.sh k)).lookup v = (kvs.lookup v).map (V.sh k)
  | [] => rfl
  | (a, b) :: r => by
    simp only [List.map_cons, List.lookup]
    have e : (v == V.sh k a) = (v == a) := by
      rw [Bool.eq_iff_iff, beq_iff_eq, beq_iff_eq, eq_comm, hv, eq_comm]
    rw [e, sh_lookup k v hv r]
    cases v == a <;> rfl
theorem sh_flook (k : Nat) (f : Nat) : ∀ fs : List (Nat × V), (fs.map fun q : Nat × V => (q.1, q.2.sh k)).lookup f = (fs.lookup f).map (V.sh k)
  | [] => rfl
  | (a, b) :: r => by
    simp only [List.map_cons, List.lookup]
    rw [sh_flook k f r]
    cases f == a <;> rfl
theorem up_idxV (x i : V) : idxV (up p h) (x.sh p.length) (i.sh p.length) = (idxV h x i).map (V.sh p.length) := by
  cases x with
  | tup xs => simp only [idxV, sh_tup, sh_idxL]
  | str s =>
    cases i <;> simp [idxV]
    split
    · cases atIdx s.length _ <;> simp
      rename_i a
      cases s[a]? <;> simp
    · rfl
  | ref a =>
    simp only [idxV, sh_ref]
    rw [up_at]
    cases h[a]? with
    | none => rfl
    | some o =>
      cases o with
      | lst xs => exact sh_idxL _ xs i
      | ro xs => exact sh_idxL _ xs i
      | dct kvs =>
        cases i with
        | str s => exact sh_lookup _ (.str s) (fun z => by cases z <;> simp) kvs
        | int s => exact sh_lookup _ (.int s) (fun z => by cases z <;> simp) kvs
        | _ => simp [Obj.sh]
      | ins c fs => rfl
  | _ => simp [idxV]
end
end MP
end

section
set_option Elab.async false
set_option linter.all false
set_option maxRecDepth 10000
namespace MP
/-! ### results in a greater heap -/
def Res.up {α : Type} (p : Heap) (g : α → α) : Res α → Res α
  | .ok a h => .ok (g a) (MP.up p h)
  | .exc x h => .exc (x.sh p.length) (MP.up p h)
  | .stuck => .stuck
/-- a run that is not stuck is found again above -/
def RLe {α : Type} (p : Heap) (g : α → α) (a b : Res α) : Prop := a = .stuck ∨ b = a.up p g
section
variable {p : Heap}
theorem RLe.stuck {α : Type} {g : α → α} {b : Res α} : RLe p g .stuck b := .inl rfl
theorem RLe.of {α : Type} {g : α → α} {a b : Res α} (h : b = a.up p g) : RLe p g a b := .inr h
theorem RLe.bind {α β : Type} {g : α → α} {g' : β → β} {a b : Res α} {f f' : α → Heap → Res β} (h : RLe p g a b) (hf : ∀ v q, RLe p g' (f v q) (f' (g v) (up p q))) : RLe p g' (a.bind f) (b.bind f') := by
  rcases h with rfl | rfl
  · exact .stuck
  · cases a with
    | ok v q => exact hf v q
    | exc x q => exact .of rfl
    | stuck => exact .stuck
theorem RLe.truth {a b : Res V} (h : RLe p (V.sh p.length) a b) : RLe p id (MP.truth a) (MP.truth b) := by
  rcases h with rfl | rfl
  · exact .stuck
  · cases a with
    | ok v q => cases v with
      | bl b =>
        refine .of ?_
        simp [Res.up, MP.truth]
      | _ => exact .stuck
    | exc x q => exact .of rfl
    | stuck => exact .stuck
theorem up_ofO (h : Heap) (o : Option V) : RLe p (V.sh p.length) (ofO h o) (ofO (up p h) (o.map (V.sh p.length))) := by
  cases o with
  | none => exact .stuck
  | some v => exact .of rfl
theorem up_ofB (h : Heap) (o : Option Bool) : RLe p (V.sh p.length) (ofB h o) (ofB (up p h) o) := by
  cases o with
  | none => exact .stuck
  | some v => exact .of (by simp [Res.up, ofB])
theorem up_gcR (h : Heap) {a b : Res V} (e : RLe p (V.sh p.length) a b) : RLe p (V.sh p.length) (gcR h a) (gcR (up p h) b) := by
  rcases e with rfl | rfl
  · exact .stuck
  · cases a with
    | ok v q =>
      refine .of ?_
      simp only [Res.up, gcR, up_len, sh_lo, up_okPre]
      split
      · simp [Res.up, up_take]
      · rfl
    | exc x q => exact .of rfl
    | stuck => exact .stuck
theorem up_gcF (h : Heap) (v : V) (q : Heap) : gcF (up p h) (v.sh p.length) (up p q) = (gcF h v q).up p (V.sh p.length) := by
  unfold gcF
  simp only [up_len, sh_lo, up_okPre]
  split
  · simp [Res.up, up_take]
  · cases v with
    | ref a =>
      simp only [sh_ref]
      rw [up_at]
      cases q[a]? with
      | none => simp [Res.up]
      | some o =>
        cases o with
        | lst xs =>
          simp only [Option.map_some, Obj.sh, shm_lo]
          have : decide (p.length + h.length ≤ p.length + a) = decide (h.length ≤ a) := by
            rw [Bool.eq_iff_iff]; simp
          rw [this]
          split
          · simp [Res.up, up_app, up_take, Obj.sh]
          · simp [Res.up]
        | _ => simp [Res.up, Obj.sh]
    | _ => simp [Res.up]
theorem up_gcX (h : Heap) (x : XV) (q : Heap) : gcX (up p h) (x.sh p.length) (up p q) = (gcX h x q).up p (V.sh p.length) := by
  unfold gcX
  have : ((XV.sh p.length x).fs.all fun y => y.2.lo (up p h).length) = (x.fs.all fun y => y.2.lo h.length) := by
    simp [XV.sh, List.all_map, Function.comp_def, sh_lo]
  rw [this, up_len, up_okPre]
  split
  · simp [Res.up, up_take]
  · rfl
/-! operators -/
theorem map_rep {α β : Type} (f : α → β) (xs : List α) (n : Int) : (rep xs n).map f = rep (xs.map f) n := by
  simp [rep, List.map_flatten]
theorem up_binV (op : Op) (x y : V) (h : Heap) : binV op (x.sh p.length) (y.sh p.length) (up p h) = (binV op x y h).up p (V.sh p.length) := by
  cases x with
  | int i =>
    cases y with
    | int j =>
      simp only [binV, sh_int]
      cases intOp op i j <;> simp [Res.up]
    | _ => simp [binV, Res.up]
  | str a =>
    cases y with
    | str b => cases op <;> simp only [binV, sh_str] <;> first | rfl | (split <;> simp [Res.up])
    | int b => cases op <;> simp only [binV, sh_str, sh_int] <;> first | rfl | (split <;> simp [Res.up])
    | _ => simp [binV, Res.up]
  | tup a =>
    cases y with
    | tup b => cases op <;> simp only [binV, sh_tup] <;> first | rfl | (simp only [List.length_map]; split <;> simp [Res.up])
    | int k => 
      cases op <;> simp only [binV, sh_tup, sh_int] <;> first | rfl | skip
      simp only [List.length_map, ne_eq, List.map_eq_nil_iff]
      split <;> simp [Res.up, map_rep]
    | _ => simp [binV, Res.up]
  | ref a =>
    cases y with
    | ref b =>
      cases op <;> simp only [binV, sh_ref, up_lstAt] <;> try rfl
      cases lstAt h a <;> cases lstAt h b <;> simp only [Option.map_some, Option.map_none, List.length_map] <;> first | rfl | skip
      split
      · simp [Res.up, up_app, Obj.sh]
      · rfl
    | int k =>
      cases op <;> simp only [binV, sh_ref, sh_int, up_lstAt] <;> try rfl
      cases lstAt h a <;> simp only [Option.map_some, Option.map_none, List.length_map] <;> first | rfl | skip
      split
      · simp [Res.up, up_app, Obj.sh, map_rep]
      · rfl
    | _ => simp [binV, Res.up]
  | _ => cases y <;> simp [binV, Res.up]
theorem sh_partOf (l : List V) : partOf (l.map (V.sh k)) = (partOf l).map (V.sh k) := by
  cases l with
  | nil => simp [partOf]
  | cons a r =>
    cases r with
    | nil => cases a <;> simp [partOf]
    | cons b r => simp [partOf]
theorem sh_cutAt (n d : Nat) (v : V) : cutAt n d (v.sh k) = cutAt n d v := by cases v <;> simp [cutAt]
theorem sh_slcL (xs : List V) (lo hi : V) : slcL (xs.map (V.sh k)) (lo.sh k) (hi.sh k) = (slcL xs lo hi).map (List.map (V.sh k)) := by
  unfold slcL
  rw [sh_cutAt, sh_cutAt, List.length_map]
  cases cutAt xs.length 0 lo <;> cases cutAt xs.length xs.length hi <;> simp
theorem slcL_sh (s : List Nat) (lo hi : V) : slcL s (lo.sh k) (hi.sh k) = slcL s lo hi := by
  unfold slcL
  rw [sh_cutAt, sh_cutAt]
theorem up_slcV (h : Heap) (x lo hi : V) : slcV (up p h) (x.sh p.length) (lo.sh p.length) (hi.sh p.length) = (slcV h x lo hi).up p (V.sh p.length) := by
  cases x with
  | str s =>
    simp only [slcV, sh_str, slcL_sh]
    split
    · cases slcL s lo hi <;> simp [Res.up]
    · rfl
  | tup xs =>
    simp only [slcV, sh_tup, sh_slcL]
    cases slcL xs lo hi <;> simp [Res.up]
  | ref a =>
    simp only [slcV, sh_ref, up_listAt]
    cases listAt h a with
    | none => rfl
    | some xs =>
      simp only [Option.map_some, sh_slcL]
      cases slcL xs lo hi <;> simp [Res.up, up_app, Obj.sh]
  | _ => simp [slcV, Res.up]
theorem up_revV (h : Heap) (x : V) : revV (up p h) (x.sh p.length) = (revV h x).up p (V.sh p.length) := by
  cases x with
  | ref a =>
    simp only [revV, sh_ref, up_listAt]
    cases listAt h a <;> simp [Res.up, up_app, Obj.sh]
  | tup xs => simp [revV, Res.up]
  | _ => simp [revV, Res.up]
/-! built-ins -/
theorem sh_boolsOf : ∀ l : List V, boolsOf (l.map (V.sh k)) = boolsOf l
  | [] => rfl
  | x :: r => by cases x <;> simp [boolsOf, sh_boolsOf r]
theorem sh_intsOf : ∀ l : List V, intsOf (l.map (V.sh k)) = intsOf l
  | [] => rfl
  | x :: r => by cases x <;> simp [intsOf, sh_intsOf r]
theorem sh_strsOf : ∀ l : List V, strsOf (l.map (V.sh k)) = strsOf l
  | [] => rfl
  | x :: r => by cases x <;> simp [strsOf, sh_strsOf r]
theorem up_seqOf (h : Heap) (x : V) : seqOf (up p h) (x.sh p.length) = (seqOf h x).map (List.map (V.sh p.length)) := by
  cases x <;> simp [seqOf, up_listAt]
theorem sh_zipV : ∀ a b : List V, zipV (a.map (V.sh k)) (b.map (V.sh k)) = (zipV a b).map (V.sh k)
  | [], _ => by simp [zipV]
  | _ :: _, [] => by simp [zipV]
  | x :: a, y :: b => by simp [zipV, sh_zipV a b]
theorem up_kindV (h : Heap) (x : V) : kindV (up p h) (x.sh p.length) = kindV h x := by
  cases x with
  | ref a =>
    simp only [kindV, sh_ref]
    rw [up_at]
    cases h[a]? with
    | none => rfl
    | some o => cases o <;> rfl
  | _ => simp [kindV]
theorem up_isK (f : Nat → Bool) (h : Heap) (x : V) : isK f (up p h) (x.sh p.length) = (isK f h x).up p (V.sh p.length) := by
  unfold isK
  rw [up_kindV]
  cases kindV h x <;> simp [Res.up]
theorem up_biV (b : Bi) (vs : List V) (h : Heap) : biV b (vs.map (V.sh p.length)) (up p h) = (biV b vs h).up p (V.sh p.length) := by
  cases vs with
  | nil => cases b <;> simp [biV, Res.up]
  | cons x r =>
    cases r with
    | nil =>
      cases b <;> try (cases x <;> simp [biV, Res.up] <;> done)
      case len =>
        cases x with
        | str s => simp only [biV, List.map, sh_str]; split <;> simp [Res.up]
        | tup s => simp [biV, Res.up]
        | ref a =>
          simp only [biV, List.map, sh_ref]
          rw [up_at]
          cases h[a]? with
          | none => rfl
          | some o => cases o <;> simp [Obj.sh, Res.up]
        | _ => simp [biV, Res.up]
      case all =>
        cases x with
        | ref a =>
          simp only [biV, List.map, sh_ref, up_listAt]
          cases listAt h a <;> simp [sh_boolsOf, Res.up]
          split <;> simp [Res.up]
        | _ => simp [biV, Res.up]
      case any =>
        cases x with
        | ref a =>
          simp only [biV, List.map, sh_ref, up_listAt]
          cases listAt h a <;> simp [sh_boolsOf, Res.up]
          split <;> simp [Res.up]
        | _ => simp [biV, Res.up]
      case sum =>
        cases x with
        | ref a =>
          simp only [biV, List.map, sh_ref, up_listAt]
          cases listAt h a <;> simp [sh_intsOf, Res.up]
          split <;> simp [Res.up]
        | _ => simp [biV, Res.up]
      case sset =>
        cases x with
        | ref a =>
          simp only [biV, List.map, sh_ref, up_listAt]
          cases listAt h a <;> simp [sh_intsOf, Res.up]
          split
          · split <;> simp [Res.up, up_app, Obj.sh, Function.comp_def]
          · simp [Res.up]
        | _ => simp [biV, Res.up]
      case str =>
        cases x with
        | int i => simp only [biV, List.map, sh_int]; split <;> simp [Res.up]
        | _ => simp [biV, Res.up]
      case int =>
        cases x with
        | str i => simp only [biV, List.map, sh_str]; split <;> simp [Res.up]
        | _ => simp [biV, Res.up]
      case tuple =>
        cases x with
        | ref a =>
          simp only [biV, List.map, sh_ref, up_listAt]
          cases listAt h a <;> simp [Res.up]
        | _ => simp [biV, Res.up]
      case list =>
        show (match seqOf (up p h) (V.sh p.length x) with
          | some xs => Res.ok (V.ref (up p h).length) (up p h ++ [Obj.lst xs])
          | none => .stuck) = _
        rw [up_seqOf]
        show _ = (match seqOf h x with
          | some xs => Res.ok (V.ref h.length) (h ++ [Obj.lst xs])
          | none => .stuck).up p _
        cases seqOf h x <;> simp [Res.up, up_app, Obj.sh]
      case lrng =>
        cases x with
        | int i =>
          simp only [biV, List.map, sh_int]
          split
          · simp [Res.up, up_app, Obj.sh, Function.comp_def]
          · simp [Res.up]
        | _ => simp [biV, Res.up]
      all_goals exact up_isK _ h x
    | cons y r =>
      cases r with
      | nil =>
        cases b <;> try (simp [biV, Res.up] <;> done)
        case max2 => cases x <;> cases y <;> simp [biV, Res.up]
        case min2 => cases x <;> cases y <;> simp [biV, Res.up]
        case ninrng => cases x <;> cases y <;> simp [biV, Res.up]
        case lzip => cases x <;> cases y <;> simp [biV, Res.up, up_app, Obj.sh, sh_zipV]
      | cons z r => cases b <;> simp [biV, Res.up]
end
end MP
end

section
set_option Elab.async false
set_option linter.all false
set_option maxRecDepth 10000
namespace MP
/-! ### methods, environments -/
section
variable {p : Heap} {k : Nat}
theorem up_bmT (m : Bm) (o : V) (h : Heap) : bmT m (o.sh p.length) (up p h) = bmT m o h := by
  cases m <;> cases o <;> simp [bmT, up_lstAt, up_listAt]
theorem map_str (l : List (List Nat)) : (l.map V.str).map (V.sh k) = l.map V.str := by
  rw [List.map_map]
  congr 1
theorem up_bmV (m : Bm) (o : V) (vs : List V) (h : Heap) : bmV m (o.sh p.length) (vs.map (V.sh p.length)) (up p h) = (bmV m o vs h).up p (V.sh p.length) := by
  cases m
  case append =>
    cases o <;> try (simp [bmV, Res.up] <;> done)
    rename_i a
    rcases vs with _ | ⟨x, _ | ⟨y, r⟩⟩ <;> try (simp [bmV, Res.up] <;> done)
    simp only [bmV, List.map, sh_ref]
    rw [up_at]
    cases h[a]? with
    | none => rfl
    | some q =>
      cases q <;> simp only [Option.map_some, Obj.sh, List.length_map] <;> try rfl
      split <;> simp [Res.up, up_set, Obj.sh]
  case pop =>
    cases o <;> try (simp [bmV, Res.up] <;> done)
    rename_i a
    rcases vs with _ | ⟨x, r⟩ <;> try (simp [bmV, Res.up] <;> done)
    simp only [bmV, List.map, sh_ref]
    rw [up_at]
    cases h[a]? with
    | none => rfl
    | some q =>
      cases q <;> simp only [Option.map_some, Obj.sh, List.getLast?_map] <;> try rfl
      rename_i xs
      cases xs.getLast? <;> simp [Res.up, up_set, Obj.sh, List.map_dropLast]
  case join =>
    cases o <;> try (simp [bmV, Res.up] <;> done)
    rcases vs with _ | ⟨x, _ | ⟨y, r⟩⟩ <;> try (simp [bmV, Res.up] <;> done)
    simp only [bmV, List.map, sh_str, up_seqOf]
    cases seqOf h x <;> simp only [Option.map_some, Option.map_none, Option.bind_some, Option.bind_none, sh_strsOf] <;> try rfl
    rename_i xs
    cases strsOf xs <;> simp only <;> try rfl
    split <;> simp [Res.up]
  case split =>
    cases o <;> try (simp [bmV, Res.up] <;> done)
    rcases vs with _ | ⟨x, _ | ⟨y, r⟩⟩ <;> try (simp [bmV, Res.up] <;> done)
    cases x <;> try (simp [bmV, Res.up] <;> done)
    rename_i s c
    rcases c with _ | ⟨c, _ | ⟨d, r⟩⟩ <;> try (simp [bmV, Res.up] <;> done)
    simp only [bmV, List.map, sh_str]
    split <;> simp [Res.up, up_app, Obj.sh, map_str]
  case index =>
    rcases vs with _ | ⟨x, _ | ⟨y, r⟩⟩ <;> try (cases o <;> simp [bmV, Res.up] <;> done)
    cases o <;> try (simp [bmV, Res.up] <;> done)
    · cases x <;> try (simp [bmV, Res.up] <;> done)
      rename_i s c
      rcases c with _ | ⟨c, _ | ⟨d, r⟩⟩ <;> try (simp [bmV, Res.up] <;> done)
      simp only [bmV, List.map, sh_str]
      cases s.idxOf? c <;> simp only <;> try rfl
      split <;> simp [Res.up]
    · simp only [bmV, List.map, sh_ref, up_listAt]
      cases listAt h _ <;> simp only [Option.map_some, Option.map_none] <;> try rfl
      rename_i xs
      have e1 : (xs.map (V.sh p.length)).all flat = xs.all flat := by
        rw [List.all_map]; congr 1; funext z; exact sh_flat _ z
      have e2 : (xs.map (V.sh p.length)).findIdx? (fun y => flatEq y (x.sh p.length)) = xs.findIdx? fun y => flatEq y x := by
        rw [List.findIdx?_map]; congr 1; funext z; exact sh_flatEq _ z x
      rw [e1, sh_flat, e2]
      split
      · cases xs.findIdx? fun y => flatEq y x <;> simp [Res.up]
      · rfl
  case count =>
    rcases vs with _ | ⟨x, _ | ⟨y, r⟩⟩ <;> try (cases o <;> simp [bmV, Res.up] <;> done)
    cases o <;> try (simp [bmV, Res.up] <;> done)
    · cases x <;> try (simp [bmV, Res.up] <;> done)
      rename_i s c
      rcases c with _ | ⟨c, _ | ⟨d, r⟩⟩ <;> try (simp [bmV, Res.up] <;> done)
      simp only [bmV, List.map, sh_str]
      split <;> simp [Res.up]
    · cases x <;> try (simp [bmV, Res.up] <;> done)
      simp only [bmV, List.map, sh_ref, sh_int, up_listAt]
      cases listAt h _ <;> simp only [Option.map_some, Option.map_none, Option.bind_some, Option.bind_none, sh_intsOf] <;> try rfl
      rename_i xs
      cases intsOf xs <;> simp [Res.up]
  case get2 =>
    rcases vs with _ | ⟨x, _ | ⟨y, _ | ⟨z, r⟩⟩⟩ <;> try (cases o <;> simp [bmV, Res.up] <;> done)
    cases o <;> try (simp [bmV, Res.up] <;> done)
    rename_i a
    simp only [bmV, List.map, sh_ref]
    rw [up_at]
    cases h[a]? with
    | none => rfl
    | some q =>
      cases q <;> simp only [Option.map_some, Obj.sh] <;> try rfl
      rename_i kvs
      have e : ∀ kvs : List (V × V), (kvs.map fun q : V × V => (q.1.sh p.length, q.2.sh p.length)).lookup (x.sh p.length) = (kvs.lookup x).map (V.sh p.length) := by
        intro kvs
        induction kvs with
        | nil => rfl
        | cons c r ih =>
          obtain ⟨a, b⟩ := c
          simp only [List.map_cons, List.lookup]
          have e : (x.sh p.length == a.sh p.length) = (x == a) := by
            rw [Bool.eq_iff_iff, beq_iff_eq, beq_iff_eq, sh_eq]
          rw [e, ih]
          cases x == a <;> rfl
      rw [e]
      cases kvs.lookup x <;> simp [Res.up]
/-- the names above: those that have a value below have it above -/
def EnvL (k : Nat) (e e' : Env) : Prop := e.length = e'.length ∧ ∀ (i : Nat) (v : V), (e[i]?).join = some v → (e'[i]?).join = some (v.sh k)
theorem EnvL.set {e e' : Env} (h : EnvL k e e') (i : Nat) (v : V) : EnvL k (e.set i (some v)) (e'.set i (some (v.sh k))) := by
  refine ⟨by simp [h.1], fun j w hw => ?_⟩
  rw [List.getElem?_set] at hw ⊢
  by_cases hij : i = j
  · subst hij
    rw [if_pos rfl] at hw ⊢
    rw [← h.1]
    by_cases hl : i < e.length
    · rw [if_pos hl] at hw ⊢
      simp at hw
      rw [hw]
      rfl
    · rw [if_neg hl] at hw
      cases hw
  · rw [if_neg hij] at hw ⊢
    exact h.2 j w hw
theorem EnvL.clr {e e' : Env} (h : EnvL k e e') (i : Nat) : EnvL k (e.set i none) (e'.set i none) := by
  refine ⟨by simp [h.1], fun j w hw => ?_⟩
  rw [List.getElem?_set] at hw ⊢
  by_cases hij : i = j
  · subst hij
    rw [if_pos rfl] at hw
    by_cases hl : i < e.length
    · rw [if_pos hl] at hw; cases hw
    · rw [if_neg hl] at hw; cases hw
  · rw [if_neg hij] at hw ⊢
    exact h.2 j w hw
theorem EnvL.wipe {e e' : Env} (h : EnvL k e e') : ∀ l : List Nat, EnvL k (wipeE e l) (wipeE e' l)
  | [] => h
  | i :: l => by
    unfold wipeE
    exact (EnvL.wipe h l).clr i
theorem EnvL.unE {e e' : Env} (h : EnvL k e e') : ∀ i : Option Nat, EnvL k (MP.unE i e) (MP.unE i e')
  | none => h
  | some i => h.clr i
theorem EnvL.has {e e' : Env} (h : EnvL k e e') : ∀ i : Option Nat, hasE i e' = hasE i e
  | none => rfl
  | some i => by show decide (i < e'.length) = decide (i < e.length); rw [h.1]
mutual
theorem up_bindT (h : Heap) : ∀ (t : Tg) (v : V) (e e' e1 : Env), EnvL p.length e e' → bindT h t v e = some e1 → ∃ e1', bindT (up p h) t (v.sh p.length) e' = some e1' ∧ EnvL p.length e1 e1'
  | .nm i, v, e, e', e1, he, hb => by
    simp only [bindT, Option.some.injEq] at hb ⊢
    subst hb
    exact ⟨_, rfl, he.set i v⟩
  | .tp ts, v, e, e', e1, he, hb => by
    cases v <;> simp only [bindT, sh_tup, sh_ref, sh_str, sh_int, sh_bl, sh_non, sh_fn, sh_cls] at hb ⊢ <;> try (cases hb; done)
    · exact up_bindTs h ts _ e e' e1 he hb
    · rw [up_listAt]
      rename_i a
      cases hl : listAt h a with
      | none => rw [hl] at hb; cases hb
      | some vs =>
        rw [hl] at hb
        exact up_bindTs h ts vs e e' e1 he hb
theorem up_bindTs (h : Heap) : ∀ (t : List Tg) (v : List V) (e e' e1 : Env), EnvL p.length e e' → bindTs h t v e = some e1 → ∃ e1', bindTs (up p h) t (v.map (V.sh p.length)) e' = some e1' ∧ EnvL p.length e1 e1'
  | [], [], e, e', e1, he, hb => by
    simp only [bindTs, Option.some.injEq] at hb
    subst hb
    exact ⟨e', by simp [bindTs], he⟩
  | [], _ :: _, e, e', e1, he, hb => by simp [bindTs] at hb
  | _ :: _, [], e, e', e1, he, hb => by simp [bindTs] at hb
  | t :: ts, v :: vs, e, e', e1, he, hb => by
    simp only [bindTs, List.map] at hb ⊢
    cases hq : bindT h t v e with
    | none => rw [hq] at hb; cases hb
    | some e2 =>
      rw [hq] at hb
      obtain ⟨e2', q1, q2⟩ := up_bindT h t v e e' e2 he hq
      rw [q1]
      exact up_bindTs h ts vs e2 e2' e1 q2 hb
end
end
end MP
end

section
set_option Elab.async false
set_option linter.all false
set_option maxRecDepth 10000
namespace MP
/-! ### what is walked, loops -/
section
variable {p : Heap} {k : Nat}
theorem sh_enumV : ∀ (n : Nat) (l : List V), enumV n (l.map (V.sh k)) = (enumV n l).map (V.sh k)
  | _, [] => rfl
  | n, x :: r => by simp [enumV, sh_enumV (n + 1) r]
theorem sh_rangeV (a : Int) (n : Nat) (c : Int) : (rangeV a n c).map (V.sh k) = rangeV a n c := by
  unfold rangeV
  rw [List.map_map]
  congr 1
def shP (k : Nat) (q : Nat × Obj) : Nat × Obj := (k + q.1, q.2.sh k)
theorem up_walkOf (h : Heap) (x : V) : walkOf (up p h) (x.sh p.length) = (walkOf h x).map fun q => (q.1.map (V.sh p.length), q.2.map (shP p.length)) := by
  cases x with
  | str s => simp [walkOf]
  | tup s => simp [walkOf]
  | ref a =>
    simp only [walkOf, sh_ref]
    rw [up_at]
    cases h[a]? with
    | none => rfl
    | some o => cases o <;> rfl
  | _ => simp [walkOf]
theorem up_srcOf (s : Src) (vs : List V) (h : Heap) : srcOf s (vs.map (V.sh p.length)) (up p h) = (srcOf s vs h).map fun q => (q.1.map (V.sh p.length), q.2.map (shP p.length)) := by
  cases s
  case val =>
    rcases vs with _ | ⟨x, _ | ⟨y, r⟩⟩ <;> try (simp [srcOf] <;> done)
    simp only [srcOf, List.map, up_walkOf]
    cases walkOf h x with
    | none => rfl
    | some q => obtain ⟨a, _ | b⟩ := q <;> rfl
  case range =>
    rcases vs with _ | ⟨x, _ | ⟨y, _ | ⟨z, _ | ⟨w, r⟩⟩⟩⟩ <;> try (simp [srcOf] <;> done)
    · cases x <;> simp only [srcOf, List.map, sh_int, sh_non, sh_bl, sh_str, sh_tup, sh_ref, sh_fn, sh_cls, Option.map_none]
      split <;> simp [sh_rangeV]
    · cases x <;> cases y <;> simp only [srcOf, List.map, sh_int, sh_non, sh_bl, sh_str, sh_tup, sh_ref, sh_fn, sh_cls, Option.map_none]
      split <;> simp [sh_rangeV]
    · cases x <;> cases y <;> cases z <;> simp only [srcOf, List.map, sh_int, sh_non, sh_bl, sh_str, sh_tup, sh_ref, sh_fn, sh_cls, Option.map_none]
      split <;> simp [sh_rangeV]
  case enum =>
    rcases vs with _ | ⟨x, _ | ⟨y, r⟩⟩ <;> try (simp [srcOf] <;> done)
    · cases x <;> simp only [srcOf, List.map, sh_int, sh_non, sh_bl, sh_str, sh_tup, sh_ref, sh_fn, sh_cls, Option.map_none]
      · simp [sh_enumV]
      · rename_i a
        rw [← sh_ref, up_walkOf]
        cases walkOf h (.ref a) with
        | none => rfl
        | some q => obtain ⟨a, _ | b⟩ := q <;> simp [sh_enumV]
  case zip =>
    rcases vs with _ | ⟨x, _ | ⟨y, _ | ⟨z, r⟩⟩⟩
    · simp [srcOf]
    · cases x <;> simp [srcOf]
    · cases x <;> cases y <;> simp only [srcOf, List.map, sh_int, sh_non, sh_bl, sh_str, sh_tup, sh_ref, sh_fn, sh_cls, Option.map_none]
      · simp [sh_zipV]
      · rename_i a b
        rw [← sh_ref, ← sh_ref, up_walkOf, up_walkOf]
        cases walkOf h (.ref a) with
        | none => rfl
        | some q =>
          cases walkOf h (.ref b) with
          | none => rfl
          | some r => obtain ⟨a, _ | b⟩ := q <;> obtain ⟨c, _ | d⟩ := r <;> simp [sh_zipV]
    · cases x <;> cases y <;> simp [srcOf]
theorem up_stays (h : Heap) (l : List (Nat × Obj)) : stays (up p h) (l.map (shP p.length)) = stays h l := by
  unfold stays
  rw [List.all_map]
  congr 1
  funext q
  simp only [Function.comp, shP, up_at]
  rw [Bool.eq_iff_iff, decide_eq_true_iff, decide_eq_true_iff]
  cases h[q.1]? <;> simp
theorem up_compL {f f' : Env → Heap → Res V} {t t' : Env → Heap → Res Bool} {e e' : Env} (tg : Tg) (st : List (Nat × Obj)) (D : Nat)
    (hf : ∀ e e' h, EnvL p.length e e' → RLe p (V.sh p.length) (f e h) (f' e' (up p h))) (ht : ∀ e e' h, EnvL p.length e e' → RLe p id (t e h) (t' e' (up p h))) (he : EnvL p.length e e') :
    ∀ (xs : List V) (h : Heap), RLe p (V.sh p.length) (compL f t e tg st D xs h) (compL f' t' e' tg (st.map (shP p.length)) (p.length + D) (xs.map (V.sh p.length)) (up p h))
  | [], h => by
    simp only [compL, List.map, up_stays]
    split
    · exact .of (by simp [Res.up])
    · exact .stuck
  | x :: r, h => by
    simp only [compL, List.map, up_stays]
    split
    · cases hb : bindT h tg x e with
      | none => exact .stuck
      | some e1 =>
        obtain ⟨e1', b1, b2⟩ := up_bindT h tg x e e' e1 he hb
        rw [b1]
        have ht1 := ht e1 e1' h b2
        simp only
        cases hq : t e1 h with
        | stuck => exact .stuck
        | exc y h1 => exact .stuck
        | ok b h1 =>
          rw [hq] at ht1
          rcases ht1 with ht1 | ht1
          · cases ht1
          rw [ht1]
          simp only [Res.up, id]
          cases b with
          | false => exact up_compL tg st D hf ht he r h1
          | true =>
            have hf1 := up_gcR h1 (hf e1 e1' h1 b2)
            simp only
            cases hg : gcR h1 (f e1 h1) with
            | stuck => exact .stuck
            | exc y h2 => exact .stuck
            | ok y h2 =>
              rw [hg] at hf1
              rcases hf1 with hf1 | hf1
              · cases hf1
              rw [hf1]
              simp only [Res.up]
              rw [up_at]
              cases h2[D]? with
              | none => exact .stuck
              | some o =>
                cases o with
                | lst acc =>
                  simp only [Option.map_some, Obj.sh, List.length_map]
                  split
                  · have := up_compL tg st D hf ht he r (h2.set D (.lst (acc ++ [y])))
                    rw [up_set] at this
                    simpa [Obj.sh] using this
                  · exact .stuck
                | _ => exact .stuck
    · exact .stuck
theorem up_compO {b b' : Env → Heap → Res V} {e e' : Env} (tg : Tg) (st : List (Nat × Obj)) (D : Nat)
    (hb : ∀ e e' h, EnvL p.length e e' → RLe p (V.sh p.length) (b e h) (b' e' (up p h))) (he : EnvL p.length e e') :
    ∀ (xs : List V) (h : Heap), RLe p (V.sh p.length) (compO b e tg st D xs h) (compO b' e' tg (st.map (shP p.length)) (p.length + D) (xs.map (V.sh p.length)) (up p h))
  | [], h => by
    simp only [compO, List.map, up_stays]
    split
    · exact .of (by simp [Res.up])
    · exact .stuck
  | x :: r, h => by
    simp only [compO, List.map, up_stays]
    split
    · cases hq : bindT h tg x e with
      | none => exact .stuck
      | some e1 =>
        obtain ⟨e1', b1, b2⟩ := up_bindT h tg x e e' e1 he hq
        rw [b1]
        have hb1 := hb e1 e1' h b2
        simp only
        cases hr : b e1 h with
        | stuck => exact .stuck
        | exc y h1 => exact .stuck
        | ok y h1 =>
          rw [hr] at hb1
          rcases hb1 with hb1 | hb1
          · cases hb1
          rw [hb1]
          simp only [Res.up]
          exact up_compO tg st D hb he r h1
    · exact .stuck
/-! statements -/
def FLe (p : Heap) (a b : Fl) : Prop := match a with
  | .nx e h => ∃ e', b = .nx e' (up p h) ∧ EnvL p.length e e'
  | .brk e h => ∃ e', b = .brk e' (up p h) ∧ EnvL p.length e e'
  | .ct e h => ∃ e', b = .ct e' (up p h) ∧ EnvL p.length e e'
  | .ret v h => b = .ret (v.sh p.length) (up p h)
  | .exc x e h => ∃ e', b = .exc (x.sh p.length) e' (up p h) ∧ EnvL p.length e e'
  | .stuck => True
theorem FLe.fl {α : Type} {g : α → α} {a b : Res α} {e e' : Env} {f f' : α → Heap → Fl} (h : RLe p g a b) (he : EnvL p.length e e') (hf : ∀ v q, FLe p (f v q) (f' (g v) (up p q))) : FLe p (a.fl e f) (b.fl e' f') := by
  rcases h with rfl | rfl
  · trivial
  · cases a with
    | ok v q => exact hf v q
    | exc x q => exact ⟨e', rfl, he⟩
    | stuck => trivial
theorem FLe.andThen {a b : Fl} {f f' : Env → Heap → Fl} (h : FLe p a b) (hf : ∀ e e' q, EnvL p.length e e' → FLe p (f e q) (f' e' (up p q))) : FLe p (a.andThen f) (b.andThen f') := by
  cases a with
  | nx e q => obtain ⟨e', rfl, he⟩ := h; exact hf e e' q he
  | brk e q => obtain ⟨e', rfl, he⟩ := h; exact ⟨e', rfl, he⟩
  | ct e q => obtain ⟨e', rfl, he⟩ := h; exact ⟨e', rfl, he⟩
  | ret v q => cases h; exact rfl
  | exc x e q => obtain ⟨e', rfl, he⟩ := h; exact ⟨e', rfl, he⟩
  | stuck => trivial
theorem up_whlL {t t' : Env → Heap → Res Bool} {b b' : Env → Heap → Fl}
    (ht : ∀ e e' h, EnvL p.length e e' → RLe p id (t e h) (t' e' (up p h))) (hb : ∀ e e' h, EnvL p.length e e' → FLe p (b e h) (b' e' (up p h))) :
    ∀ (n : Nat) (e e' : Env) (h : Heap), EnvL p.length e e' → FLe p (whlL t b n e h) (whlL t' b' n e' (up p h))
  | 0, e, e', h, he => trivial
  | n + 1, e, e', h, he => by
    simp only [whlL]
    refine FLe.fl (ht e e' h he) he fun c q => ?_
    cases c with
    | false => exact ⟨e', rfl, he⟩
    | true =>
      simp only [id, if_true]
      have := hb e e' q he
      cases hq : b e q with
      | nx e2 q2 => rw [hq] at this; obtain ⟨e2', r1, r2⟩ := this; rw [r1]; exact up_whlL ht hb n e2 e2' q2 r2
      | ct e2 q2 => rw [hq] at this; obtain ⟨e2', r1, r2⟩ := this; rw [r1]; exact up_whlL ht hb n e2 e2' q2 r2
      | brk e2 q2 => rw [hq] at this; obtain ⟨e2', r1, r2⟩ := this; rw [r1]; exact ⟨e2', rfl, r2⟩
      | ret v q2 => rw [hq] at this; rw [this]; exact rfl
      | exc x e2 q2 => rw [hq] at this; obtain ⟨e2', r1, r2⟩ := this; rw [r1]; exact ⟨e2', rfl, r2⟩
      | stuck => trivial
theorem up_forL {b b' : Env → Heap → Fl} (tg : Tg) (st : List (Nat × Obj)) (hb : ∀ e e' h, EnvL p.length e e' → FLe p (b e h) (b' e' (up p h))) :
    ∀ (xs : List V) (e e' : Env) (h : Heap), EnvL p.length e e' → FLe p (forL b tg st xs e h) (forL b' tg (st.map (shP p.length)) (xs.map (V.sh p.length)) e' (up p h))
  | [], e, e', h, he => by
    simp only [forL, List.map, up_stays]
    split
    · exact ⟨e', rfl, he⟩
    · trivial
  | x :: r, e, e', h, he => by
    simp only [forL, List.map, up_stays]
    split
    · cases hbt : bindT h tg x e with
      | none => trivial
      | some e1 =>
        obtain ⟨e1', b1, b2⟩ := up_bindT h tg x e e' e1 he hbt
        rw [b1]
        simp only
        have := hb e1 e1' h b2
        cases hq : b e1 h with
        | nx e2 q2 => rw [hq] at this; obtain ⟨e2', r1, r2⟩ := this; rw [r1]; exact up_forL tg st hb r e2 e2' q2 r2
        | ct e2 q2 => rw [hq] at this; obtain ⟨e2', r1, r2⟩ := this; rw [r1]; exact up_forL tg st hb r e2 e2' q2 r2
        | brk e2 q2 => rw [hq] at this; obtain ⟨e2', r1, r2⟩ := this; rw [r1]; exact ⟨e2', rfl, r2⟩
        | ret v q2 => rw [hq] at this; rw [this]; exact rfl
        | exc x e2 q2 => rw [hq] at this; obtain ⟨e2', r1, r2⟩ := this; rw [r1]; exact ⟨e2', rfl, r2⟩
        | stuck => trivial
    · trivial
/-! attributes, dicts -/
theorem sh_putA (f : Nat) (v : V) : ∀ l : List (Nat × V), (putA f v l).map (fun q => (q.1, q.2.sh k)) = putA f (v.sh k) (l.map fun q => (q.1, q.2.sh k))
  | [] => rfl
  | (g, w) :: r => by
    simp only [putA, List.map]
    split
    · rfl
    · rw [List.map_cons, sh_putA f v r]
theorem sh_putD (x v : V) : ∀ l : List (V × V), (putD x v l).map (fun q => (q.1.sh k, q.2.sh k)) = putD (x.sh k) (v.sh k) (l.map fun q => (q.1.sh k, q.2.sh k))
  | [] => rfl
  | (g, w) :: r => by
    simp only [putD, List.map, sh_eq]
    split
    · rfl
    · rw [List.map_cons, sh_putD x v r]
theorem up_augV (op : Op) (x y : V) (h : Heap) : augV op (x.sh p.length) (y.sh p.length) (up p h) = (augV op x y h).up p (V.sh p.length) := by
  cases op <;> cases x <;> cases y <;> simp [augV, Res.up]
theorem sh_isKey (v : V) : isKey (v.sh k) = isKey v := by cases v <;> simp [isKey]
theorem up_setIdx (h : Heap) (o i v : V) : setIdx (up p h) (o.sh p.length) (i.sh p.length) (v.sh p.length) = (setIdx h o i v).map (up p) := by
  cases o with
  | ref a =>
    simp only [setIdx, sh_ref]
    rw [up_at]
    cases h[a]? with
    | none => rfl
    | some q =>
      cases q with
      | lst xs =>
        cases i <;> simp only [Option.map_some, Obj.sh, sh_int, sh_non, sh_bl, sh_str, sh_tup, sh_ref, sh_fn, sh_cls, Option.map_none, List.length_map]
        cases atIdx xs.length _ <;> simp [up_set, Obj.sh, List.map_set]
      | dct kvs =>
        simp only [Option.map_some, Obj.sh, sh_isKey, List.length_map]
        split
        · simp [up_set, Obj.sh, sh_putD]
        · rfl
      | _ => rfl
  | _ => simp [setIdx]
theorem up_getA (h : Heap) (o : V) (f : Nat) : getA (up p h) (o.sh p.length) f = (getA h o f).map (V.sh p.length) := by
  cases o with
  | ref a =>
    simp only [getA, sh_ref]
    rw [up_at]
    cases h[a]? with
    | none => rfl
    | some q =>
      cases q with
      | ins c fs => exact sh_flook _ f fs
      | _ => rfl
  | _ => simp [getA]
theorem up_setA (h : Heap) (o : V) (f : Nat) (v : V) : setA (up p h) (o.sh p.length) f (v.sh p.length) = (setA h o f v).map (up p) := by
  cases o with
  | ref a =>
    simp only [setA, sh_ref]
    rw [up_at]
    cases h[a]? with
    | none => rfl
    | some q =>
      cases q with
      | ins c fs =>
        simp only [Option.map_some, Obj.sh, List.length_map]
        split
        · simp [up_set, Obj.sh, sh_putA]
        · rfl
      | _ => rfl
  | _ => simp [setA]
end
end MP
end

section
set_option Elab.async false
set_option linter.all false
set_option maxRecDepth 10000
namespace MP
/-! ### texts whose literals name no address -/
mutual
def V.clo : V → Bool
  | .tup xs => V.clos xs
  | .ref _ => false
  | _ => true
def V.clos : List V → Bool
  | [] => true
  | x :: xs => V.clo x && V.clos xs
end
mutual
theorem sh_clo (k : Nat) : ∀ v : V, v.clo = true → v.sh k = v
  | .tup xs, h => by
    rw [V.sh, shs_clo k xs (by simpa [V.clo] using h)]
  | .ref a, h => by simp [V.clo] at h
  | .non, _ => by simp
  | .bl b, _ => by simp
  | .int b, _ => by simp
  | .str b, _ => by simp
  | .fn b, _ => by simp
  | .cls b, _ => by simp
theorem shs_clo (k : Nat) : ∀ v : List V, V.clos v = true → V.shs k v = v
  | [], _ => rfl
  | x :: xs, h => by
    simp [V.clos] at h
    rw [V.shs, sh_clo k x h.1, shs_clo k xs h.2]
end
theorem shm_clo (k : Nat) (v : List V) (h : V.clos v = true) : v.map (V.sh k) = v := by rw [← shs_map, shs_clo k v h]
mutual
def Ex.clo : Ex → Bool
  | .lit v => v.clo
  | .var _ => true
  | .glob _ => true
  | .tup es => Ex.clos es
  | .lst es => Ex.clos es
  | .dct ks vs => Ex.clos ks && Ex.clos vs
  | .bin _ a b => a.clo && b.clo
  | .neg a => a.clo
  | .and_ a b => a.clo && b.clo
  | .or_ a b => a.clo && b.clo
  | .not_ a => a.clo
  | .cmp _ a b => a.clo && b.clo
  | .chain _ _ a b c => a.clo && b.clo && c.clo
  | .ite c a b => c.clo && a.clo && b.clo
  | .idx a b => a.clo && b.clo
  | .slc a lo hi => a.clo && Ex.clos lo && Ex.clos hi
  | .rev a => a.clo
  | .attr a _ => a.clo
  | .callf _ es _ ks => Ex.clos es && Ex.clos ks
  | .callv _ es => Ex.clos es
  | .callc _ es _ ks => Ex.clos es && Ex.clos ks
  | .callb _ es => Ex.clos es
  | .meth o _ es => o.clo && Ex.clos es
  | .bmeth o _ es => o.clo && Ex.clos es
  | .comp e _ _ ss ts _ => e.clo && Ex.clos ss && Ex.clos ts
  | .comp2 e _ _ ss _ s2 _ => e.clo && Ex.clos ss && s2.clo
  | .xis _ => true
  | .xfld _ => true
def Ex.clos : List Ex → Bool
  | [] => true
  | x :: xs => Ex.clo x && Ex.clos xs
end
def Tgt.clo : Tgt → Bool
  | .nm _ => true
  | .fld e _ => e.clo
  | .sub e i => e.clo && i.clo
  | .two a b => a.clo && b.clo
mutual
def St.clo : St → Bool
  | .asg t e => t.clo && e.clo
  | .augN _ _ e => e.clo
  | .augF o _ _ e => o.clo && e.clo
  | .expr e => e.clo
  | .ret e => e.clo
  | .iff c a b => c.clo && St.clos a && St.clos b
  | .whl c b => c.clo && St.clos b
  | .forr _ _ ss b => Ex.clos ss && St.clos b
  | .brk => true
  | .cont => true
  | .pass => true
  | .raise _ es => Ex.clos es
  | .tri b _ _ hb => St.clos b && St.clos hb
def St.clos : List St → Bool
  | [] => true
  | x :: xs => St.clo x && St.clos xs
end
def FnD.clo (F : FnD) : Bool := V.clos F.dfl && (F.kwd.all fun q => q.2.clo) && St.clos F.body
structure PClo (P : Prog) : Prop where
  fns : ∀ f F, P.fns f = some F → F.clo = true
  glb : ∀ g v, P.glb g = some v → v.clo = true
structure CLe (p : Heap) (C C' : Ctx) : Prop where
  P : C'.P = C.P
  clo : PClo C.P
  call : ∀ f as h, RLe p (V.sh p.length) (C.call f as h) (C'.call f (as.map (V.sh p.length)) (up p h))
  x : C'.x = C.x.map (XV.sh p.length)
section
variable {p : Heap} {k : Nat}
theorem sh_fillKw (F : FnD) (hk : ∀ n v, F.kwd.lookup n = some v → v.sh k = v) (kvs : List (Nat × V)) : ∀ l : List Nat, fillKw F (kvs.map fun q => (q.1, q.2.sh k)) l = (fillKw F kvs l).map (List.map (V.sh k))
  | [] => rfl
  | n :: r => by
    simp only [fillKw, sh_flook, sh_fillKw F hk kvs r]
    cases kvs.lookup n with
    | none =>
      cases e : F.kwd.lookup n with
      | none => simp
      | some v => cases fillKw F kvs r <;> simp [hk n v e]
    | some v => cases fillKw F kvs r <;> cases F.kwd.lookup n <;> simp
theorem lookup_mem {β : Type} : ∀ (l : List (Nat × β)) (n : Nat) (v : β), l.lookup n = some v → (n, v) ∈ l
  | [], _, _, h => by cases h
  | (a, b) :: r, n, v, h => by
    simp only [List.lookup] at h
    cases e : n == a with
    | true =>
      rw [e] at h
      cases h
      rw [beq_iff_eq.mp e]
      simp
    | false =>
      rw [e] at h
      exact List.mem_cons_of_mem _ (lookup_mem r n v h)
theorem sh_bindF (F : FnD) (hF : F.clo = true) (vs : List V) (kvs : List (Nat × V)) : bindF F (vs.map (V.sh k)) (kvs.map fun q => (q.1, q.2.sh k)) = (bindF F vs kvs).map (List.map (V.sh k)) := by
  unfold FnD.clo at hF
  simp only [Bool.and_eq_true, List.all_eq_true] at hF
  obtain ⟨⟨h1, h2⟩, h3⟩ := hF
  unfold bindF
  simp only [List.length_map, List.all_map, Function.comp_def]
  rw [sh_fillKw F (fun n v e => sh_clo k v (h2 _ (lookup_mem _ n v e)))]
  split
  · cases fillKw F kvs F.kwn with
    | none => rfl
    | some ks => simp [shm_clo k _ h1]
  · rfl
theorem zip_sh (kn : List Nat) (ws : List V) : kn.zip (ws.map (V.sh k)) = (kn.zip ws).map fun q => (q.1, q.2.sh k) := by
  induction kn generalizing ws with
  | nil => rfl
  | cons a r ih => cases ws <;> simp [ih]
theorem fold_sh (l : List (V × V)) (d : List (V × V)) : (l.foldl (fun d q => putD q.1 q.2 d) d).map (fun q => (q.1.sh k, q.2.sh k)) = (l.map fun q => (q.1.sh k, q.2.sh k)).foldl (fun d q => putD q.1 q.2 d) (d.map fun q => (q.1.sh k, q.2.sh k)) := by
  induction l generalizing d with
  | nil => rfl
  | cons a r ih => simp [ih, sh_putD]
theorem zipV_sh (a b : List V) : (a.map (V.sh k)).zip (b.map (V.sh k)) = (a.zip b).map fun q => (q.1.sh k, q.2.sh k) := by
  induction a generalizing b with
  | nil => rfl
  | cons x r ih => cases b <;> simp [ih]
theorem RLe.same {α : Type} {g : α → α} (a : Res α) : RLe p g a (a.up p g) := .of rfl
end
end MP
end

section
set_option Elab.async false
set_option linter.all false
set_option maxRecDepth 10000
namespace MP
section
variable {p : Heap}
/-- a call, as a context knows it -/
theorem up_bindcall {C C' : Ctx} (c : CLe p C C') (f : Nat) (vs : List V) (kvs : List (Nat × V)) (h : Heap) :
    RLe p (V.sh p.length) (match C.P.fns f with
      | some F => match bindF F vs kvs with
        | some as => C.call f as h
        | none => .stuck
      | none => .stuck) (match C'.P.fns f with
      | some F => match bindF F (vs.map (V.sh p.length)) (kvs.map fun q => (q.1, q.2.sh p.length)) with
        | some as => C'.call f as (up p h)
        | none => .stuck
      | none => .stuck) := by
  rw [c.P]
  cases hF : C.P.fns f with
  | none => exact .stuck
  | some F =>
    simp only [sh_bindF F (c.clo.fns f F hF)]
    cases bindF F vs kvs with
    | none => exact .stuck
    | some as => exact c.call f as h
theorem keyAll (l : List V) (k : Nat) : (l.map (V.sh k)).all isKey = l.all isKey := by
  rw [List.all_map]
  congr 1
  funext v
  exact sh_isKey v
mutual
theorem up_evE {C C' : Ctx} (c : CLe p C C') : ∀ (e : Ex), e.clo = true → ∀ (env env' : Env) (h : Heap), EnvL p.length env env' → RLe p (V.sh p.length) (evE C e env h) (evE C' e env' (up p h))
  | .lit v, q, env, env', h, he => by
    simp only [evE]
    exact .of (by simp only [Res.up]; rw [sh_clo _ v (by simpa [Ex.clo] using q)])
  | .var i, q, env, env', h, he => by
    simp only [evE]
    cases hv : (env[i]?).join with
    | none => exact .stuck
    | some v =>
      rw [he.2 i v hv]
      exact .of rfl
  | .glob g, q, env, env', h, he => by
    simp only [evE, c.P]
    cases hv : C.P.glb g with
    | none => exact .stuck
    | some v => exact .of (by simp only [Res.up, ofO]; rw [sh_clo _ v (c.clo.glb g v hv)])
  | .tup es, q, env, env', h, he => by
    simp only [evE]
    exact (up_evEs c es (by simpa [Ex.clo] using q) env env' h he).bind fun vs h1 => .of (by simp [Res.up])
  | .lst es, q, env, env', h, he => by
    simp only [evE]
    exact (up_evEs c es (by simpa [Ex.clo] using q) env env' h he).bind fun vs h1 => .of (by simp [Res.up, up_app, Obj.sh])
  | .dct ks vs, q, env, env', h, he => by
    simp [Ex.clo] at q
    simp only [evE]
    refine (up_evEs c ks q.1 env env' h he).bind fun k h1 => ?_
    refine (up_evEs c vs q.2 env env' h1 he).bind fun v h2 => ?_
    simp only [keyAll]
    split
    · exact .of (by simp [Res.up, up_app, Obj.sh, zipV_sh, fold_sh])
    · exact .stuck
  | .bin op a b, q, env, env', h, he => by
    simp [Ex.clo] at q
    simp only [evE]
    refine (up_evE c a q.1 env env' h he).bind fun x h1 => ?_
    refine (up_evE c b q.2 env env' h1 he).bind fun y h2 => ?_
    exact .of (up_binV op x y h2)
  | .neg a, q, env, env', h, he => by
    simp only [evE]
    refine (up_evE c a (by simpa [Ex.clo] using q) env env' h he).bind fun x h1 => ?_
    cases x with
    | int i => exact .of (by simp [Res.up])
    | _ => exact .stuck
  | .and_ a b, q, env, env', h, he => by
    simp [Ex.clo] at q
    simp only [evE]
    refine (up_evE c a q.1 env env' h he).truth.bind fun x h1 => ?_
    cases x with
    | true => exact (up_evE c b q.2 env env' h1 he).truth.bind fun y h2 => .of (by simp [Res.up])
    | false => exact .of (by simp [Res.up])
  | .or_ a b, q, env, env', h, he => by
    simp [Ex.clo] at q
    simp only [evE]
    refine (up_evE c a q.1 env env' h he).truth.bind fun x h1 => ?_
    cases x with
    | false => exact (up_evE c b q.2 env env' h1 he).truth.bind fun y h2 => .of (by simp [Res.up])
    | true => exact .of (by simp [Res.up])
  | .not_ a, q, env, env', h, he => by
    simp only [evE]
    exact (up_evE c a (by simpa [Ex.clo] using q) env env' h he).truth.bind fun x h1 => .of (by simp [Res.up])
  | .cmp op a b, q, env, env', h, he => by
    simp [Ex.clo] at q
    simp only [evE]
    refine up_gcR h ((up_evE c a q.1 env env' h he).bind fun x h1 => ?_)
    refine (up_evE c b q.2 env env' h1 he).bind fun y h2 => ?_
    rw [up_cmpV]
    exact up_ofB _ _
  | .chain o1 o2 a b d, q, env, env', h, he => by
    simp [Ex.clo] at q
    simp only [evE]
    refine (up_evE c a q.1.1 env env' h he).bind fun x h1 => ?_
    refine (up_evE c b q.1.2 env env' h1 he).bind fun y h2 => ?_
    rw [up_cmpV]
    cases cmpV o1 h2 x y with
    | none => exact .stuck
    | some t =>
      cases t with
      | false => exact .of (by simp [Res.up])
      | true =>
        refine (up_evE c d q.2 env env' h2 he).bind fun z h3 => ?_
        rw [up_cmpV]
        exact up_ofB _ _
  | .ite d a b, q, env, env', h, he => by
    simp [Ex.clo] at q
    simp only [evE]
    refine (up_evE c d q.1.1 env env' h he).truth.bind fun x h1 => ?_
    cases x with
    | true => exact up_evE c a q.1.2 env env' h1 he
    | false => exact up_evE c b q.2 env env' h1 he
  | .idx a b, q, env, env', h, he => by
    simp [Ex.clo] at q
    simp only [evE]
    refine up_gcR h ((up_evE c a q.1 env env' h he).bind fun x h1 => ?_)
    refine (up_evE c b q.2 env env' h1 he).bind fun y h2 => ?_
    rw [up_idxV]
    exact up_ofO _ _
  | .slc a lo hi, q, env, env', h, he => by
    simp [Ex.clo] at q
    simp only [evE]
    refine (up_evE c a q.1.1 env env' h he).bind fun x h1 => ?_
    refine (up_evEs c lo q.1.2 env env' h1 he).bind fun l h2 => ?_
    rw [sh_partOf]
    cases partOf l with
    | none => exact .stuck
    | some l =>
      refine (up_evEs c hi q.2 env env' h2 he).bind fun u h3 => ?_
      rw [sh_partOf]
      cases partOf u with
      | none => exact .stuck
      | some u => exact .of (up_slcV h3 x l u)
  | .rev a, q, env, env', h, he => by
    simp only [evE]
    exact (up_evE c a (by simpa [Ex.clo] using q) env env' h he).bind fun x h1 => .of (up_revV h1 x)
  | .attr a f, q, env, env', h, he => by
    simp only [evE]
    refine (up_evE c a (by simpa [Ex.clo] using q) env env' h he).bind fun x h1 => ?_
    rw [up_getA]
    exact up_ofO _ _
  | .callf f es kn ks, q, env, env', h, he => by
    simp [Ex.clo] at q
    simp only [evE]
    refine up_gcR h ((up_evEs c es q.1 env env' h he).bind fun vs h1 => ?_)
    refine (up_evEs c ks q.2 env env' h1 he).bind fun ws h2 => ?_
    rw [zip_sh]
    exact up_bindcall c f vs (kn.zip ws) h2
  | .callv i es, q, env, env', h, he => by
    simp only [evE]
    refine up_gcR h ((up_evEs c es (by simpa [Ex.clo] using q) env env' h he).bind fun vs h1 => ?_)
    cases hv : (env[i]?).join with
    | none => exact .stuck
    | some v =>
      rw [he.2 i v hv]
      cases v with
      | fn f =>
        simp only [sh_fn]
        exact up_bindcall c f vs [] h1
      | _ => exact .stuck
  | .callc d es kn ks, q, env, env', h, he => by
    simp [Ex.clo] at q
    simp only [evE]
    refine (up_evEs c es q.1 env env' h he).bind fun vs h1 => ?_
    refine (up_evEs c ks q.2 env env' h1 he).bind fun ws h2 => ?_
    rw [c.P, zip_sh]
    cases hK : C.P.cls d with
    | none => exact .stuck
    | some K =>
      simp only
      cases K.init with
      | none =>
        simp only [List.isEmpty_map]
        split
        · exact .of (by simp [Res.up, up_app, Obj.sh])
        · exact .stuck
      | some f =>
        simp only
        cases hF : C.P.fns f with
        | none => exact .stuck
        | some F =>
          simp only
          have e := sh_bindF (k := p.length) F (c.clo.fns f F hF) (.ref h2.length :: vs) (kn.zip ws)
          simp only [List.map, sh_ref] at e
          rw [up_len, e]
          cases bindF F (.ref h2.length :: vs) (kn.zip ws) with
          | none => exact .stuck
          | some as =>
            have e := c.call f as (h2 ++ [.ins d []])
            rw [up_app] at e
            refine RLe.bind e fun r h3 => ?_
            cases r with
            | non => exact .of (by simp [Res.up])
            | _ => exact .stuck
  | .callb b es, q, env, env', h, he => by
    simp only [evE]
    exact up_gcR h ((up_evEs c es (by simpa [Ex.clo] using q) env env' h he).bind fun vs h1 => .of (up_biV b vs h1))
  | .meth o m es, q, env, env', h, he => by
    simp [Ex.clo] at q
    simp only [evE]
    refine up_gcR h ((up_evE c o q.1 env env' h he).bind fun x h1 => ?_)
    cases x with
    | ref a =>
      simp only [sh_ref]
      rw [up_at]
      cases h1[a]? with
      | none => exact .stuck
      | some ob =>
        cases ob with
        | ins d fs =>
          simp only [Option.map_some, Obj.sh, c.P]
          cases (C.P.cls d).bind fun K => K.meths.lookup m with
          | none => exact .stuck
          | some f =>
            simp only
            cases hF : C.P.fns f with
            | none => exact .stuck
            | some F =>
              simp only [sh_flook, Option.isNone_map]
              split
              · refine (up_evEs c es q.2 env env' h1 he).bind fun vs h2 => ?_
                have e := sh_bindF (k := p.length) F (c.clo.fns f F hF) (.ref a :: vs) []
                simp only [List.map, sh_ref] at e
                rw [e]
                cases bindF F (.ref a :: vs) [] with
                | none => exact .stuck
                | some as => exact c.call f as h2
              · exact .stuck
        | _ => exact .stuck
    | _ => exact .stuck
  | .bmeth o m es, q, env, env', h, he => by
    simp [Ex.clo] at q
    simp only [evE]
    refine up_gcR h ((up_evE c o q.1 env env' h he).bind fun x h1 => ?_)
    rw [up_bmT]
    split
    · exact (up_evEs c es q.2 env env' h1 he).bind fun vs h2 => .of (up_bmV m x vs h2)
    · exact .stuck
  | .comp elt tg s ss tests own, q, env, env', h, he => by
    simp [Ex.clo] at q
    simp only [evE]
    refine (up_evEs c ss q.1.2 env env' h he).bind fun vs h1 => ?_
    rw [up_srcOf]
    cases srcOf s vs h1 with
    | none => exact .stuck
    | some r =>
      obtain ⟨xs, st⟩ := r
      simp only [Option.map_some]
      have := up_compL (p := p) (f := fun e g => evE C elt e g) (f' := fun e g => evE C' elt e g) (t := fun e g => evT C tests e g) (t' := fun e g => evT C' tests e g) tg st h1.length
        (fun e e' h he => up_evE c elt q.1.1 e e' h he) (fun e e' h he => up_evT c tests q.2 e e' h he) (he.wipe own) xs (h1 ++ [.lst []])
      rw [up_app] at this
      simpa [Obj.sh] using this
  | .comp2 elt tg1 k1 ss tg2 s2 own, q, env, env', h, he => by
    simp [Ex.clo] at q
    simp only [evE]
    refine (up_evEs c ss q.1.2 env env' h he).bind fun vs h1 => ?_
    rw [up_srcOf]
    cases srcOf k1 vs h1 with
    | none => exact .stuck
    | some r =>
      obtain ⟨xs, st⟩ := r
      simp only [Option.map_some]
      have key := up_compO (p := p) (b := fun e g => (evE C s2 e g).bind fun v g1 => match srcOf .val [v] g1 with
        | some (ys, st2) => compL (fun e g => evE C elt e g) (fun _ g => .ok true g) (wipeE e tg2.names) tg2 st2 h1.length ys g1
        | none => .stuck) (b' := fun e g => (evE C' s2 e g).bind fun v g1 => match srcOf .val [v] g1 with
        | some (ys, st2) => compL (fun e g => evE C' elt e g) (fun _ g => .ok true g) (wipeE e tg2.names) tg2 st2 (p.length + h1.length) ys g1
        | none => .stuck) tg1 st h1.length (fun e e' h he => by
          refine (up_evE c s2 q.2 e e' h he).bind fun v g1 => ?_
          have us := up_srcOf (p := p) .val [v] g1
          rw [show [v].map (V.sh p.length) = [v.sh p.length] from rfl] at us
          rw [us]
          cases srcOf .val [v] g1 with
          | none => exact .stuck
          | some r =>
            obtain ⟨ys, st2⟩ := r
            simp only [Option.map_some]
            exact up_compL (p := p) tg2 st2 h1.length (fun e e' h he => up_evE c elt q.1.1 e e' h he) (fun e e' h he => .of rfl) (he.wipe tg2.names) ys g1) (he.wipe own) xs (h1 ++ [.lst []])
      rw [up_app] at key
      have e0 : (up p h1).length = p.length + h1.length := by simp [up]
      rw [e0]
      exact key
  | .xis d, q, env, env', h, he => by
    simp only [evE, c.P, c.x]
    cases C.x with
    | none => exact .stuck
    | some x =>
      show RLe p _ (match C.P.cls x.c with
        | some K => if x.fs.isEmpty then .ok (V.bl (K.sup.contains d)) h else .stuck
        | none => .stuck) (match C.P.cls x.c with
        | some K => if (XV.sh p.length x).fs.isEmpty then .ok (V.bl (K.sup.contains d)) (up p h) else .stuck
        | none => .stuck)
      have e0 : (XV.sh p.length x).fs.isEmpty = x.fs.isEmpty := by
        unfold XV.sh
        simp
      rw [e0]
      cases C.P.cls x.c with
      | none => exact .stuck
      | some K =>
        cases x.fs.isEmpty with
        | true => exact .of (by simp [Res.up])
        | false => exact .stuck
  | .xfld f, q, env, env', h, he => by
    simp only [evE, c.x]
    cases C.x with
    | none => exact .stuck
    | some x =>
      show RLe p _ (ofO h (x.fs.lookup f)) (ofO (up p h) ((XV.sh p.length x).fs.lookup f))
      unfold XV.sh
      rw [sh_flook]
      exact up_ofO _ _
theorem up_evEs {C C' : Ctx} (c : CLe p C C') : ∀ (es : List Ex), Ex.clos es = true → ∀ (env env' : Env) (h : Heap), EnvL p.length env env' → RLe p (List.map (V.sh p.length)) (evEs C es env h) (evEs C' es env' (up p h))
  | [], q, env, env', h, he => by
    simp only [evEs]
    exact .of rfl
  | e :: es, q, env, env', h, he => by
    simp [Ex.clos] at q
    simp only [evEs]
    refine (up_evE c e q.1 env env' h he).bind fun v h1 => ?_
    exact (up_evEs c es q.2 env env' h1 he).bind fun vs h2 => .of rfl
theorem up_evT {C C' : Ctx} (c : CLe p C C') : ∀ (es : List Ex), Ex.clos es = true → ∀ (env env' : Env) (h : Heap), EnvL p.length env env' → RLe p id (evT C es env h) (evT C' es env' (up p h))
  | [], q, env, env', h, he => by
    simp only [evT]
    exact .of rfl
  | e :: es, q, env, env', h, he => by
    simp [Ex.clos] at q
    simp only [evT]
    refine (up_gcR h (up_evE c e q.1 env env' h he)).truth.bind fun b h1 => ?_
    cases b with
    | true => exact up_evT c es q.2 env env' h1 he
    | false => exact .of rfl
end
end
end MP
end

section
set_option Elab.async false
set_option linter.all false
set_option maxRecDepth 10000
namespace MP
section
variable {p : Heap}
theorem up_asgT {C C' : Ctx} (c : CLe p C C') : ∀ (t : Tgt), t.clo = true → ∀ (v : V) (env env' : Env) (h : Heap), EnvL p.length env env' → FLe p (asgT C t v env h) (asgT C' t (v.sh p.length) env' (up p h))
  | .nm t, q, v, env, env', h, he => by
    simp only [asgT]
    cases hb : bindT h t v env with
    | none => trivial
    | some e1 =>
      obtain ⟨e1', b1, b2⟩ := up_bindT h t v env env' e1 he hb
      rw [b1]
      exact ⟨e1', rfl, b2⟩
  | .fld e f, q, v, env, env', h, he => by
    simp only [asgT]
    refine FLe.fl (up_evE c e (by simpa [Tgt.clo] using q) env env' h he) he fun o h1 => ?_
    rw [up_setA]
    cases setA h1 o f v with
    | none => trivial
    | some h2 => exact ⟨env', rfl, he⟩
  | .sub e i, q, v, env, env', h, he => by
    simp [Tgt.clo] at q
    simp only [asgT]
    refine FLe.fl (up_evE c e q.1 env env' h he) he fun o h1 => ?_
    refine FLe.fl (up_evE c i q.2 env env' h1 he) he fun j h2 => ?_
    rw [up_setIdx]
    cases setIdx h2 o j v with
    | none => trivial
    | some h3 => exact ⟨env', rfl, he⟩
  | .two a b, q, v, env, env', h, he => by
    simp [Tgt.clo] at q
    simp only [asgT]
    cases v with
    | tup xs =>
      rcases xs with _ | ⟨x, _ | ⟨y, _ | ⟨z, r⟩⟩⟩
      · trivial
      · trivial
      · simp only [sh_tup, List.map]
        exact FLe.andThen (up_asgT c a q.1 x env env' h he) fun e e' h1 he1 => up_asgT c b q.2 y e e' h1 he1
      · trivial
    | _ => trivial
theorem finish_up (h : Heap) {a b : Fl} (e : FLe p a b) : RLe p (V.sh p.length) (finish h a) (finish (up p h) b) := by
  cases a with
  | nx env q => obtain ⟨e', rfl, he⟩ := e; exact .of (by simpa using up_gcF (p := p) h .non q)
  | ret v q => cases e; exact .of (up_gcF h v q)
  | exc x env q => obtain ⟨e', rfl, he⟩ := e; exact .of (up_gcX h x q)
  | _ => exact .stuck
mutual
theorem up_evS {C C' : Ctx} (c : CLe p C C') : ∀ (s : St), s.clo = true → ∀ (env env' : Env) (h : Heap), EnvL p.length env env' → FLe p (evS C s env h) (evS C' s env' (up p h))
  | .asg t e, q, env, env', h, he => by
    simp [St.clo] at q
    simp only [evS]
    exact FLe.fl (up_evE c e q.2 env env' h he) he fun v h1 => up_asgT c t q.1 v env env' h1 he
  | .augN i op e, q, env, env', h, he => by
    simp only [evS]
    cases hv : (env[i]?).join with
    | none => trivial
    | some x =>
      rw [he.2 i x hv]
      refine FLe.fl (up_evE c e (by simpa [St.clo] using q) env env' h he) he fun y h1 => ?_
      rw [up_augV]
      exact FLe.fl (.same _) he fun z h2 => ⟨_, rfl, he.set i z⟩
  | .augF o f op e, q, env, env', h, he => by
    simp [St.clo] at q
    simp only [evS]
    refine FLe.fl (up_evE c o q.1 env env' h he) he fun a h1 => ?_
    rw [up_getA]
    cases getA h1 a f with
    | none => trivial
    | some x =>
      refine FLe.fl (up_evE c e q.2 env env' h1 he) he fun y h2 => ?_
      show FLe p _ ((augV op (x.sh p.length) (y.sh p.length) (up p h2)).fl env' _)
      rw [up_augV]
      refine FLe.fl (.same _) he fun z h3 => ?_
      rw [up_setA]
      cases setA h3 a f z with
      | none => trivial
      | some h4 => exact ⟨env', rfl, he⟩
  | .expr e, q, env, env', h, he => by
    simp only [evS]
    exact FLe.fl (up_evE c e (by simpa [St.clo] using q) env env' h he) he fun v h1 => ⟨env', rfl, he⟩
  | .ret e, q, env, env', h, he => by
    simp only [evS]
    exact FLe.fl (up_evE c e (by simpa [St.clo] using q) env env' h he) he fun v h1 => rfl
  | .iff d a b, q, env, env', h, he => by
    simp [St.clo] at q
    simp only [evS]
    refine FLe.fl (up_evE c d q.1.1 env env' h he).truth he fun x h1 => ?_
    cases x with
    | true => exact up_evSs c a q.1.2 env env' h1 he
    | false => exact up_evSs c b q.2 env env' h1 he
  | .whl d b, q, env, env', h, he => by
    simp [St.clo] at q
    simp only [evS]
    exact up_whlL (fun e e' h he => (up_evE c d q.1 e e' h he).truth) (fun e e' h he => up_evSs c b q.2 e e' h he) _ env env' h he
  | .forr tg s ss b, q, env, env', h, he => by
    simp [St.clo] at q
    simp only [evS]
    refine FLe.fl (up_evEs c ss q.1 env env' h he) he fun vs h1 => ?_
    rw [up_srcOf]
    cases srcOf s vs h1 with
    | none => trivial
    | some r => exact up_forL tg r.2 (fun e e' h he => up_evSs c b q.2 e e' h he) r.1 env env' h1 he
  | .brk, q, env, env', h, he => by
    simp only [evS]
    exact ⟨env', rfl, he⟩
  | .cont, q, env, env', h, he => by
    simp only [evS]
    exact ⟨env', rfl, he⟩
  | .pass, q, env, env', h, he => by
    simp only [evS]
    exact ⟨env', rfl, he⟩
  | .raise d es, q, env, env', h, he => by
    simp only [evS]
    refine FLe.fl (up_evEs c es (by simpa [St.clo] using q) env env' h he) he fun vs h1 => ?_
    rw [c.P]
    cases C.P.cls d with
    | none => trivial
    | some K =>
      simp only [List.length_map, all_flat_sh]
      split
      · exact ⟨env', rfl, he⟩
      · split
        · exact ⟨env', by simp [XV.sh, zip_sh], he⟩
        · trivial
  | .tri b d i hb, q, env, env', h, he => by
    simp [St.clo] at q
    simp only [evS]
    have hq := up_evSs c b q.1 env env' h he
    cases hr : evSs C b env h with
    | nx e1 h1 => rw [hr] at hq; obtain ⟨e1', r1, r2⟩ := hq; rw [r1]; exact ⟨e1', rfl, r2⟩
    | brk e1 h1 => rw [hr] at hq; obtain ⟨e1', r1, r2⟩ := hq; rw [r1]; exact ⟨e1', rfl, r2⟩
    | ct e1 h1 => rw [hr] at hq; obtain ⟨e1', r1, r2⟩ := hq; rw [r1]; exact ⟨e1', rfl, r2⟩
    | ret v h1 => rw [hr] at hq; rw [hq]; exact rfl
    | stuck => trivial
    | exc x e1 h1 =>
      rw [hr] at hq
      obtain ⟨e1', r1, r2⟩ := hq
      rw [r1]
      simp only [c.P]
      have ec : (XV.sh p.length x).c = x.c := rfl
      rw [ec]
      cases C.P.cls x.c with
      | none => trivial
      | some K =>
        simp only [r2.has]
        split
        · split
          · have c2 : CLe p { C with x := some x } { C' with x := some (XV.sh p.length x) } := ⟨c.P, c.clo, c.call, rfl⟩
            have h2 := up_evSs c2 hb q.2 (unE i e1) (unE i e1') h1 (r2.unE i)
            rw [show ({ P := C.P, call := C'.call, x := some (XV.sh p.length x) } : Ctx) = { C' with x := some (XV.sh p.length x) } by rw [← c.P]]
            cases hs : evSs { C with x := some x } hb (unE i e1) h1 with
            | nx e3 h3 => rw [hs] at h2; obtain ⟨e3', s1, s2⟩ := h2; rw [s1]; exact ⟨_, rfl, s2.unE i⟩
            | brk e3 h3 => rw [hs] at h2; obtain ⟨e3', s1, s2⟩ := h2; rw [s1]; exact ⟨_, rfl, s2.unE i⟩
            | ct e3 h3 => rw [hs] at h2; obtain ⟨e3', s1, s2⟩ := h2; rw [s1]; exact ⟨_, rfl, s2.unE i⟩
            | ret v h3 => rw [hs] at h2; rw [h2]; exact rfl
            | exc x e3 h3 => trivial
            | stuck => trivial
          · trivial
        · exact ⟨e1', rfl, r2⟩
theorem up_evSs {C C' : Ctx} (c : CLe p C C') : ∀ (ss : List St), St.clos ss = true → ∀ (env env' : Env) (h : Heap), EnvL p.length env env' → FLe p (evSs C ss env h) (evSs C' ss env' (up p h))
  | [], q, env, env', h, he => by
    simp only [evSs]
    exact ⟨env', rfl, he⟩
  | s :: r, q, env, env', h, he => by
    simp [St.clos] at q
    simp only [evSs]
    exact FLe.andThen (up_evS c s q.1 env env' h he) fun e e' h1 he1 => up_evSs c r q.2 e e' h1 he1
end
theorem start_up (F : FnD) (as : List V) : EnvL p.length (startE F as) (startE F (as.map (V.sh p.length))) := by
  unfold startE
  refine ⟨by simp, fun i v e => ?_⟩
  rw [List.length_map]
  by_cases hi : i < as.length
  · rw [List.getElem?_append_left (by simpa using hi)] at e ⊢
    simp at e ⊢
    cases ha : as[i]? with
    | none => rw [ha] at e; cases e
    | some w =>
      rw [ha] at e
      simp at e
      subst e
      simp
  · rw [List.getElem?_append_right (by simp; omega)] at e
    simp only [List.getElem?_replicate] at e
    split at e <;> cases e
theorem up_callD {P : Prog} (hP : PClo P) : ∀ (d f : Nat) (as : List V) (h : Heap), RLe p (V.sh p.length) (callD P d f as h) (callD P d f (as.map (V.sh p.length)) (up p h))
  | 0, f, as, h => by
    simp only [callD]
    exact .stuck
  | d + 1, f, as, h => by
    simp only [callD]
    cases hF : P.fns f with
    | none => exact .stuck
    | some F =>
      simp only [List.length_map]
      split
      · have hc := hP.fns f F hF
        unfold FnD.clo at hc
        simp only [Bool.and_eq_true] at hc
        exact finish_up h (up_evSs (C := ⟨P, callD P d, none⟩) (C' := ⟨P, callD P d, none⟩) ⟨rfl, hP, up_callD hP d, rfl⟩ F.body hc.2 _ _ h (start_up F as))
      · exact .stuck
theorem cle_D {P : Prog} (hP : PClo P) (d : Nat) : CLe p ⟨P, callD P d, none⟩ ⟨P, callD P d, none⟩ := ⟨rfl, hP, up_callD hP d, rfl⟩
end
/-! ### how they are used -/
@[simp] theorem up_nil (p : Heap) : up p [] = p := by simp [up]
/-- a call with closed arguments, reckoned in the empty heap -/
theorem call_any {P : Prog} (hP : PClo P) {d f : Nat} {as : List V} {v : V} (ha : V.clos as = true) (hv : v.clo = true) (e : callD P d f as [] = .ok v []) (h : Heap) : callD P d f as h = .ok v h := by
  have := up_callD (p := h) hP d f as []
  rw [e, shm_clo _ _ ha, up_nil] at this
  rcases this with q | q
  · cases q
  · rw [q]
    simp [Res.up, sh_clo _ _ hv]
theorem call_exc {P : Prog} (hP : PClo P) {d f : Nat} {as : List V} {c : Nat} (ha : V.clos as = true) (e : callD P d f as [] = .exc ⟨c, []⟩ []) (h : Heap) : callD P d f as h = .exc ⟨c, []⟩ h := by
  have := up_callD (p := h) hP d f as []
  rw [e, shm_clo _ _ ha, up_nil] at this
  rcases this with q | q
  · cases q
  · rw [q]
    simp [Res.up, XV.sh]
theorem envL_none {n k : Nat} (env : Env) (h : env.length = n) : EnvL k (List.replicate n none) env := by
  refine ⟨by simp [h], fun i v e => ?_⟩
  rw [List.getElem?_replicate] at e
  split at e <;> cases e
/-- a row of statements without what was drawn, reckoned with no names and the empty heap -/
theorem rows_ret {P : Prog} (hP : PClo P) {d n : Nat} {ss : List St} (hs : St.clos ss = true) {b : Bool} {h1 : Heap} (e : evSs ⟨P, callD P d, none⟩ ss (List.replicate n none) [] = .ret (.bl b) h1) (env : Env) (hn : env.length = n) (h : Heap) :
    evSs ⟨P, callD P d, none⟩ ss env h = .ret (.bl b) (up h h1) := by
  have := up_evSs (p := h) (cle_D hP d) ss hs _ env [] (envL_none env hn)
  rw [e, up_nil] at this
  simpa [FLe] using this
end MP
end

section
set_option Elab.async false
set_option linter.all false
set_option maxRecDepth 10000
namespace MP
/-! ### rows of statements, one by one -/
section
variable {C : Ctx} {env : Env} {h h1 h2 : Heap} {e c : Ex} {r a b : List St} {R : Fl} {v w : V}
theorem s_asg {i : Nat} (he : evE C e env h = .ok v h1) (hr : evSs C r (env.set i (some v)) h1 = R) : evSs C (.asg (.nm (.nm i)) e :: r) env h = R := by
  rw [r_scons, r_asg, he, fl_ok, asg_nm, at_nx, hr]
theorem s_asg2 {i j : Nat} (he : evE C e env h = .ok (.tup [v, w]) h1) (hr : evSs C r ((env.set i (some v)).set j (some w)) h1 = R) : evSs C (.asg (.nm (.tp [.nm i, .nm j])) e :: r) env h = R := by
  rw [r_scons, r_asg, he, fl_ok, asg_two, at_nx, hr]
theorem s_expr (he : evE C e env h = .ok v h1) (hr : evSs C r env h1 = R) : evSs C (.expr e :: r) env h = R := by
  rw [r_scons, r_expr, he, fl_ok, at_nx, hr]
theorem s_exprx {x : XV} (he : evE C e env h = .exc x h1) : evSs C (.expr e :: r) env h = .exc x env h1 := by
  rw [r_scons, r_expr, he, fl_exc, at_exc]
theorem s_ret (he : evE C e env h = .ok v h1) : evSs C (.ret e :: r) env h = .ret v h1 := by
  rw [r_scons, r_ret, he, fl_ok, at_ret]
theorem s_iff {t : Bool} (hc : evE C c env h = .ok (.bl t) h1) (hr : (evSs C (if t then a else b) env h1).andThen (fun e g => evSs C r e g) = R) : evSs C (.iff c a b :: r) env h = R := by
  rw [r_scons, r_iff, hc, truth_ok, fl_ok, ← hr]
  cases t <;> rfl
theorem s_no (hc : evE C c env h = .ok (.bl false) h1) (hr : evSs C r env h1 = R) : evSs C (.iff c a [] :: r) env h = R :=
  s_iff hc (by rw [if_neg Bool.false_ne_true, r_snil, at_nx, hr])
theorem s_else (hc : evE C c env h = .ok (.bl false) h1) (hr : (evSs C b env h1).andThen (fun e g => evSs C r e g) = R) : evSs C (.iff c a b :: r) env h = R :=
  s_iff hc (by rw [if_neg Bool.false_ne_true, hr])
theorem s_yes (hc : evE C c env h = .ok (.bl true) h1) (hr : (evSs C a env h1).andThen (fun e g => evSs C r e g) = R) : evSs C (.iff c a b :: r) env h = R :=
  s_iff hc (by rw [if_pos rfl, hr])
/-- a choice whose way returns -/
theorem s_yes_ret (hc : evE C c env h = .ok (.bl true) h1) (hr : evSs C a env h1 = .ret v h2) : evSs C (.iff c a b :: r) env h = .ret v h2 :=
  s_yes hc (by rw [hr, at_ret])
theorem s_raise {k : Nat} {es : List Ex} {vs : List V} {K : ClsD} (he : evEs C es env h = .ok vs h1) (hK : C.P.cls k = some K) (hx : K.xfs = []) : evSs C (.raise k es :: r) env h = .exc ⟨k, []⟩ env h1 := by
  rw [r_scons]
  simp only [evS]
  rw [he, fl_ok]
  simp [hK, hx]
theorem s_at {env1 : Env} (hr : evSs C a env h = .nx env1 h1) {f : Env → Heap → Fl} : (evSs C a env h).andThen f = f env1 h1 := by rw [hr, at_nx]
end
section
variable {P : Prog} {d f : Nat} {F : FnD} {as : List V} {h h1 : Heap} {v : V}
theorem f_ret (hf : P.fns f = some F) (hl : as.length = F.nparams) (hb : evSs ⟨P, callD P d, none⟩ F.body (startE F as) h = .ret v h) : callD P (d + 1) f as h = .ok v h := by
  rw [callD_of hf hl, hb, finish_ret, gcF_same]
theorem f_lo (hf : P.fns f = some F) (hl : as.length = F.nparams) {l : Heap} (hb : evSs ⟨P, callD P d, none⟩ F.body (startE F as) h = .ret v (h ++ l)) (hv : v.lo h.length = true) : callD P (d + 1) f as h = .ok v h := by
  rw [callD_of hf hl, hb, finish_ret, gcF_lo _ _ _ hv]
theorem f_nx {env1 : Env} (hf : P.fns f = some F) (hl : as.length = F.nparams) (hb : evSs ⟨P, callD P d, none⟩ F.body (startE F as) h = .nx env1 h) : callD P (d + 1) f as h = .ok .non h := by
  rw [callD_of hf hl, hb, finish_nx, gcF_same]
theorem f_exc {env1 : Env} {c : Nat} {l : Heap} (hf : P.fns f = some F) (hl : as.length = F.nparams) (hb : evSs ⟨P, callD P d, none⟩ F.body (startE F as) h = .exc ⟨c, []⟩ env1 (h ++ l)) : callD P (d + 1) f as h = .exc ⟨c, []⟩ h := by
  rw [callD_of hf hl, hb, finish_exc, gcX_app]
end
/-! ### comprehensions -/
section
variable {C : Ctx} {env : Env} {h : Heap} {elt : Ex} {k : Src} {ss : List Ex} {tests : List Ex} {own : List Nat} {vs xs : List V} {st : List (Nat × Obj)}
theorem stays_app {h : Heap} {st : List (Nat × Obj)} (hs : stays h st = true) (l : Heap) : stays (h ++ l) st = true := by
  unfold stays at hs ⊢
  rw [List.all_eq_true] at hs ⊢
  intro q hq
  have := of_decide_eq_true (hs q hq)
  refine decide_eq_true ?_
  rw [List.getElem?_append_left (List.getElem?_eq_some_iff.mp this).1, this]
theorem r_comp (elt : Ex) (tg : Tg) (k : Src) (ss tests : List Ex) (own : List Nat) : evE C (.comp elt tg k ss tests own) env h = (evEs C ss env h).bind fun vs h1 => match srcOf k vs h1 with
    | some (xs, st) => compL (fun e g => evE C elt e g) (fun e g => evT C tests e g) (wipeE env own) tg st h1.length xs (h1 ++ [.lst []])
    | none => .stuck := by
  first
  | (simp only [evE]; done)
  | (simp only [evE]; rfl)
/-- a filter and a map, with one name -/
theorem e_comp {i : Nat} (q : V → Bool) (g : V → V) (hs : evEs C ss env h = .ok vs h) (hsrc : srcOf k vs h = some (xs, st)) (hst : stays h st = true) (hl : xs.length ≤ LINE)
    (hx : ∀ x ∈ xs, ∀ l, evT C tests ((wipeE env own).set i (some x)) (h ++ [.lst l]) = .ok (q x) (h ++ [.lst l]) ∧ (q x = true → evE C elt ((wipeE env own).set i (some x)) (h ++ [.lst l]) = .ok (g x) (h ++ [.lst l]))) :
    evE C (.comp elt (.nm i) k ss tests own) env h = .ok (.ref h.length) (h ++ [.lst ((xs.filter q).map g)]) := by
  rw [r_comp, hs, bind_ok, hsrc]
  show compL _ _ _ _ _ _ _ _ = _
  have := comp_map (f := fun e g => evE C elt e g) (t := fun e g => evT C tests e g) (env := wipeE env own) (tg := .nm i) (st := st) (h := h) q g xs [] (by simpa using hl) (fun l => stays_app hst _) (fun x hx1 l => ⟨_, rfl, (hx x hx1 l).1, fun hq => by rw [(hx x hx1 l).2 hq, gcR_same]⟩)
  simpa using this
theorem t_nil (h : Heap) : evT C [] env h = .ok true h := by simp only [evT]
theorem t_one {e : Ex} {b : Bool} (he : evE C e env h = .ok (.bl b) h) : evT C [e] env h = .ok b h := by
  simp only [evT]
  rw [he, gcR_same, truth_ok, bind_ok]
  cases b <;> rfl
/-- a map, with one name -/
theorem e_map {i : Nat} (g : V → V) (hs : evEs C ss env h = .ok vs h) (hsrc : srcOf k vs h = some (xs, st)) (hst : stays h st = true) (hl : xs.length ≤ LINE)
    (hx : ∀ x ∈ xs, ∀ l, evE C elt ((wipeE env own).set i (some x)) (h ++ [.lst l]) = .ok (g x) (h ++ [.lst l])) :
    evE C (.comp elt (.nm i) k ss [] own) env h = .ok (.ref h.length) (h ++ [.lst (xs.map g)]) := by
  have := e_comp (C := C) (env := env) (h := h) (elt := elt) (k := k) (ss := ss) (tests := []) (own := own) (i := i) (fun _ => true) g hs hsrc hst hl fun x hx1 l => ⟨t_nil _, fun _ => hx x hx1 l⟩
  rw [List.filter_eq_self.mpr (fun _ _ => rfl)] at this
  exact this
/-- a filter that lets nothing through -/
theorem e_none {i : Nat} {t : Ex} (hs : evEs C ss env h = .ok vs h) (hsrc : srcOf k vs h = some (xs, st)) (hst : stays h st = true) (hl : xs.length ≤ LINE)
    (hx : ∀ x ∈ xs, ∀ l, evE C t ((wipeE env own).set i (some x)) (h ++ [.lst l]) = .ok (.bl false) (h ++ [.lst l])) :
    evE C (.comp elt (.nm i) k ss [t] own) env h = .ok (.ref h.length) (h ++ [.lst []]) := by
  have := e_comp (C := C) (env := env) (h := h) (elt := elt) (k := k) (ss := ss) (tests := [t]) (own := own) (i := i) (fun _ => false) id hs hsrc hst hl fun x hx1 l => ⟨t_one (hx x hx1 l), by simp⟩
  rw [List.filter_eq_nil_iff.mpr (fun _ _ => by simp)] at this
  exact this
end
/-! ### for -/
section
variable {b : Env → Heap → Fl} {tg : Tg} {st : List (Nat × Obj)}
theorem for_inv (I : List V → Env → Heap → Prop) (Q : Fl → Prop) (hst : ∀ xs e h, I xs e h → stays h st = true)
    (hb : ∀ x xs e h, I (x :: xs) e h → ∃ e1, bindT h tg x e = some e1 ∧ ((∃ e2 h2, b e1 h = .nx e2 h2 ∧ I xs e2 h2) ∨ (∃ e2 h2, b e1 h = .ct e2 h2 ∧ I xs e2 h2) ∨ (∃ v h2, b e1 h = .ret v h2 ∧ Q (.ret v h2)) ∨ (∃ e2 h2, b e1 h = .brk e2 h2 ∧ Q (.nx e2 h2)))) :
    ∀ xs e h, I xs e h → (∃ e2 h2, forL b tg st xs e h = .nx e2 h2 ∧ I [] e2 h2) ∨ Q (forL b tg st xs e h)
  | [], e, h, hi => .inl ⟨e, h, by simp [forL, hst _ _ _ hi], hi⟩
  | x :: xs, e, h, hi => by
    obtain ⟨e1, b1, hc⟩ := hb x xs e h hi
    simp only [forL, hst _ _ _ hi, if_true, b1]
    rcases hc with ⟨e2, h2, q1, q2⟩ | ⟨e2, h2, q1, q2⟩ | ⟨v, h2, q1, q2⟩ | ⟨e2, h2, q1, q2⟩
    · rw [q1]; exact for_inv I Q hst hb xs e2 h2 q2
    · rw [q1]; exact for_inv I Q hst hb xs e2 h2 q2
    · rw [q1]; exact .inr q2
    · rw [q1]; exact .inr q2
end
end MP
end

section
set_option Elab.async false
set_option linter.all false
set_option maxRecDepth 10000
namespace MP
/-! ### plain values, and when two are equal -/
mutual
/-- data without addresses, so many tuples deep at most -/
def V.pl : V → Nat → Bool
  | .tup xs => fun n => match n with
    | 0 => false
    | n + 1 => V.pls xs n
  | .non => fun _ => true
  | .bl _ => fun _ => true
  | .int _ => fun _ => true
  | .str _ => fun _ => true
  | .ref _ => fun _ => false
  | .fn _ => fun _ => false
  | .cls _ => fun _ => false
def V.pls : List V → Nat → Bool
  | [] => fun _ => true
  | x :: xs => fun n => V.pl x n && V.pls xs n
end
mutual
def V.toD : V → Dt
  | .tup xs => .tup (V.toDs xs)
  | .bl b => .bl b
  | .int i => .int i
  | .str s => .str s
  | .non => .non
  | .ref _ => .non
  | .fn _ => .non
  | .cls _ => .non
def V.toDs : List V → List Dt
  | [] => []
  | x :: xs => x.toD :: V.toDs xs
end
mutual
theorem deepV_pl (rd : Nat → Option Dt) : ∀ (v : V) (n : Nat), v.pl n = true → deepV rd v = some v.toD
  | .tup xs, n, h => by
    cases n with
    | zero => simp [V.pl] at h
    | succ n => simp only [V.pl] at h; simp [deepV, V.toD, deepVs_pl rd xs n h]
  | .non, n, h => by simp [deepV, V.toD]
  | .bl b, n, h => by simp [deepV, V.toD]
  | .int b, n, h => by simp [deepV, V.toD]
  | .str b, n, h => by simp [deepV, V.toD]
  | .ref b, n, h => by simp [V.pl] at h
  | .fn b, n, h => by simp [V.pl] at h
  | .cls b, n, h => by simp [V.pl] at h
theorem deepVs_pl (rd : Nat → Option Dt) : ∀ (v : List V) (n : Nat), V.pls v n = true → deepVs rd v = some (V.toDs v)
  | [], n, h => by simp [deepVs, V.toDs]
  | x :: xs, n, h => by
    simp [V.pls] at h
    simp [deepVs, V.toDs, deepV_pl rd x n h.1, deepVs_pl rd xs n h.2]
end
mutual
theorem depth_pl : ∀ (v : V) (n : Nat), v.pl n = true → v.toD.depth ≤ n
  | .tup xs, n, h => by
    cases n with
    | zero => simp [V.pl] at h
    | succ n =>
      simp only [V.pl] at h
      have := depths_pl xs n h
      simp [V.toD, Dt.depth]
      omega
  | .non, n, h => by simp [V.toD, Dt.depth]
  | .bl b, n, h => by simp [V.toD, Dt.depth]
  | .int b, n, h => by simp [V.toD, Dt.depth]
  | .str b, n, h => by simp [V.toD, Dt.depth]
  | .ref b, n, h => by simp [V.pl] at h
  | .fn b, n, h => by simp [V.pl] at h
  | .cls b, n, h => by simp [V.pl] at h
theorem depths_pl : ∀ (v : List V) (n : Nat), V.pls v n = true → Dt.depths (V.toDs v) ≤ n
  | [], n, h => by simp [V.toDs, Dt.depths]
  | x :: xs, n, h => by
    simp [V.pls] at h
    have := depth_pl x n h.1
    have := depths_pl xs n h.2
    simp [V.toDs, Dt.depths]
    omega
end
mutual
theorem eqv_refl : ∀ d : Dt, d.eqv d = true
  | .tup xs => by simp [Dt.eqv, eqvs_refl xs]
  | .lst xs => by simp [Dt.eqv, eqvs_refl xs]
  | .non => by simp [Dt.eqv]
  | .bl b => by simp [Dt.eqv]
  | .int b => by simp [Dt.eqv]
  | .str b => by simp [Dt.eqv]
theorem eqvs_refl : ∀ d : List Dt, Dt.eqvs d d = true
  | [] => by simp [Dt.eqvs]
  | x :: xs => by simp [Dt.eqvs, eqv_refl x, eqvs_refl xs]
end
mutual
/-- no truths -/
def V.nb : V → Bool
  | .tup xs => V.nbs xs
  | .bl _ => false
  | .non => true
  | .int _ => true
  | .str _ => true
  | .ref _ => false
  | .fn _ => false
  | .cls _ => false
def V.nbs : List V → Bool
  | [] => true
  | x :: xs => V.nb x && V.nbs xs
end
mutual
theorem eqv_nb : ∀ (x y : V), x.nb = true → y.nb = true → (x.toD.eqv y.toD = true ↔ x = y)
  | .tup xs, y, hx, hy => by
    cases y with
    | tup ys =>
      simp only [V.nb] at hx hy
      simp [V.toD, Dt.eqv, eqvs_nb xs ys hx hy]
    | _ => first | (simp [V.toD, Dt.eqv]; done) | (simp [V.nb] at hy)
  | .non, y, hx, hy => by cases y <;> first | (simp [V.toD, Dt.eqv]; done) | (simp [V.nb] at hy)
  | .bl b, y, hx, hy => by simp [V.nb] at hx
  | .int b, y, hx, hy => by cases y <;> first | (simp [V.toD, Dt.eqv]; done) | (simp [V.nb] at hy)
  | .str b, y, hx, hy => by cases y <;> first | (simp [V.toD, Dt.eqv]; done) | (simp [V.nb] at hy)
  | .ref b, y, hx, hy => by simp [V.nb] at hx
  | .fn b, y, hx, hy => by simp [V.nb] at hx
  | .cls b, y, hx, hy => by simp [V.nb] at hx
theorem eqvs_nb : ∀ (x y : List V), V.nbs x = true → V.nbs y = true → (Dt.eqvs (V.toDs x) (V.toDs y) = true ↔ x = y)
  | [], y, hx, hy => by cases y <;> simp [V.toDs, Dt.eqvs]
  | a :: x, y, hx, hy => by
    cases y with
    | nil => simp [V.toDs, Dt.eqvs]
    | cons b y =>
      simp [V.nbs] at hx hy
      simp [V.toDs, Dt.eqvs, eqv_nb a b hx.1 hy.1, eqvs_nb x y hx.2 hy.2]
end
section
variable {h : Heap} {x y : V} {xs ys : List V} {a b n : Nat}
theorem eq_pl (hx : x.pl 100 = true) (hy : y.pl 100 = true) : eqV h x y = some (x.toD.eqv y.toD) := by
  unfold eqV deep
  rw [deepV_pl _ x 100 hx, deepV_pl _ y 100 hy]
  simp only
  have := depth_pl x 100 hx
  rw [if_pos (by omega)]
/-- the same value -/
theorem eq_self (hx : x.pl 100 = true) : eqV h x x = some true := by rw [eq_pl hx hx, eqv_refl]
theorem eq_nb (hx : x.pl 100 = true) (hy : y.pl 100 = true) (bx : x.nb = true) (by' : y.nb = true) : eqV h x y = some (decide (x = y)) := by
  rw [eq_pl hx hy]
  congr 1
  rw [Bool.eq_iff_iff, eqv_nb x y bx by', decide_eq_true_iff]
theorem c_eq_self (hx : x.pl 100 = true) : cmpV .eq h x x = some true := eq_self hx
theorem c_ne_self (hx : x.pl 100 = true) : cmpV .ne h x x = some false := by
  show (eqV h x x).map not = _
  rw [eq_self hx]; rfl
theorem c_eq_nb (hx : x.pl 100 = true) (hy : y.pl 100 = true) (bx : x.nb = true) (by' : y.nb = true) : cmpV .eq h x y = some (decide (x = y)) := eq_nb hx hy bx by'
theorem c_ne_nb (hx : x.pl 100 = true) (hy : y.pl 100 = true) (bx : x.nb = true) (by' : y.nb = true) : cmpV .ne h x y = some (!decide (x = y)) := by
  show (eqV h x y).map not = _
  rw [eq_nb hx hy bx by']; rfl
/-- lists of plain values -/
theorem deep_lst (ha : listAt h a = some xs) (hx : V.pls xs 100 = true) : deep h (.ref a) = some (.lst (V.toDs xs)) := by
  unfold deep
  simp only [deepV, rdD, ha]
  rw [deepVs_pl _ xs 100 hx]
  rfl
theorem eq_lst (ha : listAt h a = some xs) (hb : listAt h b = some ys) (hx : V.pls xs 100 = true) (hy : V.pls ys 100 = true) : eqV h (.ref a) (.ref b) = some (Dt.eqvs (V.toDs xs) (V.toDs ys)) := by
  unfold eqV
  rw [deep_lst ha hx, deep_lst hb hy]
  have := depths_pl xs 100 hx
  have h1 : Dt.depth (.lst (V.toDs xs)) ≤ 101 := by simp [Dt.depth]; omega
  show (if min (Dt.depth (.lst (V.toDs xs))) (Dt.depth (.lst (V.toDs ys))) ≤ 150 then some (Dt.eqv (.lst (V.toDs xs)) (.lst (V.toDs ys))) else none) = _
  rw [if_pos (by omega)]
  simp [Dt.eqv]
theorem c_ne_lst (ha : listAt h a = some xs) (hb : listAt h b = some xs) (hx : V.pls xs 100 = true) : cmpV .ne h (.ref a) (.ref b) = some false := by
  show (eqV h _ _).map not = _
  rw [eq_lst ha hb hx hx, eqvs_refl]; rfl
theorem c_eq_lst (ha : listAt h a = some xs) (hb : listAt h b = some xs) (hx : V.pls xs 100 = true) : cmpV .eq h (.ref a) (.ref b) = some true := by
  show eqV h _ _ = _
  rw [eq_lst ha hb hx hx, eqvs_refl]
theorem c_ne_nil (ha : listAt h a = some xs) (hb : listAt h b = some []) (hx : V.pls xs 100 = true) : cmpV .ne h (.ref a) (.ref b) = some (!xs.isEmpty) := by
  show (eqV h _ _).map not = _
  rw [eq_lst ha hb hx rfl]
  cases xs <;> rfl
theorem c_eq_nil (ha : listAt h a = some xs) (hb : listAt h b = some []) (hx : V.pls xs 100 = true) : cmpV .eq h (.ref a) (.ref b) = some (xs.isEmpty) := by
  show eqV h _ _ = _
  rw [eq_lst ha hb hx rfl]
  cases xs <;> rfl
theorem pls_map {α : Type} (f : α → V) (n : Nat) : ∀ l : List α, (∀ x ∈ l, (f x).pl n = true) → V.pls (l.map f) n = true
  | [], _ => rfl
  | x :: l, h => by
    simp only [List.map, V.pls]
    rw [h x (by simp), pls_map f n l fun y hy => h y (List.mem_cons_of_mem _ hy)]
    rfl
theorem listAt_app {h l : Heap} (e : listAt h a = some xs) : listAt (h ++ l) a = some xs := by
  unfold listAt at e ⊢
  cases q : h[a]? with
  | none => rw [q] at e; cases e
  | some o =>
    rw [List.getElem?_append_left (List.getElem?_eq_some_iff.mp q).1, q]
    rw [q] at e
    exact e
theorem listAt_new {h l : Heap} : listAt (h ++ .lst xs :: l) h.length = some xs := by simp [listAt]
end
end MP
end

section
set_option Elab.async false
set_option linter.all false
set_option maxRecDepth 10000
namespace MP
/-! ### rules that reckon an expression, its value found on the way -/
def Ext (h h1 : Heap) : Prop := ∃ l, h1 = h ++ l
theorem Ext.refl (h : Heap) : Ext h h := ⟨[], by simp⟩
theorem Ext.app {h h1 : Heap} (e : Ext h h1) (l : Heap) : Ext h (h1 ++ l) := by
  obtain ⟨k, rfl⟩ := e
  exact ⟨k ++ l, by simp⟩
theorem gc_same (h : Heap) (v : V) : gcR h (.ok v h) = .ok v h := gcR_same h v
theorem gc_lo {h h1 : Heap} {v : V} (e : Ext h h1) (hv : v.lo h.length = true) : gcR h (.ok v h1) = .ok v h := by
  obtain ⟨l, rfl⟩ := e
  rw [gcR_app, if_pos hv]
theorem gc_new (h : Heap) (o : Obj) : gcR h (.ok (.ref h.length) (h ++ [o])) = .ok (.ref h.length) (h ++ [o]) := by
  rw [gcR_app, if_neg (by simp [V.lo])]
theorem fin_same (h : Heap) (v : V) : gcF h v h = .ok v h := gcF_same h v
theorem fin_lo {h h1 : Heap} {v : V} (e : Ext h h1) (hv : v.lo h.length = true) : gcF h v h1 = .ok v h := by
  obtain ⟨l, rfl⟩ := e
  exact gcF_lo h l v hv
/-- a new list is kept -/
theorem fin_list {h h1 : Heap} {a : Nat} {xs : List V} (e : Ext h h1) (ha : h1[a]? = some (.lst xs)) (hl : h.length ≤ a) (hx : V.los h.length xs = true) : gcF h (.ref a) h1 = .ok (.ref h.length) (h ++ [.lst xs]) := by
  obtain ⟨l, rfl⟩ := e
  unfold gcF
  have : V.lo h.length (.ref a) = false := by simp [V.lo]; omega
  rw [this]
  simp [ha, hl, hx, okPre_app]
section
variable {C : Ctx} {env : Env} {h h1 h2 h3 h4 : Heap} {a b c : Ex} {x y v w : V} {s t : Bool}
theorem e_lit : evE C (.lit v) env h = .ok v h := by rw [r_lit]
theorem e_var {i : Nat} (q : (env[i]?).join = some v) : evE C (.var i) env h = .ok v h := by rw [r_var, q, ofO_some]
theorem e_glob {g : Nat} (q : C.P.glb g = some v) : evE C (.glob g) env h = .ok v h := by rw [r_glob, q, ofO_some]
theorem e_nil : evEs C [] env h = .ok [] h := by rw [r_nil]
theorem e_cons {es : List Ex} {vs : List V} (q1 : evE C a env h = .ok v h1) (q2 : evEs C es env h1 = .ok vs h2) : evEs C (a :: es) env h = .ok (v :: vs) h2 := by
  rw [r_cons, q1, bind_ok, q2, bind_ok]
theorem e_tup {es : List Ex} {vs : List V} (q : evEs C es env h = .ok vs h1) : evE C (.tup es) env h = .ok (.tup vs) h1 := by
  rw [r_tup, q, bind_ok]
theorem e_lst {es : List Ex} {vs : List V} (q : evEs C es env h = .ok vs h1) : evE C (.lst es) env h = .ok (.ref h1.length) (h1 ++ [.lst vs]) := by
  rw [r_lst, q, bind_ok]
theorem e_bin {op : Op} (q1 : evE C a env h = .ok x h1) (q2 : evE C b env h1 = .ok y h2) (q3 : binV op x y h2 = .ok v h3) : evE C (.bin op a b) env h = .ok v h3 := by
  rw [r_bin, q1, bind_ok, q2, bind_ok, q3]
theorem e_neg {i : Int} (q1 : evE C a env h = .ok (.int i) h1) : evE C (.neg a) env h = .ok (.int (-i)) h1 := by
  rw [r_neg, q1, bind_ok]
theorem e_and (q1 : evE C a env h = .ok (.bl s) h) (q2 : s = true → evE C b env h = .ok (.bl t) h) : evE C (.and_ a b) env h = .ok (.bl (s && t)) h := by
  rw [r_and, q1, truth_ok, bind_ok]
  cases s with
  | true => rw [if_pos rfl, q2 rfl, truth_ok, bind_ok]; rfl
  | false => rw [if_neg Bool.false_ne_true]; rfl
theorem e_or (q1 : evE C a env h = .ok (.bl s) h) (q2 : s = false → evE C b env h = .ok (.bl t) h) : evE C (.or_ a b) env h = .ok (.bl (s || t)) h := by
  rw [r_or, q1, truth_ok, bind_ok]
  cases s with
  | false => rw [if_neg Bool.false_ne_true, q2 rfl, truth_ok, bind_ok]; rfl
  | true => rw [if_pos rfl]; rfl
theorem e_and_f (q1 : evE C a env h = .ok (.bl false) h1) : evE C (.and_ a b) env h = .ok (.bl false) h1 := by
  rw [r_and, q1, truth_ok, bind_ok]; rfl
theorem e_and_t (q1 : evE C a env h = .ok (.bl true) h1) (q2 : evE C b env h1 = .ok (.bl t) h2) : evE C (.and_ a b) env h = .ok (.bl t) h2 := by
  rw [r_and, q1, truth_ok, bind_ok, if_pos rfl, q2, truth_ok, bind_ok]
theorem e_or_t (q1 : evE C a env h = .ok (.bl true) h1) : evE C (.or_ a b) env h = .ok (.bl true) h1 := by
  rw [r_or, q1, truth_ok, bind_ok]; rfl
theorem e_or_f (q1 : evE C a env h = .ok (.bl false) h1) (q2 : evE C b env h1 = .ok (.bl t) h2) : evE C (.or_ a b) env h = .ok (.bl t) h2 := by
  rw [r_or, q1, truth_ok, bind_ok, if_neg Bool.false_ne_true, q2, truth_ok, bind_ok]
theorem e_not (q1 : evE C a env h = .ok (.bl s) h1) : evE C (.not_ a) env h = .ok (.bl (!s)) h1 := by
  rw [r_not, q1, truth_ok, bind_ok]
/-- to a value that is told -/
theorem ev_to {R r r' : Res V} (q1 : R = r) (q2 : r = r') : R = r' := q1.trans q2
theorem e_cmp {op : Cmp} (q1 : evE C a env h = .ok x h1) (q2 : evE C b env h1 = .ok y h2) (q3 : cmpV op h2 x y = some t) (q4 : Ext h h2) : evE C (.cmp op a b) env h = .ok (.bl t) h := by
  rw [r_cmp, q1, bind_ok, q2, bind_ok, q3, ofB_some, gc_lo q4 rfl]
theorem e_chain {o1 o2 : Cmp} {z : V} (q1 : evE C a env h = .ok x h) (q2 : evE C b env h = .ok y h) (q3 : cmpV o1 h x y = some s) (q4 : s = true → evE C c env h = .ok z h) (q5 : s = true → cmpV o2 h y z = some t) : evE C (.chain o1 o2 a b c) env h = .ok (.bl (s && t)) h := by
  simp only [evE]
  rw [q1, bind_ok, q2, bind_ok, q3]
  cases s with
  | true => simp only; rw [q4 rfl, bind_ok, q5 rfl, ofB_some]; rfl
  | false => rfl
theorem e_ite (q1 : evE C c env h = .ok (.bl s) h) (q2 : s = true → evE C a env h = .ok v h) (q3 : s = false → evE C b env h = .ok w h) : evE C (.ite c a b) env h = .ok (if s then v else w) h := by
  rw [r_ite, q1, truth_ok, bind_ok]
  cases s with
  | true => rw [if_pos rfl, if_pos rfl, q2 rfl]
  | false => rw [if_neg Bool.false_ne_true, if_neg Bool.false_ne_true, q3 rfl]
theorem e_ite_t (q1 : evE C c env h = .ok (.bl true) h1) (q2 : evE C a env h1 = .ok v h2) : evE C (.ite c a b) env h = .ok v h2 := by
  rw [r_ite, q1, truth_ok, bind_ok, if_pos rfl, q2]
theorem e_ite_f (q1 : evE C c env h = .ok (.bl false) h1) (q2 : evE C b env h1 = .ok v h2) : evE C (.ite c a b) env h = .ok v h2 := by
  rw [r_ite, q1, truth_ok, bind_ok, if_neg Bool.false_ne_true, q2]
theorem e_idx (q1 : evE C a env h = .ok x h1) (q2 : evE C b env h1 = .ok y h2) (q3 : idxV h2 x y = some v) (q4 : gcR h (.ok v h2) = .ok w h3) : evE C (.idx a b) env h = .ok w h3 := by
  rw [r_idx, q1, bind_ok, q2, bind_ok, q3, ofO_some, q4]
theorem r_slc (a : Ex) (lo hi : List Ex) : evE C (.slc a lo hi) env h = (evE C a env h).bind fun x h1 => (evEs C lo env h1).bind fun l h2 => match partOf l with
    | some l => (evEs C hi env h2).bind fun u h3 => match partOf u with
      | some u => slcV h3 x l u
      | none => .stuck
    | none => .stuck := by
  first
  | (simp only [evE]; done)
  | (simp only [evE]; rfl)
theorem e_slc {lo hi : List Ex} {l u : List V} {l1 u1 : V} (q1 : evE C a env h = .ok x h1) (q2 : evEs C lo env h1 = .ok l h2) (q3 : partOf l = some l1) (q4 : evEs C hi env h2 = .ok u h3) (q5 : partOf u = some u1) (q6 : slcV h3 x l1 u1 = .ok v h4) : evE C (.slc a lo hi) env h = .ok v h4 := by
  rw [r_slc, q1, bind_ok, q2, bind_ok, q3]
  simp only
  rw [q4, bind_ok, q5]
  exact q6
theorem e_callf {f : Nat} {es ks : List Ex} {kn : List Nat} {vs ws as : List V} {F : FnD} (q1 : evEs C es env h = .ok vs h1) (q2 : evEs C ks env h1 = .ok ws h2) (q3 : C.P.fns f = some F) (q4 : bindF F vs (kn.zip ws) = some as) (q5 : C.call f as h2 = .ok v h3) (q6 : gcR h (.ok v h3) = .ok w h4) : evE C (.callf f es kn ks) env h = .ok w h4 := by
  rw [r_callf, q1, bind_ok, q2, bind_ok, q3]
  simp only
  rw [q4]
  simp only
  rw [q5, q6]
theorem e_callx {f : Nat} {es ks : List Ex} {kn : List Nat} {vs ws as : List V} {F : FnD} {z : XV} (q1 : evEs C es env h = .ok vs h1) (q2 : evEs C ks env h1 = .ok ws h2) (q3 : C.P.fns f = some F) (q4 : bindF F vs (kn.zip ws) = some as) (q5 : C.call f as h2 = .exc z h3) : evE C (.callf f es kn ks) env h = .exc z h3 := by
  rw [r_callf, q1, bind_ok, q2, bind_ok, q3]
  simp only
  rw [q4]
  simp only
  rw [q5, gcR_exc]
theorem e_callb {f : Bi} {es : List Ex} {vs : List V} (q1 : evEs C es env h = .ok vs h1) (q2 : biV f vs h1 = .ok v h2) (q3 : gcR h (.ok v h2) = .ok w h3) : evE C (.callb f es) env h = .ok w h3 := by
  rw [r_callb, q1, bind_ok, q2, q3]
theorem e_bmeth {m : Bm} {es : List Ex} {vs : List V} (q1 : evE C a env h = .ok x h1) (q2 : bmT m x h1 = true) (q3 : evEs C es env h1 = .ok vs h2) (q4 : bmV m x vs h2 = .ok v h3) (q5 : gcR h (.ok v h3) = .ok w h4) : evE C (.bmeth a m es) env h = .ok w h4 := by
  rw [r_bmeth, q1, bind_ok, if_pos q2, q3, bind_ok, q4, q5]
theorem e_xis {k : Nat} {z : XV} {K : ClsD} (q1 : C.x = some z) (q2 : C.P.cls z.c = some K) (q3 : z.fs.isEmpty = true) : evE C (.xis k) env h = .ok (.bl (K.sup.contains k)) h := by
  simp only [evE, q1, q2, q3, if_true]
end
/-! ### sizes of ints -/
theorem bz_mul {i j : Int} {n m : Nat} (a : i.natAbs < 2 ^ n) (b : j.natAbs < 2 ^ m) : (i * j).natAbs < 2 ^ (n + m) := by
  rw [Int.natAbs_mul, Nat.pow_add]
  exact Nat.mul_lt_mul_of_lt_of_lt a b
theorem bz_up {i : Int} {n m : Nat} (a : i.natAbs < 2 ^ n) (h : n ≤ m) : i.natAbs < 2 ^ m := Nat.lt_of_lt_of_le a (Nat.pow_le_pow_right (by omega) h)
theorem bz_add {i j : Int} {n m : Nat} (a : i.natAbs < 2 ^ n) (b : j.natAbs < 2 ^ m) : (i + j).natAbs < 2 ^ (n + m + 1) := by
  have a1 := bz_up a (show n ≤ n + m by omega)
  have b1 := bz_up b (show m ≤ n + m by omega)
  rw [Nat.pow_succ]
  omega
theorem bz_sub {i j : Int} {n m : Nat} (a : i.natAbs < 2 ^ n) (b : j.natAbs < 2 ^ m) : (i - j).natAbs < 2 ^ (n + m + 1) := by
  have a1 := bz_up a (show n ≤ n + m by omega)
  have b1 := bz_up b (show m ≤ n + m by omega)
  rw [Nat.pow_succ]
  omega
theorem bz_neg {i : Int} {n : Nat} (a : i.natAbs < 2 ^ n) : (-i).natAbs < 2 ^ n := by
  rw [Int.natAbs_neg]; exact a
theorem bz_abs {i : Int} {n : Nat} (a : i.natAbs < 2 ^ n) : ((i.natAbs : Nat) : Int).natAbs < 2 ^ n := by
  rw [Int.natAbs_natCast]; exact a
theorem bz_60 {i : Int} (a : -1152921504606846976 < i ∧ i < 1152921504606846976) : i.natAbs < 2 ^ 60 := by omega
theorem bz_small {i : Int} {n : Nat} (a : i.natAbs < 2 ^ n) (b : n ≤ 8000) : small i = true := small_of b a
/-! lists, by shapes -/
theorem ix_0 (h : Heap) (x : V) (xs : List V) : idxV h (.tup (x :: xs)) (.int 0) = some x := by
  simp [idxV, idxL, atIdx]
theorem ix_1 (h : Heap) (x y : V) (xs : List V) : idxV h (.tup (x :: y :: xs)) (.int 1) = some y := by
  have : (1 : Int) < (xs.length : Int) + 1 + 1 := by omega
  simp [idxV, idxL, atIdx, this]
theorem ix_2 (h : Heap) (x y z : V) (xs : List V) : idxV h (.tup (x :: y :: z :: xs)) (.int 2) = some z := by
  have : (2 : Int) < (xs.length : Int) + 1 + 1 + 1 := by omega
  simp [idxV, idxL, atIdx, this]
theorem ix_3 (h : Heap) (x y z w : V) (xs : List V) : idxV h (.tup (x :: y :: z :: w :: xs)) (.int 3) = some w := by
  have : (3 : Int) < (xs.length : Int) + 1 + 1 + 1 + 1 := by omega
  simp [idxV, idxL, atIdx, this]
theorem idxL_of {xs : List V} {i : Int} {v : V} (h0 : 0 ≤ i) (hv : xs[i.toNat]? = some v) : idxL xs (.int i) = some v := by
  have h1 := (List.getElem?_eq_some_iff.mp hv).1
  simp only [idxL, atIdx]
  rw [if_pos (by simp [h0]; omega)]
  simpa using hv
theorem ix_lst {h : Heap} {a : Nat} {xs : List V} {i : Int} {v : V} (ha : listAt h a = some xs) (h0 : 0 ≤ i) (hv : xs[i.toNat]? = some v) : idxV h (.ref a) (.int i) = some v := by
  have e : idxV h (.ref a) (.int i) = idxL xs (.int i) := by
    unfold listAt at ha
    simp only [idxV]
    cases q : h[a]? with
    | none => rw [q] at ha; cases ha
    | some o => rw [q] at ha; cases o <;> simp at ha <;> rw [ha]
  rw [e, idxL_of h0 hv]
theorem ix_tup {h : Heap} {xs : List V} {i : Int} {v : V} (h0 : 0 ≤ i) (hv : xs[i.toNat]? = some v) : idxV h (.tup xs) (.int i) = some v := idxL_of h0 hv
/-! isinstance, by shapes -/
theorem bi_isint_non (h : Heap) : biV .isint [.non] h = .ok (.bl false) h := rfl
theorem bi_isint_bl (x : Bool) (h : Heap) : biV .isint [.bl x] h = .ok (.bl true) h := rfl
theorem bi_isint_int (x : Int) (h : Heap) : biV .isint [.int x] h = .ok (.bl true) h := rfl
theorem bi_isint_str (x : List Nat) (h : Heap) : biV .isint [.str x] h = .ok (.bl false) h := rfl
theorem bi_isint_tup (x : List V) (h : Heap) : biV .isint [.tup x] h = .ok (.bl false) h := rfl
theorem bi_isint_lst {h : Heap} {a : Nat} {xs : List V} (e : listAt h a = some xs) : biV .isint [.ref a] h = .ok (.bl false) h := by rw [bi_isint]; exact isK_lst _ h a xs e
theorem bi_isbool_non (h : Heap) : biV .isbool [.non] h = .ok (.bl false) h := rfl
theorem bi_isbool_bl (x : Bool) (h : Heap) : biV .isbool [.bl x] h = .ok (.bl true) h := rfl
theorem bi_isbool_int (x : Int) (h : Heap) : biV .isbool [.int x] h = .ok (.bl false) h := rfl
theorem bi_isbool_str (x : List Nat) (h : Heap) : biV .isbool [.str x] h = .ok (.bl false) h := rfl
theorem bi_isbool_tup (x : List V) (h : Heap) : biV .isbool [.tup x] h = .ok (.bl false) h := rfl
theorem bi_isbool_lst {h : Heap} {a : Nat} {xs : List V} (e : listAt h a = some xs) : biV .isbool [.ref a] h = .ok (.bl false) h := by rw [bi_isbool]; exact isK_lst _ h a xs e
theorem bi_isstr_non (h : Heap) : biV .isstr [.non] h = .ok (.bl false) h := rfl
theorem bi_isstr_bl (x : Bool) (h : Heap) : biV .isstr [.bl x] h = .ok (.bl false) h := rfl
theorem bi_isstr_int (x : Int) (h : Heap) : biV .isstr [.int x] h = .ok (.bl false) h := rfl
theorem bi_isstr_str (x : List Nat) (h : Heap) : biV .isstr [.str x] h = .ok (.bl true) h := rfl
theorem bi_isstr_tup (x : List V) (h : Heap) : biV .isstr [.tup x] h = .ok (.bl false) h := rfl
theorem bi_isstr_lst {h : Heap} {a : Nat} {xs : List V} (e : listAt h a = some xs) : biV .isstr [.ref a] h = .ok (.bl false) h := by rw [bi_isstr]; exact isK_lst _ h a xs e
theorem bi_istuple_non (h : Heap) : biV .istuple [.non] h = .ok (.bl false) h := rfl
theorem bi_istuple_bl (x : Bool) (h : Heap) : biV .istuple [.bl x] h = .ok (.bl false) h := rfl
theorem bi_istuple_int (x : Int) (h : Heap) : biV .istuple [.int x] h = .ok (.bl false) h := rfl
theorem bi_istuple_str (x : List Nat) (h : Heap) : biV .istuple [.str x] h = .ok (.bl false) h := rfl
theorem bi_istuple_tup (x : List V) (h : Heap) : biV .istuple [.tup x] h = .ok (.bl true) h := rfl
theorem bi_istuple_lst {h : Heap} {a : Nat} {xs : List V} (e : listAt h a = some xs) : biV .istuple [.ref a] h = .ok (.bl false) h := by rw [bi_istup]; exact isK_lst _ h a xs e
theorem bi_islist_non (h : Heap) : biV .islist [.non] h = .ok (.bl false) h := rfl
theorem bi_islist_bl (x : Bool) (h : Heap) : biV .islist [.bl x] h = .ok (.bl false) h := rfl
theorem bi_islist_int (x : Int) (h : Heap) : biV .islist [.int x] h = .ok (.bl false) h := rfl
theorem bi_islist_str (x : List Nat) (h : Heap) : biV .islist [.str x] h = .ok (.bl false) h := rfl
theorem bi_islist_tup (x : List V) (h : Heap) : biV .islist [.tup x] h = .ok (.bl false) h := rfl
theorem bi_islist_lst {h : Heap} {a : Nat} {xs : List V} (e : listAt h a = some xs) : biV .islist [.ref a] h = .ok (.bl true) h := by rw [bi_islst]; exact isK_lst _ h a xs e
theorem bi_isdict_non (h : Heap) : biV .isdict [.non] h = .ok (.bl false) h := rfl
theorem bi_isdict_bl (x : Bool) (h : Heap) : biV .isdict [.bl x] h = .ok (.bl false) h := rfl
theorem bi_isdict_int (x : Int) (h : Heap) : biV .isdict [.int x] h = .ok (.bl false) h := rfl
theorem bi_isdict_str (x : List Nat) (h : Heap) : biV .isdict [.str x] h = .ok (.bl false) h := rfl
theorem bi_isdict_tup (x : List V) (h : Heap) : biV .isdict [.tup x] h = .ok (.bl false) h := rfl
theorem bi_len_ref {h : Heap} {a : Nat} {xs : List V} (e : listAt h a = some xs) : biV .len [.ref a] h = .ok (.int xs.length) h := by
  unfold listAt at e
  show (match h[a]? with
    | some (.lst xs) => Res.ok (V.int xs.length) h
    | some (.ro xs) => .ok (.int xs.length) h
    | some (.dct kvs) => .ok (.int kvs.length) h
    | _ => .stuck) = _
  cases q : h[a]? with
  | none => rw [q] at e; cases e
  | some o => rw [q] at e; cases o <;> simp at e <;> rw [e]
theorem bi_len_s {s : List Nat} {h : Heap} (l : s.length ≤ LINE) : biV .len [.str s] h = .ok (.int s.length) h := by simp [l]
theorem bi_str_s {i : Int} {h : Heap} {n : Nat} (l : i.natAbs < 2 ^ n) (ln : n ≤ 1900) : biV .str [.int i] h = .ok (.str (strI i)) h := by
  have : i.natAbs < 2 ^ TXT := by rw [TXT_eq]; exact bz_up l ln
  rw [bi_str, if_pos (decide_eq_true this)]
theorem bi_int_s {s : List Nat} {h : Heap} (l : 1 ≤ s.length) (l2 : s.length ≤ 600) (f : s.all isFig = true) : biV .int [.str s] h = .ok (.int (figVal s)) h := by
  simp [biV, l, l2, f]
theorem bi_int_bl {b : Bool} {h : Heap} : biV .int [.bl b] h = .ok (.int (if b then 1 else 0)) h := rfl
theorem bi_int_int {b : Int} {h : Heap} : biV .int [.int b] h = .ok (.int b) h := rfl
theorem bi_tuple_tup {xs : List V} {h : Heap} : biV .tuple [.tup xs] h = .ok (.tup xs) h := rfl
theorem bi_tuple_ref {h : Heap} {a : Nat} {xs : List V} (e : listAt h a = some xs) : biV .tuple [.ref a] h = .ok (.tup xs) h := by
  simp only [biV, e]
theorem bi_list_tup {xs : List V} {h : Heap} : biV .list [.tup xs] h = .ok (.ref h.length) (h ++ [.lst xs]) := rfl
theorem bi_list_ref {h : Heap} {a : Nat} {xs : List V} (e : listAt h a = some xs) : biV .list [.ref a] h = .ok (.ref h.length) (h ++ [.lst xs]) := by
  simp only [biV, seqOf, e]
theorem bi_all {h : Heap} {a : Nat} {bs : List Bool} (e : listAt h a = some (bs.map V.bl)) : biV .all [.ref a] h = .ok (.bl (bs.all id)) h := by
  have q : ∀ bs : List Bool, boolsOf (bs.map V.bl) = some bs := by
    intro bs
    induction bs with
    | nil => rfl
    | cons b r ih => simp [boolsOf, ih]
  simp only [biV, e, Option.bind_some, q]
theorem bi_any {h : Heap} {a : Nat} {bs : List Bool} (e : listAt h a = some (bs.map V.bl)) : biV .any [.ref a] h = .ok (.bl (bs.any id)) h := by
  have q : ∀ bs : List Bool, boolsOf (bs.map V.bl) = some bs := by
    intro bs
    induction bs with
    | nil => rfl
    | cons b r ih => simp [boolsOf, ih]
  simp only [biV, e, Option.bind_some, q]
/-! choices -/
def orK (s : Bool) (R : Res V) (h : Heap) : Res V := if s then .ok (.bl true) h else (truth R).bind fun y h2 => .ok (.bl y) h2
def andK (s : Bool) (R : Res V) (h : Heap) : Res V := if s then (truth R).bind fun y h2 => .ok (.bl y) h2 else .ok (.bl false) h
section
variable {C : Ctx} {env : Env} {h h1 h2 h3 h4 : Heap} {a b c : Ex} {x y v w : V} {s t : Bool} {R R2 r : Res V}
theorem e_orK (q1 : evE C a env h = .ok (.bl s) h1) (q2 : orK s (evE C b env h1) h1 = r) : evE C (.or_ a b) env h = r := by
  rw [r_or, q1, truth_ok, bind_ok]; exact q2
theorem e_andK (q1 : evE C a env h = .ok (.bl s) h1) (q2 : andK s (evE C b env h1) h1 = r) : evE C (.and_ a b) env h = r := by
  rw [r_and, q1, truth_ok, bind_ok]; exact q2
theorem ork_t : orK true R h = .ok (.bl true) h := rfl
theorem ork_f (q : R = .ok (.bl t) h2) : orK false R h = .ok (.bl t) h2 := by rw [q]; rfl
theorem ork_g (q : s = false → R = .ok (.bl t) h) : orK s R h = .ok (.bl (s || t)) h := by
  cases s with
  | true => rfl
  | false => rw [q rfl]; rfl
theorem andk_f : andK false R h = .ok (.bl false) h := rfl
theorem andk_t (q : R = .ok (.bl t) h2) : andK true R h = .ok (.bl t) h2 := by rw [q]; rfl
theorem andk_g (q : s = true → R = .ok (.bl t) h) : andK s R h = .ok (.bl (s && t)) h := by
  cases s with
  | false => rfl
  | true => rw [q rfl]; rfl
theorem e_iteK (q1 : evE C c env h = .ok (.bl s) h1) (q2 : (if s then evE C a env h1 else evE C b env h1) = r) : evE C (.ite c a b) env h = r := by
  rw [r_ite, q1, truth_ok, bind_ok]; exact q2
theorem itek_t (q : R = r) : (if true then R else R2) = r := q
theorem itek_f (q : R2 = r) : (if false then R else R2) = r := q
theorem itek_g (q1 : s = true → R = .ok v h) (q2 : s = false → R2 = .ok w h) : (if s then R else R2) = .ok (if s then v else w) h := by
  cases s with
  | true => exact q1 rfl
  | false => exact q2 rfl
end
mutual
theorem lo_clo (n : Nat) : ∀ (v : V), v.clo = true → v.lo n = true
  | .tup xs, h => by
    simp only [V.clo] at h
    simp only [V.lo]
    exact los_clo n xs h
  | .ref a, h => by simp [V.clo] at h
  | .non, h => by simp [V.lo]
  | .bl b, h => by simp [V.lo]
  | .int b, h => by simp [V.lo]
  | .str b, h => by simp [V.lo]
  | .fn b, h => by simp [V.lo]
  | .cls b, h => by simp [V.lo]
theorem los_clo (n : Nat) : ∀ (v : List V), V.clos v = true → V.los n v = true
  | [], h => rfl
  | x :: xs, h => by
    simp only [V.clos, Bool.and_eq_true] at h
    simp only [V.los, lo_clo n x h.1, los_clo n xs h.2, Bool.and_self]
end
/-! ### comprehensions, their values found on the way -/
section
variable {C : Ctx} {env : Env} {h h1 : Heap} {elt : Ex} {k : Src} {ss : List Ex} {own : List Nat} {vs xs : List V} {st : List (Nat × Obj)}
theorem e_mapf {i : Nat} {α : Type} {ys : List α} {f g : α → V} (hs : evEs C ss env h = .ok vs h1) (hsrc : srcOf k vs h1 = some (ys.map f, st)) (hst : stays h1 st = true) (hl : ys.length ≤ LINE)
    (hx : ∀ y ∈ ys, ∀ l, evE C elt ((wipeE env own).set i (some (f y))) (h1 ++ [.lst l]) = .ok (g y) (h1 ++ [.lst l])) :
    evE C (.comp elt (.nm i) k ss [] own) env h = .ok (.ref h1.length) (h1 ++ [.lst (ys.map g)]) := by
  rw [r_comp, hs, bind_ok, hsrc]
  show compL _ _ _ _ _ _ _ _ = _
  have ht : (fun e g => evT C [] e g) = fun e g => .ok true g := by funext e g; exact t_nil g
  rw [ht]
  have key : ∀ (zs : List α) (acc : List V), (∀ y ∈ zs, y ∈ ys) → acc.length + zs.length ≤ LINE → compL (fun e g => evE C elt e g) (fun e g => .ok true g) (wipeE env own) (.nm i) st h1.length (zs.map f) (h1 ++ [.lst acc]) = .ok (.ref h1.length) (h1 ++ [.lst (acc ++ zs.map g)]) := by
    intro zs
    induction zs with
    | nil => intro acc _ _; simp [compL, stays_app hst]
    | cons z zs ih =>
      intro acc hz hl
      simp only [List.map, compL, stays_app hst, if_true, bindT]
      rw [hx z (hz z (by simp)) acc, gcR_same]
      have e : (h1 ++ [Obj.lst acc])[h1.length]? = some (.lst acc) := by simp
      simp only [e]
      simp at hl
      rw [if_pos (by omega)]
      have e2 : (h1 ++ [Obj.lst acc]).set h1.length (.lst (acc ++ [g z])) = h1 ++ [.lst (acc ++ [g z])] := by simp
      rw [e2, ih (acc ++ [g z]) (fun y hy => hz y (List.mem_cons_of_mem _ hy)) (by simp; omega)]
      simp
  have := key ys [] (fun _ hy => hy) (by simpa using hl)
  simpa using this
theorem src_str (s : List Nat) (h : Heap) : srcOf .val [.str s] h = some (s.map fun c => .str [c], []) := rfl
theorem src_range1 {n : Int} {h : Heap} (l : -1152921504606846976 ≤ n ∧ n < 1152921504606846976) : srcOf .range [.int n] h = some ((List.range n.toNat).map fun k => .int (k : Int), []) := by
  have : lim n = true := decide_eq_true (by omega)
  simp only [srcOf, this, if_true, rangeV]
  congr 3
  funext k
  simp
theorem src_tup (xs : List V) (h : Heap) : srcOf .val [.tup xs] h = some (xs.map fun x => x, []) := by simp [srcOf, walkOf]
theorem in_str (c : Nat) (b : List Nat) (h : Heap) : cmpV .in_ h (.str [c]) (.str b) = some (decide (c ∈ b)) := rfl
theorem notin_str (c : Nat) (b : List Nat) (h : Heap) : cmpV .notin h (.str [c]) (.str b) = some (!decide (c ∈ b)) := rfl
theorem bi_all_map {α : Type} {h : Heap} {a : Nat} {ys : List α} {p : α → Bool} (e : listAt h a = some (ys.map fun y => V.bl (p y))) : biV .all [.ref a] h = .ok (.bl (ys.all p)) h := by
  have q : ∀ ys : List α, boolsOf (ys.map fun y => V.bl (p y)) = some (ys.map p) := by
    intro ys
    induction ys with
    | nil => rfl
    | cons b r ih => simp [boolsOf, ih]
  simp only [biV, e, Option.bind_some, q]
  simp [List.all_map]
theorem bi_any_map {α : Type} {h : Heap} {a : Nat} {ys : List α} {p : α → Bool} (e : listAt h a = some (ys.map fun y => V.bl (p y))) : biV .any [.ref a] h = .ok (.bl (ys.any p)) h := by
  have q : ∀ ys : List α, boolsOf (ys.map fun y => V.bl (p y)) = some (ys.map p) := by
    intro ys
    induction ys with
    | nil => rfl
    | cons b r ih => simp [boolsOf, ih]
  simp only [biV, e, Option.bind_some, q]
  simp [List.any_map]
end
/-! ### how arguments are bound -/
theorem bind_pos {F : FnD} {vs : List V} (h1 : F.npos = vs.length) (h2 : F.kwn = []) : bindF F vs [] = some vs := by
  unfold bindF
  rw [h1, h2]
  simp [fillKw]
theorem bind_dfl {F : FnD} {vs ds : List V} (h2 : F.kwn = []) (h3 : (decide (vs.length ≤ F.npos) && decide (F.npos ≤ vs.length + F.dfl.length)) = true) (h4 : vs ++ F.dfl.drop (F.dfl.length + vs.length - F.npos) = ds) : bindF F vs [] = some ds := by
  unfold bindF
  rw [h2]
  simp only [List.all_nil, Bool.and_true]
  rw [if_pos h3]
  simp [fillKw, h4]
theorem bind_kw1 {F : FnD} {k : Nat} {w : V} (h1 : F.npos = 0) (h2 : F.kwn = [k]) (h3 : F.dfl = []) : bindF F [] [(k, w)] = some [w] := by
  unfold bindF
  rw [h1, h2, h3]
  simp [fillKw, List.lookup]
/-! calls, in a context that calls by depth -/
section
variable {P : Prog} {d : Nat} {z : Option XV} {env : Env} {h h1 h2 h3 h4 : Heap} {v w : V}
theorem e_callD {f : Nat} {es ks : List Ex} {kn : List Nat} {vs ws as : List V} {F : FnD} (q1 : evEs ⟨P, callD P d, z⟩ es env h = .ok vs h1) (q2 : evEs ⟨P, callD P d, z⟩ ks env h1 = .ok ws h2) (q3 : P.fns f = some F) (q4 : bindF F vs (kn.zip ws) = some as) (q5 : callD P d f as h2 = .ok v h3) (q6 : gcR h (.ok v h3) = .ok w h4) : evE ⟨P, callD P d, z⟩ (.callf f es kn ks) env h = .ok w h4 :=
  e_callf q1 q2 q3 q4 q5 q6
theorem e_callDx {f : Nat} {es ks : List Ex} {kn : List Nat} {vs ws as : List V} {F : FnD} {x : XV} (q1 : evEs ⟨P, callD P d, z⟩ es env h = .ok vs h1) (q2 : evEs ⟨P, callD P d, z⟩ ks env h1 = .ok ws h2) (q3 : P.fns f = some F) (q4 : bindF F vs (kn.zip ws) = some as) (q5 : callD P d f as h2 = .exc x h3) : evE ⟨P, callD P d, z⟩ (.callf f es kn ks) env h = .exc x h3 :=
  e_callx q1 q2 q3 q4 q5
end
/-! a comprehension with a test -/
section
variable {C : Ctx} {env : Env} {h h1 : Heap} {elt t : Ex} {k : Src} {ss : List Ex} {own : List Nat} {vs xs : List V} {st : List (Nat × Obj)}
theorem e_compf {i : Nat} {α : Type} {ys : List α} {f g : α → V} {p : α → Bool} (hs : evEs C ss env h = .ok vs h1) (hsrc : srcOf k vs h1 = some (ys.map f, st)) (hst : stays h1 st = true) (hl : ys.length ≤ LINE)
    (ht : ∀ y ∈ ys, ∀ l, evE C t ((wipeE env own).set i (some (f y))) (h1 ++ [.lst l]) = .ok (.bl (p y)) (h1 ++ [.lst l]))
    (hx : ∀ y ∈ ys, p y = true → ∀ l, evE C elt ((wipeE env own).set i (some (f y))) (h1 ++ [.lst l]) = .ok (g y) (h1 ++ [.lst l])) :
    evE C (.comp elt (.nm i) k ss [t] own) env h = .ok (.ref h1.length) (h1 ++ [.lst ((ys.filter p).map g)]) := by
  rw [r_comp, hs, bind_ok, hsrc]
  show compL _ _ _ _ _ _ _ _ = _
  have key : ∀ (zs : List α) (acc : List V), (∀ y ∈ zs, y ∈ ys) → acc.length + zs.length ≤ LINE → compL (fun e g => evE C elt e g) (fun e g => evT C [t] e g) (wipeE env own) (.nm i) st h1.length (zs.map f) (h1 ++ [.lst acc]) = .ok (.ref h1.length) (h1 ++ [.lst (acc ++ (zs.filter p).map g)]) := by
    intro zs
    induction zs with
    | nil => intro acc _ _; simp [compL, stays_app hst]
    | cons z zs ih =>
      intro acc hz hl
      have hzy := hz z (by simp)
      simp only [List.map, compL, stays_app hst, if_true, bindT]
      rw [t_one (ht z hzy acc)]
      simp at hl
      cases hp : p z with
      | false =>
        simp only
        rw [ih acc (fun y hy => hz y (List.mem_cons_of_mem _ hy)) (by omega), List.filter_cons_of_neg (by rw [hp]; decide)]
      | true =>
        simp only
        rw [hx z hzy hp acc, gcR_same]
        have e : (h1 ++ [Obj.lst acc])[h1.length]? = some (.lst acc) := by simp
        simp only [e]
        rw [if_pos (by omega)]
        have e2 : (h1 ++ [Obj.lst acc]).set h1.length (.lst (acc ++ [g z])) = h1 ++ [.lst (acc ++ [g z])] := by simp
        rw [e2, ih (acc ++ [g z]) (fun y hy => hz y (List.mem_cons_of_mem _ hy)) (by simp; omega), List.filter_cons_of_pos hp]
        simp
  have := key ys [] (fun _ hy => hy) (by simpa using hl)
  simpa using this
end
theorem count_s {s : List Nat} {c : Nat} {h : Heap} (l : s.length ≤ LINE) : bmV .count (.str s) [.str [c]] h = .ok (.int (s.count c)) h := by simp only [bmV, l, if_true]
theorem index_s {s : List Nat} {c k : Nat} {h : Heap} (e : s.idxOf? c = some k) (l : s.length ≤ LINE) : bmV .index (.str s) [.str [c]] h = .ok (.int k) h := by simp only [bmV, e, l, if_true]
theorem mul_s {s : List Nat} {k : Int} {h : Heap} (h0 : 0 ≤ k) (h1 : k ≤ 1000) (h2 : s.length ≤ 1000) : binV .mul (.str s) (.int k) h = .ok (.str (rep s k)) h := by
  simp [binV, h0, h1, h2]
theorem ne_bl (h : Heap) (a b : Bool) : cmpV .ne h (.bl a) (.bl b) = some (!decide (a = b)) := by
  cases a <;> cases b <;> rfl
theorem eq_bl (h : Heap) (a b : Bool) : cmpV .eq h (.bl a) (.bl b) = some (decide (a = b)) := by
  cases a <;> cases b <;> rfl
/-! lists of lists -/
theorem deep_ll {h : Heap} {a : Nat} {vs xs : List V} (ha : listAt h a = some vs) (hv : ∀ v ∈ vs, ∃ b, v = .ref b ∧ listAt h b = some xs) (hx : V.pls xs 50 = true) : deep h (.ref a) = some (.lst (vs.map fun _ => .lst (V.toDs xs))) := by
  have e0 : deep h (.ref a) = (deepVs (rdD h 3) vs).map Dt.lst := by
    show (match listAt h a with
      | some xs => (deepVs (rdD h 3) xs).map Dt.lst
      | none => none) = _
    rw [ha]
  rw [e0]
  have key : ∀ ws : List V, (∀ v ∈ ws, v ∈ vs) → deepVs (rdD h 3) ws = some (ws.map fun _ => .lst (V.toDs xs)) := by
    intro ws
    induction ws with
    | nil => intro _; rfl
    | cons w ws ih =>
      intro hw
      obtain ⟨b, rfl, hb⟩ := hv w (hw w (by simp))
      simp only [deepVs, deepV]
      have e1 : rdD h 3 b = some (.lst (V.toDs xs)) := by
        show (match listAt h b with
          | some xs => (deepVs (rdD h 2) xs).map Dt.lst
          | none => none) = _
        rw [hb]
        simp only
        rw [deepVs_pl _ xs 50 hx]
        rfl
      rw [e1, ih fun v hv => hw v (List.mem_cons_of_mem _ hv)]
      rfl
  rw [key vs fun _ h => h]
  rfl
theorem ne_ll {h : Heap} {a b : Nat} {vs ws xs : List V} (ha : listAt h a = some vs) (hb : listAt h b = some ws) (hv : ∀ v ∈ vs, ∃ b, v = .ref b ∧ listAt h b = some xs) (hw : ∀ v ∈ ws, ∃ b, v = .ref b ∧ listAt h b = some xs) (hx : V.pls xs 50 = true) (hl : vs.length = ws.length) : cmpV .ne h (.ref a) (.ref b) = some false := by
  show (eqV h _ _).map not = _
  unfold eqV
  rw [deep_ll ha hv hx, deep_ll hb hw hx]
  have e : (vs.map fun _ => Dt.lst (V.toDs xs)) = ws.map fun _ => Dt.lst (V.toDs xs) := by
    rw [List.map_const', List.map_const', hl]
  rw [e]
  simp only
  have hd : Dt.depth (.lst (ws.map fun _ => Dt.lst (V.toDs xs))) ≤ 60 := by
    have d1 := depths_pl xs 50 hx
    have d2 : ∀ us : List V, Dt.depths (us.map fun _ => Dt.lst (V.toDs xs)) ≤ 51 := by
      intro us
      induction us with
      | nil => simp [Dt.depths]
      | cons u us ih => simp [Dt.depths, Dt.depth] at ih ⊢; omega
    have := d2 ws
    simp [Dt.depth]
    omega
  rw [if_pos (by omega), eqv_refl]
  rfl
/-! ### try -/
theorem s_tri {C : Ctx} {b hb r : List St} {c : Nat} {i : Option Nat} {env env1 : Env} {h h1 h2 : Heap} {x : XV} {K : ClsD} {v : V} (q1 : evSs C b env h = .exc x env1 h1) (q2 : C.P.cls x.c = some K) (q3 : K.sup.contains c = true) (q4 : hasE i env1 = true) (q5 : evSs { C with x := some x } hb (unE i env1) h1 = .ret v h2) : evSs C (.tri b c i hb :: r) env h = .ret v h2 := by
  rw [r_scons]
  simp only [evS]
  rw [q1]
  simp only [q2, q3, q4, if_true]
  rw [q5]
  rfl
theorem s_exc {C : Ctx} {a b r : List St} {c : Ex} {env env1 : Env} {h h1 h2 : Heap} {x : XV} (hc : evE C c env h = .ok (.bl true) h1) (hr : evSs C a env h1 = .exc x env1 h2) : evSs C (.iff c a b :: r) env h = .exc x env1 h2 :=
  s_yes hc (by rw [hr, at_exc])
theorem s_excE {C : Ctx} {a b r : List St} {c : Ex} {env env1 : Env} {h h1 h2 : Heap} {x : XV} (hc : evE C c env h = .ok (.bl false) h1) (hr : evSs C b env h1 = .exc x env1 h2) : evSs C (.iff c a b :: r) env h = .exc x env1 h2 :=
  s_else hc (by rw [hr, at_exc])
/-! ### known calls, reckoned by the kernel -/
def okB (r : Res V) (v : V) : Bool := match r with
  | .ok w [] => V.beq w v
  | _ => false
theorem okB_of {r : Res V} {v : V} (h : okB r v = true) : r = .ok v [] := by
  unfold okB at h
  split at h
  · rw [(V.beq_iff _ _).mp h]
  · cases h
theorem call_k {P : Prog} (hP : PClo P) {d f : Nat} {as : List V} {v : V} (ha : V.clos as = true) (hv : v.clo = true) (e : okB (callD P d f as []) v = true) (h : Heap) : callD P d f as h = .ok v h := call_any hP ha hv (okB_of e) h
def excB (r : Res V) (c : Nat) : Bool := match r with
  | .exc ⟨k, []⟩ [] => k == c
  | _ => false
theorem excB_of {r : Res V} {c : Nat} (h : excB r c = true) : r = .exc ⟨c, []⟩ [] := by
  unfold excB at h
  split at h
  · rw [beq_iff_eq.mp h]
  · cases h
theorem call_kx {P : Prog} (hP : PClo P) {d f : Nat} {as : List V} {c : Nat} (ha : V.clos as = true) (e : excB (callD P d f as []) c = true) (h : Heap) : callD P d f as h = .exc ⟨c, []⟩ h := call_exc hP ha (excB_of e) h
/-! ### more depth changes nothing -/
theorem up_callD2 {P : Prog} {p : Heap} (hP : PClo P) : ∀ (d e f : Nat) (as : List V) (h : Heap), d ≤ e → RLe p (V.sh p.length) (callD P d f as h) (callD P e f (as.map (V.sh p.length)) (up p h))
  | 0, e, f, as, h, _ => by
    simp only [callD]
    exact .stuck
  | d + 1, 0, f, as, h, hde => by omega
  | d + 1, e + 1, f, as, h, hde => by
    simp only [callD]
    cases hF : P.fns f with
    | none => exact .stuck
    | some F =>
      simp only [List.length_map]
      split
      · have hc := hP.fns f F hF
        unfold FnD.clo at hc
        simp only [Bool.and_eq_true] at hc
        exact finish_up h (up_evSs (C := ⟨P, callD P d, none⟩) (C' := ⟨P, callD P e, none⟩) ⟨rfl, hP, fun f as h => up_callD2 hP d e f as h (by omega), rfl⟩ F.body hc.2 _ _ h (start_up F as))
      · exact .stuck
theorem call_k2 {P : Prog} (hP : PClo P) {d f : Nat} {as : List V} {v : V} (ha : V.clos as = true) (hv : v.clo = true) (e : okB (callD P d f as []) v = true) (h : Heap) (d2 : Nat) (hd : d ≤ d2) : callD P d2 f as h = .ok v h := by
  have := up_callD2 (p := h) hP d d2 f as [] hd
  rw [okB_of e, shm_clo _ _ ha, up_nil] at this
  rcases this with q | q
  · cases q
  · rw [q]
    simp [Res.up, sh_clo _ _ hv]
theorem call_kx2 {P : Prog} (hP : PClo P) {d f : Nat} {as : List V} {c : Nat} (ha : V.clos as = true) (e : excB (callD P d f as []) c = true) (h : Heap) (d2 : Nat) (hd : d ≤ d2) : callD P d2 f as h = .exc ⟨c, []⟩ h := by
  have := up_callD2 (p := h) hP d d2 f as [] hd
  rw [excB_of e, shm_clo _ _ ha, up_nil] at this
  rcases this with q | q
  · cases q
  · rw [q]
    simp [Res.up, XV.sh]
end MP
end

section
set_option Elab.async false
set_option linter.all false
set_option maxRecDepth 10000
namespace MP
/-! ### steps with the environment written out -/
theorem set_0 {x v : Option V} {r : Env} : List.set (x :: r) 0 v = v :: r := rfl
theorem set_s {x v : Option V} {r r' : Env} {i : Nat} (q : List.set r i v = r') : List.set (x :: r) (i + 1) v = x :: r' := by rw [List.set_cons_succ, q]
section
variable {C : Ctx} {env env1 env2 env3 : Env} {h h1 h2 : Heap} {c e : Ex} {r b : List St} {R : Fl} {s : Bool} {i j k : Nat} {v w z : V}
theorem s_asgS (he : evE C e env h = .ok v h1) (hs : env.set i (some v) = env1) (hr : evSs C r env1 h1 = R) : evSs C (.asg (.nm (.nm i)) e :: r) env h = R := by
  rw [r_scons, r_asg, he, fl_ok, asg_nm, at_nx, hs]; exact hr
theorem s_asgS2 (he : evE C e env h = .ok (.tup [v, w]) h1) (hs : env.set i (some v) = env1) (hs2 : env1.set j (some w) = env2) (hr : evSs C r env2 h1 = R) : evSs C (.asg (.nm (.tp [.nm i, .nm j])) e :: r) env h = R := by
  rw [r_scons, r_asg, he, fl_ok, asg_two, at_nx, hs, hs2]; exact hr
theorem s_asgS3 (he : evE C e env h = .ok (.tup [v, w, z]) h1) (hs : env.set i (some v) = env1) (hs2 : env1.set j (some w) = env2) (hs3 : env2.set k (some z) = env3) (hr : evSs C r env3 h1 = R) : evSs C (.asg (.nm (.tp [.nm i, .nm j, .nm k])) e :: r) env h = R := by
  rw [r_scons, r_asg, he, fl_ok, asg_three, at_nx, hs, hs2, hs3]; exact hr
theorem s_noV (he : evE C c env h = .ok (.bl s) h1) (hs : s = false) (hr : evSs C r env h1 = R) : evSs C (.iff c b [] :: r) env h = R := by
  subst hs
  rw [r_scons, r_iff, he, truth_ok, fl_ok, if_neg Bool.false_ne_true, r_snil, at_nx, hr]
theorem s_retV (he : evE C e env h = .ok v h1) (hs : v = w) : evSs C (.ret e :: r) env h = .ret w h1 := by
  subst hs
  rw [r_scons, r_ret, he, fl_ok, at_ret]
end
section
variable {C : Ctx} {env env0 : Env} {h h1 : Heap} {elt t : Ex} {k : Src} {ss : List Ex} {own : List Nat} {vs : List V} {st : List (Nat × Obj)}
/-- a comprehension, its environment written out -/
theorem e_mapS {i : Nat} {α : Type} {ys : List α} {f g : α → V} {env1 : α → Env} (hs : evEs C ss env h = .ok vs h1) (hsrc : srcOf k vs h1 = some (ys.map f, st)) (hst : stays h1 st = true) (hl : ys.length ≤ LINE)
    (hw : wipeE env own = env0) (hv : ∀ y, env0.set i (some (f y)) = env1 y) (hx : ∀ y ∈ ys, ∀ l, evE C elt (env1 y) (h1 ++ [.lst l]) = .ok (g y) (h1 ++ [.lst l])) :
    evE C (.comp elt (.nm i) k ss [] own) env h = .ok (.ref h1.length) (h1 ++ [.lst (ys.map g)]) :=
  e_mapf hs hsrc hst hl fun y hy l => by rw [hw, hv]; exact hx y hy l
end
theorem e_maptP {C : Ctx} {env : Env} {h h1 : Heap} {elt : Ex} {k : Src} {ss : List Ex} {own : List Nat} {vs : List V} {st : List (Nat × Obj)} {tg : Tg} {α : Type} {ys : List α} {f g : α → V} (hs : evEs C ss env h = .ok vs h1) (hsrc : srcOf k vs h1 = some (ys.map f, st)) (hst : stays h1 st = true) (hl : ys.length ≤ LINE)
    (hx : ∀ y ∈ ys, ∀ l, ∃ e1, bindT (h1 ++ [.lst l]) tg (f y) (wipeE env own) = some e1 ∧ evE C elt e1 (h1 ++ [.lst l]) = .ok (g y) (h1 ++ [.lst l])) :
    evE C (.comp elt tg k ss [] own) env h = .ok (.ref h1.length) (h1 ++ [.lst (ys.map g)]) := by
  rw [r_comp, hs, bind_ok, hsrc]
  show compL _ _ _ _ _ _ _ _ = _
  have ht : (fun e g => evT C [] e g) = fun e g => .ok true g := by funext e g; exact t_nil g
  rw [ht]
  have key : ∀ (zs : List α) (acc : List V), (∀ y ∈ zs, y ∈ ys) → acc.length + zs.length ≤ LINE → compL (fun e g => evE C elt e g) (fun e g => .ok true g) (wipeE env own) tg st h1.length (zs.map f) (h1 ++ [.lst acc]) = .ok (.ref h1.length) (h1 ++ [.lst (acc ++ zs.map g)]) := by
    intro zs
    induction zs with
    | nil => intro acc _ _; simp [compL, stays_app hst]
    | cons z zs ih =>
      intro acc hz hl
      obtain ⟨e1, b1, b2⟩ := hx z (hz z (by simp)) acc
      simp only [List.map, compL, stays_app hst, if_true, b1]
      rw [b2, gcR_same]
      have e : (h1 ++ [Obj.lst acc])[h1.length]? = some (.lst acc) := by simp
      simp only [e]
      simp at hl
      rw [if_pos (by omega)]
      have e2 : (h1 ++ [Obj.lst acc]).set h1.length (.lst (acc ++ [g z])) = h1 ++ [.lst (acc ++ [g z])] := by simp
      rw [e2, ih (acc ++ [g z]) (fun y hy => hz y (List.mem_cons_of_mem _ hy)) (by simp; omega)]
      simp
  have := key ys [] (fun _ hy => hy) (by simpa using hl)
  simpa using this
local macro_rules | `(tactic| mframe) => `(tactic| first
  | with_reducible exact ix_enc0 _ _
  | with_reducible exact ix_enc1 _ _)
/-! ### pairs of whole numbers, as they come -/
theorem stays_1 {h : Heap} {a : Nat} {o : Obj} (e : h[a]? = some o) : stays h [(a, o)] = true := by
  simp [stays, e]
/-- two generators: what the inner one walks may hang on the outer one's item -/
theorem e_comp2P {C : Ctx} {env : Env} {h h1 : Heap} {elt s2 : Ex} {tg1 tg2 : Tg} {k : Src} {ss : List Ex} {own : List Nat} {vs : List V} {st : List (Nat × Obj)} {α β : Type} {ys : List α} {zs : α → List β} {f : α → V} {f2 : β → V} {g : α → β → V} {w : α → V} {st2 : α → List (Nat × Obj)}
    (hs : evEs C ss env h = .ok vs h1) (hsrc : srcOf k vs h1 = some (ys.map f, st)) (hst : stays h1 st = true) (hl : (ys.flatMap zs).length ≤ LINE)
    (hx : ∀ y ∈ ys, ∀ l, ∃ e1, bindT (h1 ++ [.lst l]) tg1 (f y) (wipeE env own) = some e1 ∧ evE C s2 e1 (h1 ++ [.lst l]) = .ok (w y) (h1 ++ [.lst l]) ∧ srcOf .val [w y] (h1 ++ [.lst l]) = some ((zs y).map f2, st2 y) ∧ (∀ l, stays (h1 ++ [.lst l]) (st2 y) = true) ∧
      ∀ z ∈ zs y, ∀ l, ∃ e2, bindT (h1 ++ [.lst l]) tg2 (f2 z) (wipeE e1 tg2.names) = some e2 ∧ evE C elt e2 (h1 ++ [.lst l]) = .ok (g y z) (h1 ++ [.lst l])) :
    evE C (.comp2 elt tg1 k ss tg2 s2 own) env h = .ok (.ref h1.length) (h1 ++ [.lst (ys.flatMap fun y => (zs y).map (g y))]) := by
  simp only [evE]
  rw [hs, bind_ok, hsrc]
  simp only
  have inner : ∀ (y : α) (e1 : Env) (st2 : List (Nat × Obj)) (hst2 : ∀ l, stays (h1 ++ [.lst l]) st2 = true) (us : List β) (acc : List V), acc.length + us.length ≤ LINE → (∀ z ∈ us, ∀ l, ∃ e2, bindT (h1 ++ [.lst l]) tg2 (f2 z) (wipeE e1 tg2.names) = some e2 ∧ evE C elt e2 (h1 ++ [.lst l]) = .ok (g y z) (h1 ++ [.lst l])) →
      compL (fun e g => evE C elt e g) (fun _ g => .ok true g) (wipeE e1 tg2.names) tg2 st2 h1.length (us.map f2) (h1 ++ [.lst acc]) = .ok (.ref h1.length) (h1 ++ [.lst (acc ++ us.map (g y))]) := by
    intro y e1 st2 hst2 us
    induction us with
    | nil => intro acc _ _; simp [compL, hst2]
    | cons z us ih =>
      intro acc hl hu
      obtain ⟨e2, b1, b2⟩ := hu z (by simp) acc
      simp only [List.map, compL, hst2, if_true, b1]
      rw [b2, gcR_same]
      have e : (h1 ++ [Obj.lst acc])[h1.length]? = some (.lst acc) := by simp
      simp only [e]
      simp at hl
      rw [if_pos (by omega)]
      have e2 : (h1 ++ [Obj.lst acc]).set h1.length (.lst (acc ++ [g y z])) = h1 ++ [.lst (acc ++ [g y z])] := by simp
      rw [e2, ih (acc ++ [g y z]) (by simp; omega) (fun z hz => hu z (List.mem_cons_of_mem _ hz))]
      simp
  have key : ∀ (us : List α) (acc : List V), (∀ y ∈ us, y ∈ ys) → acc.length + (us.flatMap zs).length ≤ LINE → compO (fun e g => (evE C s2 e g).bind fun v g1 => match srcOf .val [v] g1 with
        | some (ys, st2) => compL (fun e g => evE C elt e g) (fun _ g => .ok true g) (wipeE e tg2.names) tg2 st2 h1.length ys g1
        | none => .stuck) (wipeE env own) tg1 st h1.length (us.map f) (h1 ++ [.lst acc]) = .ok (.ref h1.length) (h1 ++ [.lst (acc ++ us.flatMap fun y => (zs y).map (g y))]) := by
    intro us
    induction us with
    | nil => intro acc _ _; simp [compO, stays_app hst]
    | cons y us ih =>
      intro acc hu hl
      obtain ⟨e1, b1, b2, b3, b4, b5⟩ := hx y (hu y (by simp)) acc
      simp only [List.map, compO, stays_app hst, if_true, b1]
      rw [b2, bind_ok, b3]
      simp only
      simp at hl
      rw [inner y e1 (st2 y) b4 (zs y) acc (by omega) b5]
      simp only
      rw [ih _ (fun y hy => hu y (List.mem_cons_of_mem _ hy)) (by simp; omega)]
      simp
  have := key ys [] (fun _ hy => hy) (by simpa using hl)
  rw [List.nil_append] at this
  exact this
theorem getD_memP {xs : List V} {i : Int} (h0 : 0 ≤ i) (h1 : i < xs.length) : xs[i.toNat]? = some (xs.getD i.toNat .non) ∧ xs.getD i.toNat .non ∈ xs := by
  have hk : i.toNat < xs.length := by omega
  simp [List.getD, List.getElem?_eq_getElem hk]
theorem add_lstP {h : Heap} {a b : Nat} {xs ys : List V} (ha : lstAt h a = some xs) (hb : lstAt h b = some ys) (hl : xs.length + ys.length ≤ LINE) : binV .add (.ref a) (.ref b) h = .ok (.ref h.length) (h ++ [.lst (xs ++ ys)]) := by
  simp [binV, ha, hb, hl]
theorem lstAt_newP {h l : Heap} {xs : List V} : lstAt (h ++ .lst xs :: l) h.length = some xs := by simp [lstAt]
theorem lstAt_appP {h l : Heap} {a : Nat} {xs : List V} (e : lstAt h a = some xs) : lstAt (h ++ l) a = some xs := by
  unfold lstAt at e ⊢
  cases q : h[a]? with
  | none => rw [q] at e; cases e
  | some o =>
    rw [List.getElem?_append_left (List.getElem?_eq_some_iff.mp q).1, q]
    rw [q] at e
    exact e
theorem lstAt_getP {h : Heap} {a : Nat} {xs : List V} (e : lstAt h a = some xs) : h[a]? = some (.lst xs) := by
  unfold lstAt at e
  cases q : h[a]? with
  | none => rw [q] at e; cases e
  | some o => rw [q] at e; cases o <;> simp at e <;> rw [e]
theorem mul_lstP {h : Heap} {a : Nat} {xs : List V} {k : Int} (ha : lstAt h a = some xs) (h0 : 0 ≤ k) (h1 : k < 1000) (hl : xs.length ≤ 1000) : binV .mul (.ref a) (.int k) h = .ok (.ref h.length) (h ++ [.lst (rep xs k)]) := by
  simp [binV, ha, h0, h1, hl]
theorem rep_mem {α : Type} {x v : α} {k : Int} (h : v ∈ rep [x] k) : v = x := by
  unfold rep at h
  obtain ⟨l, hl, hv⟩ := List.mem_flatten.mp h
  have := List.eq_of_mem_replicate hl
  subst this
  simpa using hv
theorem rep_len {α : Type} (xs : List α) (k : Int) : (rep xs k).length = k.toNat * xs.length := by
  unfold rep
  rw [List.length_flatten]
  simp
/-- rows of one kind against so many of one -/
theorem ne_rows {C : Ctx} {env : Env} {G h1 : Heap} {e1 : Ex} {a : Nat} {vs : List V} {x y : V} {k : Int} (q1 : evE C e1 env G = .ok (.ref a) h1) (ext : Ext G h1) (ha : listAt h1 a = some vs) (hx : V.pls [x, y] 50 = true) (hv : ∀ v ∈ vs, ∃ b, v = .ref b ∧ listAt h1 b = some [x, y]) (h0 : 0 ≤ k) (hk1 : k < 1000) (hk : vs.length = k.toNat) :
    evE C (.cmp .ne e1 (.bin .mul (.lst [.lst [.lit x, .lit y]]) (.lit (.int k)))) env G = .ok (.bl false) G := by
  have q2 : evE C (.bin .mul (.lst [.lst [.lit x, .lit y]]) (.lit (.int k))) env h1 = .ok (.ref ((h1 ++ [Obj.lst [x, y]]) ++ [Obj.lst [.ref h1.length]]).length) (((h1 ++ [Obj.lst [x, y]]) ++ [Obj.lst [.ref h1.length]]) ++ [Obj.lst (rep [.ref h1.length] k)]) :=
    e_bin (e_lst (e_cons (e_lst (e_cons e_lit (e_cons e_lit e_nil))) e_nil)) e_lit (mul_lstP lstAt_newP h0 hk1 (by simp))
  refine e_cmp q1 q2 (ne_ll (xs := [x, y]) (listAt_app (listAt_app (listAt_app ha))) listAt_new ?_ ?_ hx ?_) (((ext.app _).app _).app _)
  · intro v hm
    obtain ⟨b, rfl, hb⟩ := hv v hm
    exact ⟨b, rfl, listAt_app (listAt_app (listAt_app hb))⟩
  · intro v hm
    exact ⟨h1.length, rep_mem hm, listAt_app (listAt_app listAt_new)⟩
  · rw [rep_len, hk]; simp
theorem eq_of_ne {h : Heap} {x y : V} (e : cmpV .ne h x y = some false) : cmpV .eq h x y = some true := by
  show eqV h x y = some true
  have e : (eqV h x y).map not = some false := e
  cases q : eqV h x y with
  | none => rw [q] at e; cases e
  | some b => rw [q] at e; cases b <;> simp at e ⊢
/-- rows of one kind against so many of one -/
theorem eq_rows {C : Ctx} {env : Env} {G h1 : Heap} {e1 : Ex} {a : Nat} {vs : List V} {x y : V} {k : Int} (q1 : evE C e1 env G = .ok (.ref a) h1) (ext : Ext G h1) (ha : listAt h1 a = some vs) (hx : V.pls [x, y] 50 = true) (hv : ∀ v ∈ vs, ∃ b, v = .ref b ∧ listAt h1 b = some [x, y]) (h0 : 0 ≤ k) (hk1 : k < 1000) (hk : vs.length = k.toNat) :
    evE C (.cmp .eq e1 (.bin .mul (.lst [.lst [.lit x, .lit y]]) (.lit (.int k)))) env G = .ok (.bl true) G := by
  have q2 : evE C (.bin .mul (.lst [.lst [.lit x, .lit y]]) (.lit (.int k))) env h1 = .ok (.ref ((h1 ++ [Obj.lst [x, y]]) ++ [Obj.lst [.ref h1.length]]).length) (((h1 ++ [Obj.lst [x, y]]) ++ [Obj.lst [.ref h1.length]]) ++ [Obj.lst (rep [.ref h1.length] k)]) :=
    e_bin (e_lst (e_cons (e_lst (e_cons e_lit (e_cons e_lit e_nil))) e_nil)) e_lit (mul_lstP lstAt_newP h0 hk1 (by simp))
  refine e_cmp q1 q2 (eq_of_ne <| ne_ll (xs := [x, y]) (listAt_app (listAt_app (listAt_app ha))) listAt_new ?_ ?_ hx ?_) (((ext.app _).app _).app _)
  · intro v hm
    obtain ⟨b, rfl, hb⟩ := hv v hm
    exact ⟨b, rfl, listAt_app (listAt_app (listAt_app hb))⟩
  · intro v hm
    exact ⟨h1.length, rep_mem hm, listAt_app (listAt_app listAt_new)⟩
  · rw [rep_len, hk]; simp
theorem for_env' {b : Env → Heap → Fl} {tg : Tg} {st : List (Nat × Obj)} {α : Type} {f : α → V} (I : List α → Env → Heap → Prop) (hst : ∀ ys e h, I ys e h → stays h st = true)
    (hb : ∀ y ys e h, I (y :: ys) e h → ∃ e1 e2 h2, bindT h tg (f y) e = some e1 ∧ b e1 h = .nx e2 h2 ∧ I ys e2 h2) :
    ∀ ys e h, I ys e h → ∃ e2 h2, forL b tg st (ys.map f) e h = .nx e2 h2 ∧ I [] e2 h2
  | [], e, h, hi => ⟨e, h, by simp [forL, hst _ _ _ hi], hi⟩
  | y :: ys, e, h, hi => by
    obtain ⟨e1, e2, h2, b1, b2, b3⟩ := hb y ys e h hi
    obtain ⟨e3, h3, c1, c2⟩ := for_env' I hst hb ys e2 h2 b3
    refine ⟨e3, h3, ?_, c2⟩
    simp only [List.map, forL, hst _ _ _ hi, if_true, b1, b2]
    exact c1
theorem Ext.lenLe' {h g : Heap} (e : Ext h g) : h.length ≤ g.length := by obtain ⟨l, rfl⟩ := e; simp
theorem ne_nil_of' {C : Ctx} {e : Ex} {env : Env} {h : Heap} (q : evE C e env h = .ok (.ref h.length) (h ++ [.lst []])) : evE C (.cmp .ne e (.lst [])) env h = .ok (.bl false) h :=
  e_cmp q (e_lst e_nil) (c_ne_nil (listAt_app listAt_new) listAt_new rfl) ⟨[_, _], by simp; exact ⟨rfl, rfl⟩⟩
theorem evSs_app {C : Ctx} : ∀ (a b : List St) (env : Env) (h : Heap), evSs C (a ++ b) env h = (evSs C a env h).andThen fun e g => evSs C b e g
  | [], b, env, h => by rw [List.nil_append, r_snil, at_nx]
  | s :: a, b, env, h => by
    rw [List.cons_append, r_scons, r_scons]
    cases evS C s env h with
    | nx e g => rw [at_nx, at_nx, evSs_app a b e g]
    | ret v g => rfl
    | brk e g => rfl
    | ct e g => rfl
    | exc x e g => rfl
    | stuck => rfl
/-- each turn makes a new list of one kind -/
theorem e_mapG {C : Ctx} {env : Env} {h h1 : Heap} {elt : Ex} {k : Src} {ss : List Ex} {own : List Nat} {vs : List V} {st : List (Nat × Obj)} {i : Nat} {α : Type} {ys : List α} {f : α → V} (xs : List V) (hs : evEs C ss env h = .ok vs h1) (hsrc : srcOf k vs h1 = some (ys.map f, st)) (hst : stays h1 st = true) (hl : ys.length ≤ LINE)
    (hx : ∀ y ∈ ys, ∀ H, Ext h1 H → evE C elt ((wipeE env own).set i (some (f y))) H = .ok (.ref H.length) (H ++ [.lst xs])) :
    evE C (.comp elt (.nm i) k ss [] own) env h = .ok (.ref h1.length) ((h1 ++ [.lst ((List.range ys.length).map fun j => V.ref (h1.length + 1 + j))]) ++ List.replicate ys.length (Obj.lst xs)) := by
  rw [r_comp, hs, bind_ok, hsrc]
  show compL _ _ _ _ _ _ _ _ = _
  have ht : (fun e g => evT C [] e g) = fun e g => .ok true g := by funext e g; exact t_nil g
  rw [ht]
  have key : ∀ (zs : List α) (m : Nat), (∀ y ∈ zs, y ∈ ys) → m + zs.length ≤ LINE → compL (fun e g => evE C elt e g) (fun e g => .ok true g) (wipeE env own) (.nm i) st h1.length (zs.map f) ((h1 ++ [.lst ((List.range m).map fun j => V.ref (h1.length + 1 + j))]) ++ List.replicate m (Obj.lst xs)) = .ok (.ref h1.length) ((h1 ++ [.lst ((List.range (m + zs.length)).map fun j => V.ref (h1.length + 1 + j))]) ++ List.replicate (m + zs.length) (Obj.lst xs)) := by
    intro zs
    induction zs with
    | nil =>
      intro m _ _
      have : stays ((h1 ++ [Obj.lst ((List.range m).map fun j => V.ref (h1.length + 1 + j))]) ++ List.replicate m (Obj.lst xs)) st = true := stays_app (stays_app hst _) _
      simp only [List.map_nil, compL, this, if_true, List.length_nil, Nat.add_zero]
    | cons z zs ih =>
      intro m hz hl
      have hS : stays ((h1 ++ [Obj.lst ((List.range m).map fun j => V.ref (h1.length + 1 + j))]) ++ List.replicate m (Obj.lst xs)) st = true := stays_app (stays_app hst _) _
      have ev := hx z (hz z (by simp)) ((h1 ++ [Obj.lst ((List.range m).map fun j => V.ref (h1.length + 1 + j))]) ++ List.replicate m (Obj.lst xs)) (((Ext.refl _).app _).app _)
      have hlen : ((h1 ++ [Obj.lst ((List.range m).map fun j => V.ref (h1.length + 1 + j))]) ++ List.replicate m (Obj.lst xs)).length = h1.length + 1 + m := by simp; omega
      simp only [List.map_cons, compL, hS, if_true, bindT]
      rw [ev, gc_new, hlen]
      have e : (((h1 ++ [Obj.lst ((List.range m).map fun j => V.ref (h1.length + 1 + j))]) ++ List.replicate m (Obj.lst xs)) ++ [Obj.lst xs])[h1.length]? = some (.lst ((List.range m).map fun j => V.ref (h1.length + 1 + j))) := by
        rw [List.getElem?_append_left (by simp [Nat.add_assoc]), List.getElem?_append_left (by simp), List.getElem?_append_right (Nat.le_refl _)]
        simp
      simp only [e]
      simp only [List.length_cons] at hl
      rw [if_pos (by simp; omega)]
      have e2 : (((h1 ++ [Obj.lst ((List.range m).map fun j => V.ref (h1.length + 1 + j))]) ++ List.replicate m (Obj.lst xs)) ++ [Obj.lst xs]).set h1.length (.lst (((List.range m).map fun j => V.ref (h1.length + 1 + j)) ++ [V.ref (h1.length + 1 + m)])) = (h1 ++ [Obj.lst ((List.range (m + 1)).map fun j => V.ref (h1.length + 1 + j))]) ++ List.replicate (m + 1) (Obj.lst xs) := by
        rw [List.range_succ, List.map_append, List.replicate_succ']
        simp [List.set_append]
      rw [e2, ih (m + 1) (fun y hy => hz y (List.mem_cons_of_mem _ hy)) (by omega)]
      have : m + 1 + zs.length = m + (z :: zs).length := by simp; omega
      rw [this]
  have := key ys 0 (fun _ h => h) (by simpa using hl)
  simpa using this
theorem wipe_nil {env : Env} : wipeE env [] = env := rfl
theorem wipe_cons {env e1 e2 : Env} {i : Nat} {is : List Nat} (q1 : wipeE env is = e1) (q2 : e1.set i none = e2) : wipeE env (i :: is) = e2 := by
  show (wipeE env is).set i none = e2
  rw [q1, q2]
theorem bindTp2 {h : Heap} {env e1 e2 : Env} {i j : Nat} {v w : V} (q1 : env.set i (some v) = e1) (q2 : e1.set j (some w) = e2) : bindT h (.tp [.nm i, .nm j]) (.tup [v, w]) env = some e2 := by
  simp only [bindT, bindTs, q1, q2]
theorem bindTpW2 {h : Heap} {env e0 e1 e2 : Env} {own : List Nat} {i j : Nat} {v w : V} (q0 : wipeE env own = e0) (q1 : e0.set i (some v) = e1) (q2 : e1.set j (some w) = e2) : bindT h (.tp [.nm i, .nm j]) (.tup [v, w]) (wipeE env own) = some e2 := by
  rw [q0]; exact bindTp2 q1 q2
/-- two turns over range(2) -/
theorem e_two {C : Ctx} {env e0 e1 e2 : Env} {h : Heap} {elt : Ex} {k : Nat} {v0 v1 : V} (q0 : wipeE env [k] = e0) (q1 : e0.set k (some (.int 0)) = e1) (q2 : e0.set k (some (.int 1)) = e2)
    (h0 : ∀ l, evE C elt e1 (h ++ [.lst l]) = .ok v0 (h ++ [.lst l])) (h1 : ∀ l, evE C elt e2 (h ++ [.lst l]) = .ok v1 (h ++ [.lst l])) :
    evE C (.comp elt (.nm k) .range [.lit (.int 2)] [] [k]) env h = .ok (.ref h.length) (h ++ [.lst [v0, v1]]) := by
  have := e_mapf (C := C) (env := env) (h := h) (h1 := h) (elt := elt) (k := .range) (ss := [.lit (.int 2)]) (own := [k]) (i := k) (vs := [.int 2]) (st := []) (ys := List.range 2) (f := fun n : Nat => V.int (n : Int)) (g := fun n : Nat => if n = 0 then v0 else v1) (e_cons e_lit e_nil) (src_range1 (by decide)) rfl (by rw [LINE_eq]; simp) (by
    intro n hn l
    have hn : n = 0 ∨ n = 1 := by have := List.mem_range.mp hn; omega
    rw [q0]
    rcases hn with rfl | rfl
    · show evE C elt (e0.set k (some (.int 0))) _ = _
      rw [q1]; exact h0 l
    · show evE C elt (e0.set k (some (.int 1))) _ = _
      rw [q2]; exact h1 l)
  exact this
theorem enumV_map {α : Type} (f : α → V) (l : List α) (n : Nat) : enumV n (l.map f) = (l.zipIdx n).map fun p => V.tup [.int (p.2 : Int), f p.1] := by
  induction l generalizing n with
  | nil => rfl
  | cons x l ih => simp only [List.map_cons, enumV, List.zipIdx_cons, ih]
theorem enumV_rng (f : Nat → V) (m n : Nat) : enumV n ((List.range m).map f) = (List.range m).map fun k : Nat => V.tup [.int ((n + k : Nat) : Int), f k] := by
  induction m generalizing n f with
  | zero => rfl
  | succ m ih =>
    rw [List.range_succ_eq_map, List.map_cons, List.map_map, enumV, ih, List.map_cons, List.map_map]
    congr 1
    refine List.map_congr_left fun k _ => ?_
    simp only [Function.comp]
    congr 3
    omega
theorem e_revV {C : Ctx} {a : Ex} {env : Env} {h h1 h2 : Heap} {x v : V} (q1 : evE C a env h = .ok x h1) (q2 : revV h1 x = .ok v h2) : evE C (.rev a) env h = .ok v h2 := by
  simp only [evE]
  rw [q1, bind_ok, q2]
theorem e_revL {C : Ctx} {a : Ex} {env : Env} {h h1 : Heap} {r : Nat} {xs : List V} (q1 : evE C a env h = .ok (.ref r) h1) (q2 : listAt h1 r = some xs) : evE C (.rev a) env h = .ok (.ref h1.length) (h1 ++ [.lst xs.reverse]) := by
  refine e_revV q1 ?_
  simp only [revV, q2]
theorem rev_tup {h : Heap} {xs : List V} : revV h (.tup xs) = .ok (.tup xs.reverse) h := rfl
end MP
end

section
set_option Elab.async false
set_option linter.all false
set_option maxRecDepth 100000
namespace MP
abbrev Cd (d : Nat) : Ctx := ⟨prog, callD prog d, none⟩
abbrev Cx (d c : Nat) : Ctx := ⟨prog, callD prog d, some ⟨c, []⟩⟩
@[simp] theorem f1 : prog.fns 1 = some D1 := rfl -- exact.is_whole
@[simp] theorem b1 (v0 : V) : bindF D1 [v0] [] = some [v0] := by simp [bindF, D1, fillKw, List.lookup]
@[simp] theorem f2 : prog.fns 2 = some D2 := rfl -- exact.common
@[simp] theorem b2 (v0 v1 : V) : bindF D2 [v0, v1] [] = some [v0, v1] := by simp [bindF, D2, fillKw, List.lookup]
@[simp] theorem f3 : prog.fns 3 = some D3 := rfl -- exact.is_number
@[simp] theorem b3 (v0 : V) : bindF D3 [v0] [] = some [v0] := by simp [bindF, D3, fillKw, List.lookup]
@[simp] theorem f4 : prog.fns 4 = some D4 := rfl -- exact.need_number
@[simp] theorem b4 (w0 : V) : bindF D4 [] [(4, w0)] = some [w0] := by simp [bindF, D4, fillKw, List.lookup]
@[simp] theorem f7 : prog.fns 7 = some D7 := rfl -- exact.text_of
@[simp] theorem b7 (v0 : V) : bindF D7 [v0] [] = some [v0] := by simp [bindF, D7, fillKw, List.lookup]
@[simp] theorem f20 : prog.fns 20 = some D20 := rfl -- reading.is_name
@[simp] theorem b20 (v0 : V) : bindF D20 [v0] [] = some [v0] := by simp [bindF, D20, fillKw, List.lookup]
@[simp] theorem f21 : prog.fns 21 = some D21 := rfl -- reading.is_text
@[simp] theorem b21 (v0 : V) : bindF D21 [v0] [] = some [v0] := by simp [bindF, D21, fillKw, List.lookup]
@[simp] theorem f22 : prog.fns 22 = some D22 := rfl -- reading.is_item
@[simp] theorem b22 (v0 : V) : bindF D22 [v0] [] = some [v0] := by simp [bindF, D22, fillKw, List.lookup]
@[simp] theorem f23 : prog.fns 23 = some D23 := rfl -- reading.item_text
@[simp] theorem b23 (v0 : V) : bindF D23 [v0] [] = some [v0] := by simp [bindF, D23, fillKw, List.lookup]
@[simp] theorem f24 : prog.fns 24 = some D24 := rfl -- reading.program_text
@[simp] theorem b24 (v0 : V) : bindF D24 [v0] [] = some [v0] := by simp [bindF, D24, fillKw, List.lookup]
@[simp] theorem f25 : prog.fns 25 = some D25 := rfl -- reading.count_items
@[simp] theorem b25 (v0 : V) : bindF D25 [v0] [] = some [v0] := by simp [bindF, D25, fillKw, List.lookup]
@[simp] theorem f11 : prog.fns 11 = some D11 := rfl -- law._law_drawn
@[simp] theorem b11 (v0 v1 v2 : V) : bindF D11 [v0, v1, v2] [] = some [v0, v1, v2] := by simp [bindF, D11, fillKw, List.lookup]
@[simp] theorem f12 : prog.fns 12 = some D12 := rfl -- law._law_common
@[simp] theorem b12 (v0 v1 : V) : bindF D12 [v0, v1] [] = some [v0, v1] := by simp [bindF, D12, fillKw, List.lookup]
@[simp] theorem f13 : prog.fns 13 = some D13 := rfl -- law._law_made
@[simp] theorem b13 (v0 v1 : V) : bindF D13 [v0, v1] [] = some [v0, v1] := by simp [bindF, D13, fillKw, List.lookup]
@[simp] theorem f26 : prog.fns 26 = some D26 := rfl -- law._law_number
@[simp] theorem b26 (v0 v1 : V) : bindF D26 [v0, v1] [] = some [v0, v1] := by simp [bindF, D26, fillKw, List.lookup]
@[simp] theorem f14 : prog.fns 14 = some D14 := rfl -- law._law_text
@[simp] theorem b14 (v0 : V) : bindF D14 [v0] [] = some [v0] := by simp [bindF, D14, fillKw, List.lookup]
@[simp] theorem f27 : prog.fns 27 = some D27 := rfl -- law._law_item_text
@[simp] theorem b27 (v0 : V) : bindF D27 [v0] [] = some [v0] := by simp [bindF, D27, fillKw, List.lookup]
@[simp] theorem f28 : prog.fns 28 = some D28 := rfl -- law._law_write
@[simp] theorem b28 (v0 : V) : bindF D28 [v0] [] = some [v0] := by simp [bindF, D28, fillKw, List.lookup]
@[simp] theorem f29 : prog.fns 29 = some D29 := rfl -- law._law_item
@[simp] theorem b29 (v0 v1 v2 : V) : bindF D29 [v0, v1, v2] [] = some [v0, v1, v2] := by simp [bindF, D29, fillKw, List.lookup]
@[simp] theorem f30 : prog.fns 30 = some D30 := rfl -- law._law_items
@[simp] theorem b30 (v0 v1 v2 v3 : V) : bindF D30 [v0, v1, v2, v3] [] = some [v0, v1, v2, v3] := by simp [bindF, D30, fillKw, List.lookup]
@[simp] theorem f31 : prog.fns 31 = some D31 := rfl -- law._law_counted
@[simp] theorem b31 (v0 : V) : bindF D31 [v0] [] = some [v0] := by simp [bindF, D31, fillKw, List.lookup]
@[simp] theorem f15 : prog.fns 15 = some D15 := rfl -- law._law_no
@[simp] theorem b15 (v0 : V) : bindF D15 [v0] [] = some [v0] := by simp [bindF, D15, fillKw, List.lookup]
@[simp] theorem f16 : prog.fns 16 = some D16 := rfl -- law.law
@[simp] theorem k1 : prog.cls 1 = some K1 := rfl -- errors.PageError
@[simp] theorem k2 : prog.cls 2 = some K2 := rfl -- errors.NoNumber
@[simp] theorem k4 : prog.cls 4 = some K4 := rfl -- errors.NoProgram
@[irreducible] def Z1 : Int := 10000000000000000000000000000000000000000
theorem Z1_eq : Z1 = 10000000000000000000000000000000000000000 := by unfold Z1; rfl
@[simp] theorem g1 : prog.glb 1 = some (.int Z1) := by unfold Z1; rfl -- exact.MOST
@[simp] theorem g3 : prog.glb 3 = some (.str [97, 98, 99, 100, 101, 102, 103, 104, 105, 106, 107, 108, 109, 110, 111, 112, 113, 114, 115, 116, 117, 118, 119, 120, 121, 122]) := rfl -- reading.LETTERS
@[simp] theorem g4 : prog.glb 4 = some (.str [97, 98, 99, 100, 101, 102, 103, 104, 105, 106, 107, 108, 109, 110, 111, 112, 113, 114, 115, 116, 117, 118, 119, 120, 121, 122, 48, 49, 50, 51, 52, 53, 54, 55, 56, 57, 45, 58, 46]) := rfl -- reading.WORD
theorem prog_clo : PClo prog where
  fns := by
    intro f F h
    simp only [prog] at h
    split at h <;> first | (cases h; done) | (cases h; decide +kernel)
  glb := by
    intro f F h
    simp only [prog] at h
    split at h <;> first | (cases h; done) | (cases h; decide +kernel)
end MP
end

section
set_option Elab.async false
set_option linter.all false
set_option maxRecDepth 10000
set_option maxHeartbeats 1000000
namespace MP
/- the tactics of these texts: mleft reckons an expression, mframe one operator, mright a side condition, mexfalso a call -/
local macro_rules | `(tactic| massumption) => `(tactic| first
  | with_reducible assumption
  | exact bz_60 (by omega)
  | (with_reducible apply bz_abs
     massumption)
  | (with_reducible apply bz_neg
     massumption)
  | ((with_reducible apply bz_mul) <;> massumption)
  | ((with_reducible apply bz_add) <;> massumption)
  | ((with_reducible apply bz_sub) <;> massumption))
local macro_rules | `(tactic| mright) => `(tactic| first
  | with_reducible assumption
  | exact rfl
  | exact Ext.refl _
  | (apply Ext.app
     mright)
  | (apply bz_small
     · massumption
     · decide)
  | omega
  | (rw [LINE_eq]; omega)
  | exact listAt_new
  | (simp only [List.length_append, List.length_cons, List.length_nil, List.length_map, List.length_range, LINE_eq]; omega)
  | (apply listAt_app
     mright)
  | (apply lo_clo
     mright)
  | (apply pls_map
     intro _ _
     exact rfl))
local macro_rules | `(tactic| mframe) => `(tactic| first
  | ((with_reducible apply c_ne_self); mright)
  | ((with_reducible apply c_eq_self); mright)
  | with_reducible exact add_int _ _ _
  | with_reducible exact sub_int _ _ _
  | ((with_reducible apply mul_int) <;> mright)
  | ((with_reducible apply fdiv_int) <;> mright)
  | ((with_reducible apply mod_int) <;> mright)
  | ((with_reducible apply add_str) <;> mright)
  | with_reducible exact lt_int _ _ _
  | with_reducible exact le_int _ _ _
  | with_reducible exact gt_int _ _ _
  | with_reducible exact ge_int _ _ _
  | with_reducible exact eq_int _ _ _
  | with_reducible exact ne_int _ _ _
  | with_reducible exact eq_str _ _ _
  | with_reducible exact ne_str _ _ _
  | with_reducible exact is_non _ _
  | with_reducible exact isnot_non _ _
  | with_reducible exact is_bl _ _ _
  | with_reducible exact isnot_bl _ _ _
  | with_reducible exact ix_0 _ _ _
  | with_reducible exact ix_1 _ _ _ _
  | with_reducible exact ix_2 _ _ _ _ _
  | with_reducible exact ix_3 _ _ _ _ _ _
  | with_reducible exact bi_len_tup _ _
  | ((with_reducible apply bi_len_s); mright)
  | ((with_reducible apply bi_len_ref); mright)
  | with_reducible exact bi_abs _ _
  | with_reducible exact bi_tuple_tup
  | ((with_reducible apply bi_tuple_ref); mright)
  | with_reducible exact bi_list_tup
  | ((with_reducible apply bi_list_ref); mright)
  | with_reducible exact bi_int_bl
  | with_reducible exact bi_int_int
  | with_reducible exact bi_isint_non _
  | with_reducible exact bi_isint_bl _ _
  | with_reducible exact bi_isint_int _ _
  | with_reducible exact bi_isint_str _ _
  | with_reducible exact bi_isint_tup _ _
  | with_reducible exact bi_isbool_non _
  | with_reducible exact bi_isbool_bl _ _
  | with_reducible exact bi_isbool_int _ _
  | with_reducible exact bi_isbool_str _ _
  | with_reducible exact bi_isbool_tup _ _
  | with_reducible exact bi_isstr_non _
  | with_reducible exact bi_isstr_bl _ _
  | with_reducible exact bi_isstr_int _ _
  | with_reducible exact bi_isstr_str _ _
  | with_reducible exact bi_isstr_tup _ _
  | with_reducible exact bi_istuple_non _
  | with_reducible exact bi_istuple_bl _ _
  | with_reducible exact bi_istuple_int _ _
  | with_reducible exact bi_istuple_str _ _
  | with_reducible exact bi_istuple_tup _ _
  | with_reducible exact bi_islist_non _
  | with_reducible exact bi_islist_bl _ _
  | with_reducible exact bi_islist_int _ _
  | with_reducible exact bi_islist_str _ _
  | with_reducible exact bi_islist_tup _ _
  | with_reducible exact bi_isdict_non _
  | with_reducible exact bi_isdict_bl _ _
  | with_reducible exact bi_isdict_int _ _
  | with_reducible exact bi_isdict_str _ _
  | with_reducible exact bi_isdict_tup _ _
  | (with_reducible apply bi_str_s
     · massumption
     · decide)
  | ((with_reducible apply bi_all_map); mright)
  | ((with_reducible apply bi_any_map); mright)
  | with_reducible exact in_str _ _ _
  | ((with_reducible apply c_eq_nil) <;> mright)
  | ((with_reducible apply c_ne_nil) <;> mright)
  | ((with_reducible apply count_s); mright)
  | ((with_reducible apply index_s) <;> mright)
  | ((with_reducible apply mul_s) <;> mright)
  | with_reducible exact notin_str _ _ _
  | with_reducible exact bi_max _ _ _
  | with_reducible exact bi_min _ _ _)
local macro_rules | `(tactic| mframe) => `(tactic| first
  | with_reducible exact ix_enc0 _ _
  | with_reducible exact ix_enc1 _ _
  | with_reducible exact ix_encM0 _ _
  | with_reducible exact ix_encM1 _ _
  | with_reducible exact ix_encM2 _ _
  | with_reducible exact ix_encM3 _ _
  | with_reducible exact slc_t4 _ _ _ _ _ _ _
  | with_reducible exact add_t42 _ _ _ _ _ _ _
  | with_reducible exact add_t22 _ _ _ _ _
  | with_reducible exact ne_bl _ _ _
  | with_reducible exact pow18 _
  | ((with_reducible apply bi_int_s) <;> mright)
  | ((with_reducible apply slc_to1); mright)
  | ((with_reducible apply slc_from1); mright)
  | ((with_reducible apply bi_tuple_ref); mright)
  | (with_reducible apply ix_lst
     · mright
     · decide
     · exact rfl))
local macro_rules | `(tactic| mconstructor) => `(tactic| first
  | (apply bind_pos <;> exact rfl)
  | (apply bind_kw1 <;> exact rfl)
  | (apply bind_dfl <;> exact rfl))
local macro_rules | `(tactic| mexfalso) => `(tactic| with_reducible assumption)
local macro_rules | `(tactic| mpure_intro) => `(tactic| first
  | with_reducible exact src_str _ _
  | (with_reducible apply src_range1
     omega)
  | with_reducible exact src_tup _ _)
local macro_rules | `(tactic| mleft) => `(tactic| first
  | with_reducible assumption
  | with_reducible exact e_lit
  | ((with_reducible apply e_var); exact rfl)
  | (with_reducible apply e_glob
     first | with_reducible assumption | exact g1 | exact rfl)
  | with_reducible exact e_nil
  | (with_reducible apply e_cons
     · mleft
     · mleft)
  | ((with_reducible apply e_tup); mleft)
  | ((with_reducible apply e_lst); mleft)
  | (with_reducible apply e_bin
     · mleft
     · mleft
     · mframe)
  | ((with_reducible apply e_neg); mleft)
  | ((with_reducible apply e_not); mleft)
  | (with_reducible apply e_cmp
     · mleft
     · mleft
     · mframe
     · mright)
  | (with_reducible apply e_andK
     · mleft
     · first
       | exact andk_f
       | (apply andk_t; mleft)
       | (apply andk_g; intro _; mleft))
  | (with_reducible apply e_orK
     · mleft
     · first
       | exact ork_t
       | (apply ork_f; mleft)
       | (apply ork_g; intro _; mleft))
  | (with_reducible apply e_iteK
     · mleft
     · first
       | (apply itek_t; mleft)
       | (apply itek_f; mleft)
       | (apply itek_g
          · intro _
            mleft
          · intro _
            mleft))
  | (with_reducible apply e_idx
     · mleft
     · mleft
     · mframe
     · first
       | exact gc_same _ _
       | (apply gc_lo <;> mright))
  | (with_reducible apply e_callD
     · mleft
     · mleft
     · exact rfl
     · mconstructor
     · mexfalso
     · first
       | exact gc_same _ _
       | (apply gc_lo <;> mright)
       | exact gc_new _ _)
  | (with_reducible apply e_callb
     · mleft
     · mframe
     · first
       | exact gc_same _ _
       | (apply gc_lo <;> mright)
       | exact gc_new _ _)
  | (with_reducible apply e_chain
     · mleft
     · mleft
     · mframe
     · intro _
       mleft
     · intro _
       mframe)
  | (with_reducible apply e_mapf
     · mleft
     · mpure_intro
     · exact rfl
     · mright
     · intro _ _ _
       mleft)
  | (with_reducible apply e_compf
     · mleft
     · mpure_intro
     · exact rfl
     · mright
     · intro _ _ _
       mleft
     · intro _ _ _ _
       mleft)
  | (with_reducible apply e_slc
     · mleft
     · mleft
     · exact rfl
     · mleft
     · exact rfl
     · mframe)
  | (with_reducible apply e_bmeth
     · mleft
     · exact rfl
     · mleft
     · mframe
     · first
       | exact gc_same _ _
       | (apply gc_lo <;> mright)
       | exact gc_new _ _)
  | (with_reducible apply e_xis
     · exact rfl
     · exact rfl
     · exact rfl))
/- mpure: a call that raises -/
local macro_rules | `(tactic| mstart) => `(tactic| (
  apply e_callDx
  · mleft
  · mleft
  · exact rfl
  · mconstructor
  · mexfalso))
/- mleave: to a value that is told -/
local macro_rules | `(tactic| mleave) => `(tactic| (
  apply ev_to
  · mleft
  · first | exact rfl | (congr 2; done) | simp))
local macro_rules | `(tactic| mframe) => `(tactic| first
  | with_reducible exact slc_tfrom _ _
  | with_reducible exact slc_tto _ _
  | with_reducible exact lzip_tup _ _
  | with_reducible exact ix_pt0 _ _
  | with_reducible exact ix_pt1 _ _
  | with_reducible exact ix_rp0 _ _ _
  | with_reducible exact ix_rp1 _ _ _
  | with_reducible exact ix_rpp0 _ _
  | with_reducible exact ix_rpp1 _ _
  | with_reducible exact ix_rp20 _ _
  | with_reducible exact ix_rp21 _ _
  | fail)
/- one more row of these: an environment written out, an assignment, a choice that is not taken -/
local macro_rules | `(tactic| array_get_dec) => `(tactic| first
  | with_reducible exact set_0
  | (with_reducible apply set_s
     array_get_dec)
  | with_reducible exact wipe_nil
  | (with_reducible apply wipe_cons
     focus array_get_dec
     focus array_get_dec))
local macro_rules | `(tactic| mstop) => `(tactic| first
  | (apply s_asgS
     focus mleft
     focus array_get_dec)
  | (apply s_asgS2
     focus mleft
     focus array_get_dec
     focus array_get_dec)
  | (apply s_asgS3
     focus mleft
     focus array_get_dec
     focus array_get_dec
     focus array_get_dec))
local macro_rules | `(tactic| exists $t) => `(tactic| (
  apply s_noV
  focus mleft
  focus exact $t))
theorem c1_int (d : Nat) (i : Int) (h : Heap) : callD prog (d + 1) 1 [.int i] h = .ok (.bl true) h := f_ret (F := D1) rfl rfl (s_ret (by mleave))
theorem c1_tup (d : Nat) (i : List V) (h : Heap) : callD prog (d + 1) 1 [.tup i] h = .ok (.bl false) h := f_ret (F := D1) rfl rfl (s_ret (by mleave))
theorem c1_str (d : Nat) (i : List Nat) (h : Heap) : callD prog (d + 1) 1 [.str i] h = .ok (.bl false) h := f_ret (F := D1) rfl rfl (s_ret (by mleave))
theorem c1_bl (d : Nat) (i : Bool) (h : Heap) : callD prog (d + 1) 1 [.bl i] h = .ok (.bl false) h := f_ret (F := D1) rfl rfl (s_ret (by mleave))
theorem c1_non (d : Nat) (h : Heap) : callD prog (d + 1) 1 [.non] h = .ok (.bl false) h := f_ret (F := D1) rfl rfl (s_ret (by mleave))
local macro_rules | `(tactic| mexfalso) => `(tactic| first | with_reducible exact c1_int _ _ _ | with_reducible exact c1_tup _ _ _ | with_reducible exact c1_str _ _ _ | with_reducible exact c1_bl _ _ _ | with_reducible exact c1_non _ _)
/-- the greatest common divisor, by the rounds of a while -/
theorem gcd_loop (d : Nat) : ∀ (k n : Nat) (a b : Nat) (h : Heap), b < 2 ^ k → 2 * k + 1 ≤ n →
    whlL (fun e g => truth (evE (Cd d) (.cmp .gt (.var 1) (.lit (.int 0))) e g)) (fun e g => evSs (Cd d) [.asg (.nm (.tp [.nm 0, .nm 1])) (.tup [.var 1, .bin .mod (.var 0) (.var 1)])] e g) n [some (.int a), some (.int b)] h = .nx [some (.int (Nat.gcd a b)), some (.int 0)] h := by
  have test : ∀ (a b : Int) (h : Heap), truth (evE (Cd d) (.cmp .gt (.var 1) (.lit (.int 0))) [some (.int a), some (.int b)] h) = .ok (decide (0 < b)) h := by
    intro a b h
    simp [evE]
  have body : ∀ (a b : Nat) (h : Heap), 0 < b → evSs (Cd d) [.asg (.nm (.tp [.nm 0, .nm 1])) (.tup [.var 1, .bin .mod (.var 0) (.var 1)])] [some (.int a), some (.int b)] h = .nx [some (.int b), some (.int (a % b : Nat))] h := by
    intro a b h hb
    have : (b : Int) ≠ 0 := by omega
    simp [evSs, evS, evE, evEs, mod_int _ _ _ this, Int.fmod_eq_emod]
  intro k
  induction k with
  | zero =>
    intro n a b h hb hn
    have : b = 0 := by omega
    subst this
    cases n with
    | zero => omega
    | succ n => simp [whlL, test]
  | succ k ih =>
    intro n a b h hb hn
    obtain ⟨n, rfl⟩ : ∃ m, n = m + 2 := ⟨n - 2, by omega⟩
    by_cases h0 : b = 0
    · subst h0
      simp [whlL, test]
    · have hb0 : 0 < b := by omega
      rw [whlL, test]
      simp only [Res.fl]
      rw [if_pos (by simp; omega), body a b h hb0]
      simp only
      by_cases h1 : a % b = 0
      · rw [whlL, test]
        simp only [Res.fl]
        rw [if_neg (by simp; omega)]
        have : Nat.gcd a b = b := by rw [Nat.gcd_comm, Nat.gcd_rec, h1]; simp
        rw [this, h1]; rfl
      · have hr0 : 0 < a % b := by omega
        rw [whlL, test]
        simp only [Res.fl]
        rw [if_pos (by simp; omega), body b (a % b) h hr0]
        simp only
        have hlt : a % b < b := Nat.mod_lt _ hb0
        have h2 : b % (a % b) < 2 ^ k := by
          have e : 2 ^ (k + 1) = 2 * 2 ^ k := by rw [Nat.pow_succ]; omega
          by_cases hs : a % b < 2 ^ k
          · exact Nat.lt_trans (Nat.mod_lt _ hr0) hs
          · have : b % (a % b) = b - a % b := by
              rw [Nat.mod_eq_sub_mod (by omega), Nat.mod_eq_of_lt (by omega)]
            omega
        rw [ih n (a % b) (b % (a % b)) h h2 (by omega)]
        have : Nat.gcd (a % b) (b % (a % b)) = Nat.gcd a b := by
          rw [Nat.gcd_comm (a % b), ← Nat.gcd_rec, Nat.gcd_comm a b, Nat.gcd_rec b a]
        rw [this]
theorem gcd_nx (d : Nat) {n : Nat} (hn : n ≤ 4000) (a b : Nat) (h : Heap) (hb : b < 2 ^ n) : evS (Cd d) (.whl (.cmp .gt (.var 1) (.lit (.int 0))) [.asg (.nm (.tp [.nm 0, .nm 1])) (.tup [.var 1, .bin .mod (.var 0) (.var 1)])]) [some (.int a), some (.int b)] h = .nx [some (.int (Nat.gcd a b)), some (.int 0)] h := by
  rw [r_whl]
  exact gcd_loop d n ROUNDS a b h hb (by rw [ROUNDS_eq]; omega)
theorem s_whl {C : Ctx} {c : Ex} {b r : List St} {env env1 : Env} {h h1 : Heap} {R : Fl} (q1 : evS C (.whl c b) env h = .nx env1 h1) (q2 : evSs C r env1 h1 = R) : evSs C (.whl c b :: r) env h = R := by
  rw [r_scons, q1, at_nx, q2]
theorem c2 (d : Nat) {n : Nat} (hn : n ≤ 4000) (a b : Int) (h : Heap) (hb : b.natAbs < 2 ^ n) : callD prog (d + 1) 2 [.int a, .int b] h = .ok (.int (Nat.gcd a.natAbs b.natAbs)) h := by
  refine f_ret (F := D2) rfl rfl ?_
  apply s_asg2
  · mleft
  · refine s_whl (gcd_nx d hn a.natAbs b.natAbs h hb) ?_
    apply s_ret; mleave
def isNum (p q : Int) : Bool := decide (0 < q) && (decide (((Nat.gcd p.natAbs q.natAbs : Nat) : Int) = 1) && (decide ((p.natAbs : Int) < Z1) && decide (q < Z1)))
theorem c3 (d : Nat) {n : Nat} (hn : n ≤ 4000) (p q : Int) (h : Heap) (hq : q.natAbs < 2 ^ n) : callD prog (d + 2) 3 [.tup [.int p, .int q]] h = .ok (.bl (isNum p q)) h := by
  have e2 := c2 d hn p q h hq
  refine f_ret (F := D3) rfl rfl ?_
  refine s_no (h1 := h) ?_ ?_
  · mleave
  · apply s_ret
    unfold isNum
    generalize Nat.gcd p.natAbs q.natAbs = g at e2 ⊢
    mleave
/-! ### fractions in lowest terms -/
def enc (r : Rat) : V := .tup [.int r.num, .int r.den]
theorem enc_def (r : Rat) : enc r = .tup [.int r.num, .int r.den] := rfl
def fits (r : Rat) : Bool := decide ((r.num.natAbs : Int) < Z1) && decide ((r.den : Int) < Z1)
def encO (r : Rat) : V := if fits r then enc r else .non
def sg (b : Int) (g : Nat) : Int := if b < 0 then -(g : Int) else g
theorem fdiv_sg {a b : Int} {g : Nat} (hg : 0 < g) (hd : (g : Int) ∣ a) : a.fdiv (sg b g) = (if b < 0 then -1 else 1) * a / (g : Int) := by
  obtain ⟨c, rfl⟩ := hd
  have h0 : (g : Int) ≠ 0 := by omega
  unfold sg
  split
  · have e1 : (g : Int) * c = (-(g : Int)) * (-c) := by rw [Int.neg_mul_neg]
    rw [e1, Int.mul_fdiv_cancel_left _ (by omega)]
    have e2 : (-1 : Int) * (-(g : Int) * -c) = g * (-c) := by rw [Int.neg_mul_neg]; rw [Int.mul_neg]; omega
    rw [e2, Int.mul_ediv_cancel_left _ h0]
  · rw [Int.mul_fdiv_cancel_left _ h0, Int.one_mul, Int.mul_ediv_cancel_left _ h0]
theorem gcd_abs (a b : Int) : Nat.gcd a.natAbs b.natAbs = b.gcd a := by
  rw [Nat.gcd_comm]; rfl
theorem divInt_num {a b : Int} (h : b ≠ 0) : (Rat.divInt a b).num = a.fdiv (sg b (Nat.gcd a.natAbs b.natAbs)) := by
  rw [fdiv_sg (Nat.gcd_pos_of_pos_right _ (by omega)) (by rw [gcd_abs]; exact Int.gcd_dvd_right ..), Rat.num_divInt, gcd_abs]
  congr 2
  split
  · exact Int.sign_eq_neg_one_of_neg (by assumption)
  · exact Int.sign_eq_one_of_pos (by omega)
theorem divInt_den {a b : Int} (h : b ≠ 0) : ((Rat.divInt a b).den : Int) = b.fdiv (sg b (Nat.gcd a.natAbs b.natAbs)) := by
  rw [fdiv_sg (Nat.gcd_pos_of_pos_right _ (by omega)) (by rw [gcd_abs]; exact Int.gcd_dvd_left ..), Rat.den_divInt, gcd_abs, if_neg h]
  have : (if b < 0 then (-1 : Int) else 1) * b = b.natAbs := by split <;> omega
  rw [this, Int.natCast_ediv]
theorem sg_pos (a : Int) (b : Int) (g : Nat) : (if b < 0 then -a else a).fdiv g = a.fdiv (sg b g) := by
  unfold sg
  by_cases h : b < 0
  · rw [if_pos h, if_pos h, ← Int.neg_fdiv_neg]; simp
  · rw [if_neg h, if_neg h]
theorem isNum_enc (r : Rat) : isNum r.num r.den = fits r := by
  unfold isNum fits
  have h1 : 0 < (r.den : Int) := by have := r.den_pos; omega
  have h2 : Nat.gcd r.num.natAbs r.den = 1 := r.reduced
  simp [h1, h2]
  intro h; omega
local macro_rules | `(tactic| mexfalso) => `(tactic| first | with_reducible exact c1_int _ _ _ | with_reducible exact c1_tup _ _ _ | with_reducible exact c1_str _ _ _ | with_reducible exact c1_bl _ _ _ | with_reducible exact c1_non _ _)
/-- need_number(of = v), by what is_number answers -/
theorem c4 (d : Nat) (v : V) (h : Heap) (e : callD prog d 3 [v] h = .ok (.bl true) h) : callD prog (d + 1) 4 [v] h = .ok .non h := by
  refine f_nx (F := D4) (env1 := [some v]) rfl rfl ?_
  refine s_no (h1 := h) ?_ (by rw [r_snil]; rfl)
  mleave
theorem c4x (d : Nat) (v : V) (h : Heap) (e : callD prog d 3 [v] h = .ok (.bl false) h) : callD prog (d + 1) 4 [v] h = .exc ⟨2, []⟩ h := by
  refine f_exc (F := D4) (l := []) (env1 := [some v]) rfl rfl ?_
  refine s_yes (h1 := h) ?_ ?_
  · mleave
  · rw [s_raise (K := K2) (vs := [.str [110, 111, 32, 110, 117, 109, 98, 101, 114]]) (h1 := h) (by mleft) rfl rfl]
    simp; rfl
def txt (r : Rat) : List Nat := if (r.den : Int) = 1 then strI r.num else strI r.num ++ [58] ++ strI r.den
theorem strI_len {i : Int} {k : Nat} (hk : 0 < k) (h : i.natAbs < 10 ^ k) : (strI i).length ≤ k + 1 := by
  cases i with
  | ofNat n =>
    have := digs_len hk (n := n) (by simpa using h)
    show (digs n).length ≤ k + 1
    omega
  | negSucc n =>
    have := digs_len hk (n := n + 1) (by simpa using h)
    show (45 :: digs (n + 1)).length ≤ k + 1
    simp; omega
theorem fits_iff {r : Rat} (h : fits r = true) : r.num.natAbs < 10 ^ 40 ∧ r.den < 10 ^ 40 := by
  unfold fits at h
  rw [Z1_eq] at h
  simp at h
  omega
theorem txt_run (C : Ctx) (p q : Int) (h : Heap) (hp : p.natAbs < 10 ^ 60) (hq : q.natAbs < 10 ^ 60) : evE C (.ite (.cmp .eq (.idx (.var 0) (.lit (.int 1))) (.lit (.int 1))) (.callb .str [.idx (.var 0) (.lit (.int 0))]) (.bin .add (.bin .add (.callb .str [.idx (.var 0) (.lit (.int 0))]) (.lit (.str [58]))) (.callb .str [.idx (.var 0) (.lit (.int 1))]))) [some (.tup [.int p, .int q])] h = .ok (.str (if q = 1 then strI p else strI p ++ [58] ++ strI q)) h := by
  have l1 := strI_len (k := 60) (by omega) hp
  have l2 := strI_len (k := 60) (by omega) hq
  have p1 : p.natAbs < 2 ^ 200 := Nat.lt_of_lt_of_le hp (by decide)
  have q1 : q.natAbs < 2 ^ 200 := Nat.lt_of_lt_of_le hq (by decide)
  apply ev_to
  · mleft
  · by_cases hq1 : q = 1
    · simp [hq1]
    · simp [hq1]
theorem c14 (d : Nat) (r : Rat) (h : Heap) (hp : r.num.natAbs < 10 ^ 60) (hq : r.den < 10 ^ 60) : callD prog (d + 1) 14 [enc r] h = .ok (.str (txt r)) h := by
  refine f_ret (F := D14) rfl rfl ?_
  apply s_ret
  exact txt_run _ r.num r.den h hp (by simpa using hq)
theorem c3e (d : Nat) (r : Rat) (h : Heap) {n : Nat} (hn : n ≤ 4000) (hq : r.den < 2 ^ n) : callD prog (d + 2) 3 [enc r] h = .ok (.bl (fits r)) h := by
  have := c3 d hn r.num r.den h (by simpa using hq)
  rw [isNum_enc] at this
  exact this
theorem c7 (d : Nat) (r : Rat) (h : Heap) (hf : fits r = true) : callD prog (d + 4) 7 [enc r] h = .ok (.str (txt r)) h := by
  obtain ⟨f1, f2⟩ := fits_iff hf
  have e3 := c3e d r h (n := 200) (by decide) (Nat.lt_of_lt_of_le f2 (by decide))
  rw [hf] at e3
  have e4 := c4 (d + 2) _ h e3
  refine f_ret (F := D7) rfl rfl ?_
  apply s_expr
  · mleft
  apply s_ret
  exact txt_run _ r.num r.den h (Nat.lt_of_lt_of_le f1 (by decide)) (by simpa using Nat.lt_of_lt_of_le f2 (by decide))
def figs (w : List Nat) : Bool := (decide ((1 : Int) ≤ w.length) && decide ((w.length : Int) ≤ 40)) && w.all fun c => decide (c ∈ [48, 49, 50, 51, 52, 53, 54, 55, 56, 57])
theorem c12 (d : Nat) {n : Nat} (hn : n ≤ 4000) (a b : Nat) (h : Heap) (hb : b < 2 ^ n) : callD prog (d + 1) 12 [.int a, .int b] h = .ok (.int (Nat.gcd a b)) h := by
  refine f_ret (F := D12) rfl rfl ?_
  refine s_whl (gcd_nx d hn a b h hb) ?_
  apply s_ret
  mleft
theorem c13 (d : Nat) {n : Nat} (hn : n ≤ 4000) (a b : Int) (h : Heap) (h0 : b ≠ 0) (hb : b.natAbs < 2 ^ n) : callD prog (d + 2) 13 [.int a, .int b] h = .ok (enc (Rat.divInt a b)) h := by
  have hg0 : 0 < Nat.gcd a.natAbs b.natAbs := Nat.gcd_pos_of_pos_right _ (by omega)
  have hg : (Nat.gcd a.natAbs b.natAbs) ≤ b.natAbs := Nat.gcd_le_right _ (by omega)
  have e := c12 d hn a.natAbs b.natAbs h hb
  unfold enc
  rw [divInt_num h0, divInt_den h0]
  generalize Nat.gcd a.natAbs b.natAbs = g at e hg0 hg ⊢
  have hs : small (sg b g) = true := bz_small (n := n) (by unfold sg; split <;> omega) (by omega)
  have hz : sg b g ≠ 0 := by unfold sg; split <;> omega
  refine f_ret (F := D13) rfl rfl ?_
  apply s_asg
  · mleft
  refine s_asg (v := .int (sg b g)) (h1 := h) ?_ ?_
  · apply ev_to
    · mleft
    · unfold sg
      by_cases hb : b < 0 <;> simp [hb]
  generalize sg b g = z at *
  apply s_ret
  mleft

end MP
end

section
set_option Elab.async false
set_option linter.all false
set_option maxRecDepth 10000
set_option maxHeartbeats 1000000
namespace MP
/- the tactics of these texts: mleft reckons an expression, mframe one operator, mright a side condition, mexfalso a call -/
local macro_rules | `(tactic| massumption) => `(tactic| first
  | with_reducible assumption
  | exact bz_60 (by omega)
  | (with_reducible apply bz_abs
     massumption)
  | (with_reducible apply bz_neg
     massumption)
  | ((with_reducible apply bz_mul) <;> massumption)
  | ((with_reducible apply bz_add) <;> massumption)
  | ((with_reducible apply bz_sub) <;> massumption))
local macro_rules | `(tactic| mright) => `(tactic| first
  | with_reducible assumption
  | exact rfl
  | exact Ext.refl _
  | (apply Ext.app
     mright)
  | (apply bz_small
     · massumption
     · decide)
  | omega
  | (rw [LINE_eq]; omega)
  | exact listAt_new
  | (simp only [List.length_append, List.length_cons, List.length_nil, List.length_map, List.length_range, LINE_eq]; omega)
  | (apply listAt_app
     mright)
  | (apply lo_clo
     mright)
  | (apply pls_map
     intro _ _
     exact rfl))
local macro_rules | `(tactic| mframe) => `(tactic| first
  | ((with_reducible apply c_ne_self); mright)
  | ((with_reducible apply c_eq_self); mright)
  | with_reducible exact add_int _ _ _
  | with_reducible exact sub_int _ _ _
  | ((with_reducible apply mul_int) <;> mright)
  | ((with_reducible apply fdiv_int) <;> mright)
  | ((with_reducible apply mod_int) <;> mright)
  | ((with_reducible apply add_str) <;> mright)
  | with_reducible exact lt_int _ _ _
  | with_reducible exact le_int _ _ _
  | with_reducible exact gt_int _ _ _
  | with_reducible exact ge_int _ _ _
  | with_reducible exact eq_int _ _ _
  | with_reducible exact ne_int _ _ _
  | with_reducible exact eq_str _ _ _
  | with_reducible exact ne_str _ _ _
  | with_reducible exact is_non _ _
  | with_reducible exact isnot_non _ _
  | with_reducible exact is_bl _ _ _
  | with_reducible exact isnot_bl _ _ _
  | with_reducible exact ix_0 _ _ _
  | with_reducible exact ix_1 _ _ _ _
  | with_reducible exact ix_2 _ _ _ _ _
  | with_reducible exact ix_3 _ _ _ _ _ _
  | with_reducible exact bi_len_tup _ _
  | ((with_reducible apply bi_len_s); mright)
  | ((with_reducible apply bi_len_ref); mright)
  | with_reducible exact bi_abs _ _
  | with_reducible exact bi_tuple_tup
  | ((with_reducible apply bi_tuple_ref); mright)
  | with_reducible exact bi_list_tup
  | ((with_reducible apply bi_list_ref); mright)
  | with_reducible exact bi_int_bl
  | with_reducible exact bi_int_int
  | with_reducible exact bi_isint_non _
  | with_reducible exact bi_isint_bl _ _
  | with_reducible exact bi_isint_int _ _
  | with_reducible exact bi_isint_str _ _
  | with_reducible exact bi_isint_tup _ _
  | with_reducible exact bi_isbool_non _
  | with_reducible exact bi_isbool_bl _ _
  | with_reducible exact bi_isbool_int _ _
  | with_reducible exact bi_isbool_str _ _
  | with_reducible exact bi_isbool_tup _ _
  | with_reducible exact bi_isstr_non _
  | with_reducible exact bi_isstr_bl _ _
  | with_reducible exact bi_isstr_int _ _
  | with_reducible exact bi_isstr_str _ _
  | with_reducible exact bi_isstr_tup _ _
  | with_reducible exact bi_istuple_non _
  | with_reducible exact bi_istuple_bl _ _
  | with_reducible exact bi_istuple_int _ _
  | with_reducible exact bi_istuple_str _ _
  | with_reducible exact bi_istuple_tup _ _
  | with_reducible exact bi_islist_non _
  | with_reducible exact bi_islist_bl _ _
  | with_reducible exact bi_islist_int _ _
  | with_reducible exact bi_islist_str _ _
  | with_reducible exact bi_islist_tup _ _
  | with_reducible exact bi_isdict_non _
  | with_reducible exact bi_isdict_bl _ _
  | with_reducible exact bi_isdict_int _ _
  | with_reducible exact bi_isdict_str _ _
  | with_reducible exact bi_isdict_tup _ _
  | (with_reducible apply bi_str_s
     · massumption
     · decide)
  | ((with_reducible apply bi_all_map); mright)
  | ((with_reducible apply bi_any_map); mright)
  | with_reducible exact in_str _ _ _
  | ((with_reducible apply c_eq_nil) <;> mright)
  | ((with_reducible apply c_ne_nil) <;> mright)
  | ((with_reducible apply count_s); mright)
  | ((with_reducible apply index_s) <;> mright)
  | ((with_reducible apply mul_s) <;> mright)
  | with_reducible exact notin_str _ _ _
  | with_reducible exact bi_max _ _ _
  | with_reducible exact bi_min _ _ _)
local macro_rules | `(tactic| mframe) => `(tactic| first
  | with_reducible exact ix_enc0 _ _
  | with_reducible exact ix_enc1 _ _
  | with_reducible exact ix_encM0 _ _
  | with_reducible exact ix_encM1 _ _
  | with_reducible exact ix_encM2 _ _
  | with_reducible exact ix_encM3 _ _
  | with_reducible exact slc_t4 _ _ _ _ _ _ _
  | with_reducible exact add_t42 _ _ _ _ _ _ _
  | with_reducible exact add_t22 _ _ _ _ _
  | with_reducible exact ne_bl _ _ _
  | with_reducible exact pow18 _
  | ((with_reducible apply bi_int_s) <;> mright)
  | ((with_reducible apply slc_to1); mright)
  | ((with_reducible apply slc_from1); mright)
  | ((with_reducible apply bi_tuple_ref); mright)
  | (with_reducible apply ix_lst
     · mright
     · decide
     · exact rfl))
local macro_rules | `(tactic| mconstructor) => `(tactic| first
  | (apply bind_pos <;> exact rfl)
  | (apply bind_kw1 <;> exact rfl)
  | (apply bind_dfl <;> exact rfl))
local macro_rules | `(tactic| mexfalso) => `(tactic| with_reducible assumption)
local macro_rules | `(tactic| mpure_intro) => `(tactic| first
  | with_reducible exact src_str _ _
  | (with_reducible apply src_range1
     omega)
  | with_reducible exact src_tup _ _)
local macro_rules | `(tactic| mleft) => `(tactic| first
  | with_reducible assumption
  | with_reducible exact e_lit
  | ((with_reducible apply e_var); exact rfl)
  | (with_reducible apply e_glob
     first | with_reducible assumption | exact g1 | exact rfl)
  | with_reducible exact e_nil
  | (with_reducible apply e_cons
     · mleft
     · mleft)
  | ((with_reducible apply e_tup); mleft)
  | ((with_reducible apply e_lst); mleft)
  | (with_reducible apply e_bin
     · mleft
     · mleft
     · mframe)
  | ((with_reducible apply e_neg); mleft)
  | ((with_reducible apply e_not); mleft)
  | (with_reducible apply e_cmp
     · mleft
     · mleft
     · mframe
     · mright)
  | (with_reducible apply e_andK
     · mleft
     · first
       | exact andk_f
       | (apply andk_t; mleft)
       | (apply andk_g; intro _; mleft))
  | (with_reducible apply e_orK
     · mleft
     · first
       | exact ork_t
       | (apply ork_f; mleft)
       | (apply ork_g; intro _; mleft))
  | (with_reducible apply e_iteK
     · mleft
     · first
       | (apply itek_t; mleft)
       | (apply itek_f; mleft)
       | (apply itek_g
          · intro _
            mleft
          · intro _
            mleft))
  | (with_reducible apply e_idx
     · mleft
     · mleft
     · mframe
     · first
       | exact gc_same _ _
       | (apply gc_lo <;> mright))
  | (with_reducible apply e_callD
     · mleft
     · mleft
     · exact rfl
     · mconstructor
     · mexfalso
     · first
       | exact gc_same _ _
       | (apply gc_lo <;> mright)
       | exact gc_new _ _)
  | (with_reducible apply e_callb
     · mleft
     · mframe
     · first
       | exact gc_same _ _
       | (apply gc_lo <;> mright)
       | exact gc_new _ _)
  | (with_reducible apply e_chain
     · mleft
     · mleft
     · mframe
     · intro _
       mleft
     · intro _
       mframe)
  | (with_reducible apply e_mapf
     · mleft
     · mpure_intro
     · exact rfl
     · mright
     · intro _ _ _
       mleft)
  | (with_reducible apply e_compf
     · mleft
     · mpure_intro
     · exact rfl
     · mright
     · intro _ _ _
       mleft
     · intro _ _ _ _
       mleft)
  | (with_reducible apply e_slc
     · mleft
     · mleft
     · exact rfl
     · mleft
     · exact rfl
     · mframe)
  | (with_reducible apply e_bmeth
     · mleft
     · exact rfl
     · mleft
     · mframe
     · first
       | exact gc_same _ _
       | (apply gc_lo <;> mright)
       | exact gc_new _ _)
  | (with_reducible apply e_xis
     · exact rfl
     · exact rfl
     · exact rfl))
/- mpure: a call that raises -/
local macro_rules | `(tactic| mstart) => `(tactic| (
  apply e_callDx
  · mleft
  · mleft
  · exact rfl
  · mconstructor
  · mexfalso))
/- mleave: to a value that is told -/
local macro_rules | `(tactic| mleave) => `(tactic| (
  apply ev_to
  · mleft
  · first | exact rfl | (congr 2; done) | simp))
local macro_rules | `(tactic| mframe) => `(tactic| first
  | with_reducible exact slc_tfrom _ _
  | with_reducible exact slc_tto _ _
  | with_reducible exact lzip_tup _ _
  | with_reducible exact ix_pt0 _ _
  | with_reducible exact ix_pt1 _ _
  | with_reducible exact ix_rp0 _ _ _
  | with_reducible exact ix_rp1 _ _ _
  | with_reducible exact ix_rpp0 _ _
  | with_reducible exact ix_rpp1 _ _
  | with_reducible exact ix_rp20 _ _
  | with_reducible exact ix_rp21 _ _
  | fail)
/- one more row of these: an environment written out, an assignment, a choice that is not taken -/
local macro_rules | `(tactic| array_get_dec) => `(tactic| first
  | with_reducible exact set_0
  | (with_reducible apply set_s
     array_get_dec)
  | with_reducible exact wipe_nil
  | (with_reducible apply wipe_cons
     focus array_get_dec
     focus array_get_dec))
local macro_rules | `(tactic| mstop) => `(tactic| first
  | (apply s_asgS
     focus mleft
     focus array_get_dec)
  | (apply s_asgS2
     focus mleft
     focus array_get_dec
     focus array_get_dec)
  | (apply s_asgS3
     focus mleft
     focus array_get_dec
     focus array_get_dec
     focus array_get_dec))
local macro_rules | `(tactic| exists $t) => `(tactic| (
  apply s_noV
  focus mleft
  focus exact $t))
local macro_rules | `(tactic| mexfalso) => `(tactic| first | with_reducible exact c1_int _ _ _ | with_reducible exact c1_tup _ _ _ | with_reducible exact c1_str _ _ _ | with_reducible exact c1_bl _ _ _ | with_reducible exact c1_non _ _)
/-! ### for, with the heap as it is -/
theorem for_env {b : Env → Heap → Fl} {i : Nat} {st : List (Nat × Obj)} {α : Type} {f : α → V} {h : Heap} (I : List α → Env → Prop) (hst : stays h st = true)
    (hb : ∀ y ys e, I (y :: ys) e → ∃ e2, (b (e.set i (some (f y))) h = .nx e2 h ∨ b (e.set i (some (f y))) h = .ct e2 h) ∧ I ys e2) :
    ∀ ys e, I ys e → ∃ e2, forL b (.nm i) st (ys.map f) e h = .nx e2 h ∧ I [] e2
  | [], e, hi => ⟨e, by simp [forL, hst], hi⟩
  | y :: ys, e, hi => by
    obtain ⟨e2, b1, b2⟩ := hb y ys e hi
    obtain ⟨e3, c1, c2⟩ := for_env I hst hb ys e2 b2
    refine ⟨e3, ?_, c2⟩
    simp only [List.map, forL, hst, if_true, bindT]
    rcases b1 with b1 | b1 <;> rw [b1] <;> exact c1
theorem s_for {C : Ctx} {tg : Tg} {k : Src} {ss : List Ex} {b r : List St} {env env1 : Env} {h h1 h2 : Heap} {vs xs : List V} {st : List (Nat × Obj)} {R : Fl} (q1 : evEs C ss env h = .ok vs h1) (q2 : srcOf k vs h1 = some (xs, st))
    (q3 : forL (fun e g => evSs C b e g) tg st xs env h1 = .nx env1 h2) (q4 : evSs C r env1 h2 = R) : evSs C (.forr tg k ss b :: r) env h = R := by
  rw [r_scons]
  simp only [evS]
  rw [q1, fl_ok, q2]
  simp only
  rw [q3, at_nx, q4]
theorem s_for_ret {C : Ctx} {tg : Tg} {k : Src} {ss : List Ex} {b r : List St} {env : Env} {h h1 h2 : Heap} {vs xs : List V} {st : List (Nat × Obj)} {v : V} (q1 : evEs C ss env h = .ok vs h1) (q2 : srcOf k vs h1 = some (xs, st))
    (q3 : forL (fun e g => evSs C b e g) tg st xs env h1 = .ret v h2) : evSs C (.forr tg k ss b :: r) env h = .ret v h2 := by
  rw [r_scons]
  simp only [evS]
  rw [q1, fl_ok, q2]
  simp only
  rw [q3, at_ret]
theorem tens_lt {k : Nat} (hk : k ≤ 40) : ((10 : Int) ^ k).natAbs < 2 ^ 150 := by
  rw [Int.natAbs_pow]
  exact Nat.lt_of_le_of_lt (Nat.pow_le_pow_right (by decide) hk) (by decide)
theorem slc_to (h : Heap) (s : List Nat) (n : Nat) (hs : s.length ≤ LINE) : slcV h (.str s) .non (.int n) = .ok (.str (s.take n)) h := by
  simp only [slcV, hs, if_true, slcL, cutAt]
  rw [if_neg (by omega)]
  congr 2
  rw [Int.toNat_natCast, List.drop_zero, Nat.sub_zero]
  by_cases hn : n ≤ s.length
  · rw [Nat.min_eq_left hn]
  · rw [Nat.min_eq_right (by omega), List.take_of_length_le (Nat.le_refl _), List.take_of_length_le (by omega)]
theorem slc_from (h : Heap) (s : List Nat) (n : Nat) (hs : s.length ≤ LINE) : slcV h (.str s) (.int n) .non = .ok (.str (s.drop n)) h := by
  simp only [slcV, hs, if_true, slcL, cutAt]
  rw [if_neg (by omega)]
  congr 2
  rw [Int.toNat_natCast]
  by_cases hn : n ≤ s.length
  · rw [Nat.min_eq_left hn, List.take_of_length_le (by simp)]
  · rw [Nat.min_eq_right (by omega)]
    simp
    omega
theorem slc_to1 {h : Heap} {s : List Nat} (hs : s.length ≤ LINE) : slcV h (.str s) .non (.int 1) = .ok (.str (s.take 1)) h := slc_to h s 1 hs
theorem slc_from1 {h : Heap} {s : List Nat} (hs : s.length ≤ LINE) : slcV h (.str s) (.int 1) .non = .ok (.str (s.drop 1)) h := slc_from h s 1 hs
theorem split_s {s : List Nat} {c : Nat} {h : Heap} (l : s.length + 2 ≤ LINE) : bmV .split (.str s) [.str [c]] h = .ok (.ref h.length) (h ++ [.lst ((splitC c s).map V.str)]) := by
  simp only [bmV, l, if_true]
theorem splitC_len (c : Nat) : ∀ (s p : List Nat), p ∈ splitC c s → p.length ≤ s.length
  | [], p, h => by simp [splitC] at h; simp [h]
  | d :: r, p, h => by
    unfold splitC at h
    split at h
    · simp at h
      rcases h with rfl | h
      · simp
      · have := splitC_len c r p h; simp; omega
    · cases q : splitC c r with
      | nil => rw [q] at h; simp at h; simp [h]
      | cons a b =>
        rw [q] at h
        simp at h
        rcases h with rfl | h
        · have := splitC_len c r a (by rw [q]; simp); simp; omega
        · have := splitC_len c r p (by rw [q]; simp [h]); simp; omega
local macro_rules | `(tactic| mframe) => `(tactic| first
  | ((with_reducible apply split_s); mright)
  | ((with_reducible apply slc_to1); mright)
  | ((with_reducible apply slc_from1); mright))
theorem divInt_eta (r : Rat) : Rat.divInt r.num r.den = r := Rat.num_divInt_den r
theorem enc_clo (r : Rat) : (enc r).clo = true := rfl
theorem encO_clo (r : Rat) : (encO r).clo = true := by unfold encO; split <;> rfl
/-! ### a text reads back -/
theorem splitC_one (c : Nat) : ∀ a : List Nat, (∀ x ∈ a, x ≠ c) → splitC c a = [a]
  | [], _ => rfl
  | x :: a, h => by
    rw [splitC, if_neg (h x (by simp)), splitC_one c a fun y hy => h y (List.mem_cons_of_mem _ hy)]
theorem splitC_two (c : Nat) (b : List Nat) (hb : ∀ x ∈ b, x ≠ c) : ∀ a : List Nat, (∀ x ∈ a, x ≠ c) → splitC c (a ++ c :: b) = [a, b]
  | [], _ => by
    rw [List.nil_append, splitC, if_pos rfl, splitC_one c b hb]
  | x :: a, h => by
    rw [List.cons_append, splitC, if_neg (h x (by simp)), splitC_two c b hb a fun y hy => h y (List.mem_cons_of_mem _ hy)]
theorem divInt_le {a b : Int} (h : b ≠ 0) : (Rat.divInt a b).num.natAbs ≤ a.natAbs ∧ (Rat.divInt a b).den ≤ b.natAbs := by
  constructor
  · rw [Rat.num_divInt, Int.natAbs_ediv_of_dvd]
    · refine Nat.le_trans (Nat.div_le_self _ _) ?_
      rw [Int.natAbs_mul, Int.natAbs_sign_of_ne_zero h, Nat.one_mul]
      exact Nat.le_refl _
    · exact Int.dvd_trans (Int.gcd_dvd_right ..) (Int.dvd_mul_left ..)
  · rw [Rat.den_divInt, if_neg h]
    exact Nat.div_le_self _ _
theorem fits_of {r : Rat} (h1 : r.num.natAbs < 10 ^ 40) (h2 : r.den < 10 ^ 40) : fits r = true := by
  unfold fits
  rw [Z1_eq]
  simp
  omega
theorem divInt_one (a : Int) : enc (Rat.divInt a 1) = .tup [.int a, .int 1] := by
  have : Rat.divInt a 1 = (a : Rat) := by rw [Rat.divInt_eq_div]; grind
  rw [this]
  rfl
/-- the last rows of a law, of known things alone -/
def retTrue : Fl → Bool
  | .ret (.bl true) _ => true
  | _ => false
theorem retTrue_of {f : Fl} (h : retTrue f = true) : ∃ h1, f = .ret (.bl true) h1 := by
  unfold retTrue at h
  split at h
  · exact ⟨_, rfl⟩
  · cases h
theorem rows_true {d n : Nat} {ss : List St} (hs : St.clos ss = true) (e : retTrue (evSs (Cd d) ss (List.replicate n none) []) = true) (env : Env) (hn : env.length = n) (h : Heap) :
    ∃ h1, evSs (Cd d) ss env h = .ret (.bl true) (up h h1) := by
  obtain ⟨h1, e1⟩ := retTrue_of e
  exact ⟨h1, rows_ret prog_clo hs e1 env hn h⟩

end MP
end

section
set_option Elab.async false
set_option linter.all false
set_option maxRecDepth 10000
set_option maxHeartbeats 1000000
namespace MP
/- the tactics of these texts: mleft reckons an expression, mframe one operator, mright a side condition, mexfalso a call -/
local macro_rules | `(tactic| massumption) => `(tactic| first
  | with_reducible assumption
  | exact bz_60 (by omega)
  | (with_reducible apply bz_abs
     massumption)
  | (with_reducible apply bz_neg
     massumption)
  | ((with_reducible apply bz_mul) <;> massumption)
  | ((with_reducible apply bz_add) <;> massumption)
  | ((with_reducible apply bz_sub) <;> massumption))
local macro_rules | `(tactic| mright) => `(tactic| first
  | with_reducible assumption
  | exact rfl
  | exact Ext.refl _
  | (apply Ext.app
     mright)
  | (apply bz_small
     · massumption
     · decide)
  | omega
  | (rw [LINE_eq]; omega)
  | exact listAt_new
  | (simp only [List.length_append, List.length_cons, List.length_nil, List.length_map, List.length_range, LINE_eq]; omega)
  | (apply listAt_app
     mright)
  | (apply lo_clo
     mright)
  | (apply pls_map
     intro _ _
     exact rfl))
local macro_rules | `(tactic| mframe) => `(tactic| first
  | ((with_reducible apply c_ne_self); mright)
  | ((with_reducible apply c_eq_self); mright)
  | with_reducible exact add_int _ _ _
  | with_reducible exact sub_int _ _ _
  | ((with_reducible apply mul_int) <;> mright)
  | ((with_reducible apply fdiv_int) <;> mright)
  | ((with_reducible apply mod_int) <;> mright)
  | ((with_reducible apply add_str) <;> mright)
  | with_reducible exact lt_int _ _ _
  | with_reducible exact le_int _ _ _
  | with_reducible exact gt_int _ _ _
  | with_reducible exact ge_int _ _ _
  | with_reducible exact eq_int _ _ _
  | with_reducible exact ne_int _ _ _
  | with_reducible exact eq_str _ _ _
  | with_reducible exact ne_str _ _ _
  | with_reducible exact is_non _ _
  | with_reducible exact isnot_non _ _
  | with_reducible exact is_bl _ _ _
  | with_reducible exact isnot_bl _ _ _
  | with_reducible exact ix_0 _ _ _
  | with_reducible exact ix_1 _ _ _ _
  | with_reducible exact ix_2 _ _ _ _ _
  | with_reducible exact ix_3 _ _ _ _ _ _
  | with_reducible exact bi_len_tup _ _
  | ((with_reducible apply bi_len_s); mright)
  | ((with_reducible apply bi_len_ref); mright)
  | with_reducible exact bi_abs _ _
  | with_reducible exact bi_tuple_tup
  | ((with_reducible apply bi_tuple_ref); mright)
  | with_reducible exact bi_list_tup
  | ((with_reducible apply bi_list_ref); mright)
  | with_reducible exact bi_int_bl
  | with_reducible exact bi_int_int
  | with_reducible exact bi_isint_non _
  | with_reducible exact bi_isint_bl _ _
  | with_reducible exact bi_isint_int _ _
  | with_reducible exact bi_isint_str _ _
  | with_reducible exact bi_isint_tup _ _
  | with_reducible exact bi_isbool_non _
  | with_reducible exact bi_isbool_bl _ _
  | with_reducible exact bi_isbool_int _ _
  | with_reducible exact bi_isbool_str _ _
  | with_reducible exact bi_isbool_tup _ _
  | with_reducible exact bi_isstr_non _
  | with_reducible exact bi_isstr_bl _ _
  | with_reducible exact bi_isstr_int _ _
  | with_reducible exact bi_isstr_str _ _
  | with_reducible exact bi_isstr_tup _ _
  | with_reducible exact bi_istuple_non _
  | with_reducible exact bi_istuple_bl _ _
  | with_reducible exact bi_istuple_int _ _
  | with_reducible exact bi_istuple_str _ _
  | with_reducible exact bi_istuple_tup _ _
  | with_reducible exact bi_islist_non _
  | with_reducible exact bi_islist_bl _ _
  | with_reducible exact bi_islist_int _ _
  | with_reducible exact bi_islist_str _ _
  | with_reducible exact bi_islist_tup _ _
  | with_reducible exact bi_isdict_non _
  | with_reducible exact bi_isdict_bl _ _
  | with_reducible exact bi_isdict_int _ _
  | with_reducible exact bi_isdict_str _ _
  | with_reducible exact bi_isdict_tup _ _
  | (with_reducible apply bi_str_s
     · massumption
     · decide)
  | ((with_reducible apply bi_all_map); mright)
  | ((with_reducible apply bi_any_map); mright)
  | with_reducible exact in_str _ _ _
  | ((with_reducible apply c_eq_nil) <;> mright)
  | ((with_reducible apply c_ne_nil) <;> mright)
  | ((with_reducible apply count_s); mright)
  | ((with_reducible apply index_s) <;> mright)
  | ((with_reducible apply mul_s) <;> mright)
  | with_reducible exact notin_str _ _ _
  | with_reducible exact bi_max _ _ _
  | with_reducible exact bi_min _ _ _)
local macro_rules | `(tactic| mframe) => `(tactic| first
  | with_reducible exact ix_enc0 _ _
  | with_reducible exact ix_enc1 _ _
  | with_reducible exact ix_encM0 _ _
  | with_reducible exact ix_encM1 _ _
  | with_reducible exact ix_encM2 _ _
  | with_reducible exact ix_encM3 _ _
  | with_reducible exact slc_t4 _ _ _ _ _ _ _
  | with_reducible exact add_t42 _ _ _ _ _ _ _
  | with_reducible exact add_t22 _ _ _ _ _
  | with_reducible exact ne_bl _ _ _
  | with_reducible exact pow18 _
  | ((with_reducible apply bi_int_s) <;> mright)
  | ((with_reducible apply slc_to1); mright)
  | ((with_reducible apply slc_from1); mright)
  | ((with_reducible apply bi_tuple_ref); mright)
  | (with_reducible apply ix_lst
     · mright
     · decide
     · exact rfl))
local macro_rules | `(tactic| mconstructor) => `(tactic| first
  | (apply bind_pos <;> exact rfl)
  | (apply bind_kw1 <;> exact rfl)
  | (apply bind_dfl <;> exact rfl))
local macro_rules | `(tactic| mexfalso) => `(tactic| with_reducible assumption)
local macro_rules | `(tactic| mpure_intro) => `(tactic| first
  | with_reducible exact src_str _ _
  | (with_reducible apply src_range1
     omega)
  | with_reducible exact src_tup _ _)
local macro_rules | `(tactic| mleft) => `(tactic| first
  | with_reducible assumption
  | with_reducible exact e_lit
  | ((with_reducible apply e_var); exact rfl)
  | (with_reducible apply e_glob
     first | with_reducible assumption | exact g1 | exact rfl)
  | with_reducible exact e_nil
  | (with_reducible apply e_cons
     · mleft
     · mleft)
  | ((with_reducible apply e_tup); mleft)
  | ((with_reducible apply e_lst); mleft)
  | (with_reducible apply e_bin
     · mleft
     · mleft
     · mframe)
  | ((with_reducible apply e_neg); mleft)
  | ((with_reducible apply e_not); mleft)
  | (with_reducible apply e_cmp
     · mleft
     · mleft
     · mframe
     · mright)
  | (with_reducible apply e_andK
     · mleft
     · first
       | exact andk_f
       | (apply andk_t; mleft)
       | (apply andk_g; intro _; mleft))
  | (with_reducible apply e_orK
     · mleft
     · first
       | exact ork_t
       | (apply ork_f; mleft)
       | (apply ork_g; intro _; mleft))
  | (with_reducible apply e_iteK
     · mleft
     · first
       | (apply itek_t; mleft)
       | (apply itek_f; mleft)
       | (apply itek_g
          · intro _
            mleft
          · intro _
            mleft))
  | (with_reducible apply e_idx
     · mleft
     · mleft
     · mframe
     · first
       | exact gc_same _ _
       | (apply gc_lo <;> mright))
  | (with_reducible apply e_callD
     · mleft
     · mleft
     · exact rfl
     · mconstructor
     · mexfalso
     · first
       | exact gc_same _ _
       | (apply gc_lo <;> mright)
       | exact gc_new _ _)
  | (with_reducible apply e_callb
     · mleft
     · mframe
     · first
       | exact gc_same _ _
       | (apply gc_lo <;> mright)
       | exact gc_new _ _)
  | (with_reducible apply e_chain
     · mleft
     · mleft
     · mframe
     · intro _
       mleft
     · intro _
       mframe)
  | (with_reducible apply e_mapf
     · mleft
     · mpure_intro
     · exact rfl
     · mright
     · intro _ _ _
       mleft)
  | (with_reducible apply e_compf
     · mleft
     · mpure_intro
     · exact rfl
     · mright
     · intro _ _ _
       mleft
     · intro _ _ _ _
       mleft)
  | (with_reducible apply e_slc
     · mleft
     · mleft
     · exact rfl
     · mleft
     · exact rfl
     · mframe)
  | (with_reducible apply e_bmeth
     · mleft
     · exact rfl
     · mleft
     · mframe
     · first
       | exact gc_same _ _
       | (apply gc_lo <;> mright)
       | exact gc_new _ _)
  | (with_reducible apply e_xis
     · exact rfl
     · exact rfl
     · exact rfl))
/- mpure: a call that raises -/
local macro_rules | `(tactic| mstart) => `(tactic| (
  apply e_callDx
  · mleft
  · mleft
  · exact rfl
  · mconstructor
  · mexfalso))
/- mleave: to a value that is told -/
local macro_rules | `(tactic| mleave) => `(tactic| (
  apply ev_to
  · mleft
  · first | exact rfl | (congr 2; done) | simp))
local macro_rules | `(tactic| mframe) => `(tactic| first
  | with_reducible exact slc_tfrom _ _
  | with_reducible exact slc_tto _ _
  | with_reducible exact lzip_tup _ _
  | with_reducible exact ix_pt0 _ _
  | with_reducible exact ix_pt1 _ _
  | with_reducible exact ix_rp0 _ _ _
  | with_reducible exact ix_rp1 _ _ _
  | with_reducible exact ix_rpp0 _ _
  | with_reducible exact ix_rpp1 _ _
  | with_reducible exact ix_rp20 _ _
  | with_reducible exact ix_rp21 _ _
  | fail)
/- one more row of these: an environment written out, an assignment, a choice that is not taken -/
local macro_rules | `(tactic| array_get_dec) => `(tactic| first
  | with_reducible exact set_0
  | (with_reducible apply set_s
     array_get_dec)
  | with_reducible exact wipe_nil
  | (with_reducible apply wipe_cons
     focus array_get_dec
     focus array_get_dec))
local macro_rules | `(tactic| mstop) => `(tactic| first
  | (apply s_asgS
     focus mleft
     focus array_get_dec)
  | (apply s_asgS2
     focus mleft
     focus array_get_dec
     focus array_get_dec)
  | (apply s_asgS3
     focus mleft
     focus array_get_dec
     focus array_get_dec
     focus array_get_dec))
local macro_rules | `(tactic| exists $t) => `(tactic| (
  apply s_noV
  focus mleft
  focus exact $t))
/-! ### the drawing, as a function of the script -/
def mixD (k many cell : Int) : Int :=
  ((((((((cell.fmod 2147483563) * 69069 + 104723 * (k + 1)).fmod 2147483563) * (((cell.fmod 2147483563) * 69069 + 104723 * (k + 1)).fmod 2147483563) + (((cell.fmod 2147483563) * 69069 + 104723 * (k + 1)).fmod 2147483563).fdiv 3).fmod 2147483399) * (((((cell.fmod 2147483563) * 69069 + 104723 * (k + 1)).fmod 2147483563) * (((cell.fmod 2147483563) * 69069 + 104723 * (k + 1)).fmod 2147483563) + (((cell.fmod 2147483563) * 69069 + 104723 * (k + 1)).fmod 2147483563).fdiv 3).fmod 2147483399) + (((((cell.fmod 2147483563) * 69069 + 104723 * (k + 1)).fmod 2147483563) * (((cell.fmod 2147483563) * 69069 + 104723 * (k + 1)).fmod 2147483563) + (((cell.fmod 2147483563) * 69069 + 104723 * (k + 1)).fmod 2147483563).fdiv 3).fmod 2147483399).fdiv 7).fmod 2147483647).fdiv 11).fmod many
theorem tail_eq (C : Ctx) (h : Heap) (s o4 o5 : Option V) (k many cell : Int) (hk : 0 ≤ k) (hk2 : k < 2 ^ 40) (hm : 0 < many) : evSs C drawTail [s, some (.int k), some (.int many), some (.int cell), o4, o5] h = .ret (.int (mixD k many cell)) h := by
  unfold drawTail mixD
  obtain ⟨a1, a2⟩ := mod_rng cell 2147483563 (by omega)
  have m1 := mod_int cell 2147483563 h (by omega)
  refine s_asg (v := .int ((cell.fmod 2147483563 * 69069 + 104723 * (k + 1)).fmod 2147483563)) (h1 := h) ?_ ?_
  · generalize cell.fmod 2147483563 = x at a1 a2 m1 ⊢
    have m2 := mul_int x 69069 h (sm (by omega)) (sm (by omega))
    have m3 := mul_int 104723 (k + 1) h (sm (by omega)) (sm (by omega))
    have m4 := mod_int (x * 69069 + 104723 * (k + 1)) 2147483563 h (by omega)
    simp [m1, m2, m3, m4]
  obtain ⟨b1, b2⟩ := mod_rng (cell.fmod 2147483563 * 69069 + 104723 * (k + 1)) 2147483563 (by omega)
  generalize (cell.fmod 2147483563 * 69069 + 104723 * (k + 1)).fmod 2147483563 = x at b1 b2 ⊢
  have sq : ∀ y : Int, 0 ≤ y → y < 2147483563 → small y = true := fun y h1 h2 => sm (by omega)
  refine s_asg (v := .int ((x * x + x.fdiv 3).fmod 2147483399)) (h1 := h) ?_ ?_
  · have m1 := mul_int x x h (sq x b1 b2) (sq x b1 b2)
    have m2 := fdiv_int x 3 h (by omega) (sm (by omega))
    have m3 := mod_int (x * x + x.fdiv 3) 2147483399 h (by omega)
    simp [m1, m2, m3]
  obtain ⟨d1, d2⟩ := mod_rng (x * x + x.fdiv 3) 2147483399 (by omega)
  generalize (x * x + x.fdiv 3).fmod 2147483399 = y at d1 d2 ⊢
  refine s_ret ?_
  have m1 := mul_int y y h (sq y d1 (by omega)) (sq y d1 (by omega))
  have m2 := fdiv_int y 7 h (by omega) (sm (by omega))
  have m3 := mod_int (y * y + y.fdiv 7) 2147483647 h (by omega)
  obtain ⟨c1, c2⟩ := mod_rng (y * y + y.fdiv 7) 2147483647 (by omega)
  have m4 := fdiv_int ((y * y + y.fdiv 7).fmod 2147483647) 11 h (by omega) (sm (by omega))
  have m5 := mod_int (((y * y + y.fdiv 7).fmod 2147483647).fdiv 11) many h (by omega)
  simp [m1, m2, m3, m4, m5]
theorem mixD_rng (k many cell : Int) (hm : 0 < many) : 0 ≤ mixD k many cell ∧ mixD k many cell < many := mod_rng _ many hm
def dloop : Nat → Int → Int
  | 0, r => r
  | t + 1, r => if 0 < r then dloop t (r.fdiv 1000000) else r
def drawn (ns : List Int) (k many : Int) : Int :=
  if ns.isEmpty then mixD k many (7 * k)
  else if decide ((1000000000000000000 : Int) ≤ ns.getD (k % ns.length).toNat 0) && (decide (k / ns.length < 60) && decide (0 < dloop (k / ns.length).toNat ((ns.getD (k % ns.length).toNat 0).fdiv 1000000000000000000))) then
    ((dloop (k / ns.length).toNat ((ns.getD (k % ns.length).toNat 0).fdiv 1000000000000000000)).fmod 1000000).fmod many
  else mixD k many (ns.getD (k % ns.length).toNat 0 + 6553 * (k / ns.length))
theorem drawn_rng (ns : List Int) (k many : Int) (hm : 0 < many) : 0 ≤ drawn ns k many ∧ drawn ns k many < many := by
  unfold drawn
  split
  · exact mixD_rng _ _ _ hm
  · split
    · exact mod_rng _ many hm
    · exact mixD_rng _ _ _ hm
theorem loop_eq (C : Ctx) (h : Heap) (s o1 o2 o3 : Option V) : ∀ (t n : Nat) (r : Int), t < n → ∃ t' : Int, whlL (fun e g => truth (evE C (.and_ (.cmp .gt (.var 5) (.lit (.int 0))) (.cmp .gt (.var 4) (.lit (.int 0)))) e g)) (fun e g => evSs C [.asg (.nm (.nm 5)) (.bin .fdiv (.var 5) (.lit (.int 1000000))), .asg (.nm (.nm 4)) (.bin .sub (.var 4) (.lit (.int 1)))] e g) n [s, o1, o2, o3, some (.int (t : Int)), some (.int r)] h = .nx [s, o1, o2, o3, some (.int t'), some (.int (dloop t r))] h := by
  have test : ∀ (t r : Int), truth (evE C (.and_ (.cmp .gt (.var 5) (.lit (.int 0))) (.cmp .gt (.var 4) (.lit (.int 0)))) [s, o1, o2, o3, some (.int t), some (.int r)] h) = .ok (decide (0 < r) && decide (0 < t)) h := by
    intro t r
    by_cases h1 : 0 < r
    · simp [h1]
    · simp [h1]
  have body : ∀ (t r : Int), evSs C [.asg (.nm (.nm 5)) (.bin .fdiv (.var 5) (.lit (.int 1000000))), .asg (.nm (.nm 4)) (.bin .sub (.var 4) (.lit (.int 1)))] [s, o1, o2, o3, some (.int t), some (.int r)] h = .nx [s, o1, o2, o3, some (.int (t - 1)), some (.int (r.fdiv 1000000))] h := by
    intro t r
    have m := fdiv_int r 1000000 h (by omega) (sm (by omega))
    simp [m]
  intro t
  induction t with
  | zero =>
    intro n r hn
    obtain ⟨n, rfl⟩ : ∃ m, n = m + 1 := ⟨n - 1, by omega⟩
    exact ⟨0, by rw [whlL, test, fl_ok, if_neg (by simp)]; rfl⟩
  | succ t ih =>
    intro n r hn
    obtain ⟨n, rfl⟩ : ∃ m, n = m + 1 := ⟨n - 1, by omega⟩
    rw [whlL, test, fl_ok]
    by_cases h1 : 0 < r
    · rw [if_pos (by simp [h1]), body]
      obtain ⟨t', e⟩ := ih n (r.fdiv 1000000) (by omega)
      refine ⟨t', ?_⟩
      have : ((t + 1 : Nat) : Int) - 1 = (t : Int) := by omega
      rw [this]
      have e2 : dloop (t + 1) r = dloop t (r.fdiv 1000000) := by rw [dloop, if_pos h1]
      rw [e2]
      exact e
    · rw [if_neg (by simp [h1])]
      have e2 : dloop (t + 1) r = r := by rw [dloop, if_neg h1]
      rw [e2]
      exact ⟨_, rfl⟩
/-- the script stands at its place -/
structure Scr (ns : List Int) (h : Heap) : Prop where
  at0 : h[0]? = some (.ro (ns.map V.int))
  len : ns.length ≤ 63
theorem Scr.app {ns : List Int} {h : Heap} (s : Scr ns h) (l : Heap) : Scr ns (h ++ l) := by
  refine ⟨?_, s.len⟩
  rw [List.getElem?_append_left (List.getElem?_eq_some_iff.mp s.at0).1, s.at0]
theorem Scr.list {ns : List Int} {h : Heap} (s : Scr ns h) : listAt h 0 = some (ns.map V.int) := by
  simp [listAt, s.at0]
theorem ints_pl (ns : List Int) (n : Nat) : V.pls (ns.map V.int) n = true := pls_map _ _ _ fun _ _ => by simp [V.pl]
local macro_rules | `(tactic| mframe) => `(tactic| first
  | ((with_reducible apply c_ne_nil) <;> mright)
  | (with_reducible apply bi_len_ref; assumption))
theorem pow18 (h : Heap) : binV .pow (.int 10) (.int 18) h = .ok (.int 1000000000000000000) h := by
  have hp : intOp .pow 10 18 = some 1000000000000000000 := by decide
  simp [binV, hp]
theorem draw {d : Nat} {ns : List Int} {h : Heap} (s : Scr ns h) (k many : Int) (hk : 0 ≤ k) (hk2 : k < 2 ^ 40) (hm : 0 < many) : callD prog (d + 1) 11 [.ref 0, .int k, .int many] h = .ok (.int (drawn ns k many)) h := by
  have sl := s.list
  have sp := ints_pl ns 100
  refine f_ret (F := D11) rfl rfl ?_
  refine s_asg (v := .int (7 * k)) (h1 := h) (by mleft) ?_
  by_cases hn : ns = []
  · subst hn
    have ed : drawn [] k many = mixD k many (7 * k) := rfl
    rw [ed]
    refine s_no (h1 := h) (by mleave) ?_
    exact tail_eq (Cd d) h _ _ _ k many (7 * k) hk hk2 hm
  have hne : ns.isEmpty = false := by simpa using hn
  have hlen : 0 < ns.length := List.length_pos_iff.mpr hn
  have hz : (ns.length : Int) ≠ 0 := by omega
  have r1 := Int.emod_nonneg k hz
  have r2 := Int.emod_lt_of_pos k (b := ns.length) (by omega)
  have hidx : (k % ns.length).toNat < ns.length := by omega
  have hget : (ns.map V.int)[(k % ns.length).toNat]? = some (.int (ns.getD (k % ns.length).toNat 0)) := by
    rw [List.getElem?_map, List.getElem?_eq_getElem hidx]
    simp [List.getD, List.getElem?_eq_getElem hidx]
  have hsm : small (ns.length : Int) = true := sm (by have := s.len; omega)
  have t1 : 0 ≤ k / (ns.length : Int) := Int.ediv_nonneg hk (by omega)
  have t2 : k / (ns.length : Int) ≤ k := Int.ediv_le_self _ hk
  have m1 := mod_int k ns.length h hz
  have m2 := fdiv_int k ns.length h hz hsm
  rw [Int.fmod_eq_emod_of_nonneg _ (by omega)] at m1
  rw [Int.fdiv_eq_ediv_of_nonneg _ (by omega)] at m2
  have el : biV .len [.ref 0] h = .ok (.int ns.length) h := by
    have := bi_len_ref sl
    rwa [List.length_map] at this
  have ei : idxV h (.ref 0) (.int (k % ns.length)) = some (.int (ns.getD (k % ns.length).toNat 0)) := ix_lst sl r1 hget
  refine s_yes (h1 := h) (by apply ev_to; (· mleft); (· rw [show (ns.map V.int).isEmpty = false by simpa using hn]; rfl)) ?_
  unfold drawn
  rw [hne, if_neg Bool.false_ne_true]
  generalize ns.getD (k % ns.length).toNat 0 = cell at ei ⊢
  have lenE : ∀ env : Env, env[0]? = some (some (.ref 0)) → evE (Cd d) (.callb .len [.var 0]) env h = .ok (.int ns.length) h := by
    intro env he
    apply e_callb
    · apply e_cons
      · apply e_var; rw [he]; rfl
      · exact e_nil
    · exact el
    · exact gc_same _ _
  have tE : ∀ env : Env, env[0]? = some (some (.ref 0)) → env[1]? = some (some (.int k)) → evE (Cd d) (.bin .fdiv (.var 1) (.callb .len [.var 0])) env h = .ok (.int (k / ns.length)) h := by
    intro env he he1
    apply e_bin
    · apply e_var; rw [he1]; rfl
    · exact lenE env he
    · exact m2
  generalize k / (ns.length : Int) = turn at *
  have last : ∀ o5, evSs (Cd d) [.asg (.nm (.nm 3)) (.bin .add (.var 3) (.bin .mul (.lit (.int 6553)) (.bin .fdiv (.var 1) (.callb .len [.var 0]))))] [some (.ref 0), some (.int k), some (.int many), some (.int cell), some (.int turn), o5] h = .nx [some (.ref 0), some (.int k), some (.int many), some (.int (cell + 6553 * turn)), some (.int turn), o5] h := by
    intro o5
    have te := tE [some (.ref 0), some (.int k), some (.int many), some (.int cell), some (.int turn), o5] rfl rfl
    refine s_asg (v := .int (cell + 6553 * turn)) (h1 := h) (by mleft) ?_
    rw [r_snil]; rfl
  have fin : ∀ o5, (evSs (Cd d) [.asg (.nm (.nm 3)) (.bin .add (.var 3) (.bin .mul (.lit (.int 6553)) (.bin .fdiv (.var 1) (.callb .len [.var 0]))))] [some (.ref 0), some (.int k), some (.int many), some (.int cell), some (.int turn), o5] h).andThen (fun e g => evSs (Cd d) drawTail e g) = .ret (.int (mixD k many (cell + 6553 * turn))) h := by
    intro o5
    rw [last, at_nx]
    exact tail_eq (Cd d) h _ _ _ k many _ hk hk2 hm
  have pre : ∀ {R : Fl}, (evSs (Cd d) ([.iff (.and_ (.cmp .ge (.var 3) (.bin .pow (.lit (.int 10)) (.lit (.int 18)))) (.cmp .lt (.var 4) (.lit (.int 60)))) [.asg (.nm (.nm 5)) (.bin .fdiv (.var 3) (.bin .pow (.lit (.int 10)) (.lit (.int 18)))),
        .whl (.and_ (.cmp .gt (.var 5) (.lit (.int 0))) (.cmp .gt (.var 4) (.lit (.int 0)))) [.asg (.nm (.nm 5)) (.bin .fdiv (.var 5) (.lit (.int 1000000))),
           .asg (.nm (.nm 4)) (.bin .sub (.var 4) (.lit (.int 1)))],
        .iff (.cmp .gt (.var 5) (.lit (.int 0))) [.ret (.bin .mod (.bin .mod (.var 5) (.lit (.int 1000000))) (.var 2))] []] [],
     .asg (.nm (.nm 3)) (.bin .add (.var 3) (.bin .mul (.lit (.int 6553)) (.bin .fdiv (.var 1) (.callb .len [.var 0]))))]) [some (.ref 0), some (.int k), some (.int many), some (.int cell), some (.int turn), none] h).andThen (fun e g => evSs (Cd d) drawTail e g) = R → (evSs (Cd d) [.asg (.nm (.nm 3)) (.idx (.var 0) (.bin .mod (.var 1) (.callb .len [.var 0]))),
     .asg (.nm (.nm 4)) (.bin .fdiv (.var 1) (.callb .len [.var 0])),
     .iff (.and_ (.cmp .ge (.var 3) (.bin .pow (.lit (.int 10)) (.lit (.int 18)))) (.cmp .lt (.var 4) (.lit (.int 60)))) [.asg (.nm (.nm 5)) (.bin .fdiv (.var 3) (.bin .pow (.lit (.int 10)) (.lit (.int 18)))),
        .whl (.and_ (.cmp .gt (.var 5) (.lit (.int 0))) (.cmp .gt (.var 4) (.lit (.int 0)))) [.asg (.nm (.nm 5)) (.bin .fdiv (.var 5) (.lit (.int 1000000))),
           .asg (.nm (.nm 4)) (.bin .sub (.var 4) (.lit (.int 1)))],
        .iff (.cmp .gt (.var 5) (.lit (.int 0))) [.ret (.bin .mod (.bin .mod (.var 5) (.lit (.int 1000000))) (.var 2))] []] [],
     .asg (.nm (.nm 3)) (.bin .add (.var 3) (.bin .mul (.lit (.int 6553)) (.bin .fdiv (.var 1) (.callb .len [.var 0]))))] ((startE D11 [.ref 0, .int k, .int many]).set 3 (some (.int (7 * k)))) h).andThen (fun e g => evSs (Cd d) drawTail e g) = R := by
    intro R q
    rw [← q]
    congr 1
    refine s_asg (v := .int cell) (h1 := h) ?_ ?_
    · have := lenE ((startE D11 [.ref 0, .int k, .int many]).set 3 (some (.int (7 * k)))) rfl
      apply e_idx
      · mleft
      · apply e_bin
        · mleft
        · exact this
        · exact m1
      · exact ei
      · exact gc_same _ _
    refine s_asg (v := .int turn) (h1 := h) (tE _ rfl rfl) ?_
    rfl
  refine pre ?_
  have e18 := pow18 h
  have ec : evE (Cd d) (.and_ (.cmp .ge (.var 3) (.bin .pow (.lit (.int 10)) (.lit (.int 18)))) (.cmp .lt (.var 4) (.lit (.int 60)))) [some (.ref 0), some (.int k), some (.int many), some (.int cell), some (.int turn), none] h = .ok (.bl (decide ((1000000000000000000 : Int) ≤ cell) && decide (turn < 60))) h := by
    apply e_andK
    · apply e_cmp
      · mleft
      · apply e_bin
        · mleft
        · mleft
        · exact e18
      · mframe
      · mright
    · apply andk_g
      intro _
      mleft
  by_cases c1 : (1000000000000000000 : Int) ≤ cell
  · by_cases c2 : turn < 60
    · have lp := loop_eq (Cd d) h (some (.ref 0)) (some (.int k)) (some (.int many)) (some (.int cell)) turn.toNat ROUNDS (cell.fdiv 1000000000000000000) (by rw [ROUNDS_eq]; omega)
      obtain ⟨t', lp⟩ := lp
      rw [Int.toNat_of_nonneg t1] at lp
      have ec2 : evE (Cd d) (.bin .fdiv (.var 3) (.bin .pow (.lit (.int 10)) (.lit (.int 18)))) [some (.ref 0), some (.int k), some (.int many), some (.int cell), some (.int turn), none] h = .ok (.int (cell.fdiv 1000000000000000000)) h := by
        apply e_bin
        · mleft
        · apply e_bin
          · mleft
          · mleft
          · exact e18
        · exact fdiv_int _ _ _ (by decide) (sm (by decide))
      have start : ∀ {R : Fl}, (evSs (Cd d) [.iff (.cmp .gt (.var 5) (.lit (.int 0))) [.ret (.bin .mod (.bin .mod (.var 5) (.lit (.int 1000000))) (.var 2))] []] [some (.ref 0), some (.int k), some (.int many), some (.int cell), some (.int t'), some (.int (dloop turn.toNat (cell.fdiv 1000000000000000000)))] h) = R → evSs (Cd d) [.asg (.nm (.nm 5)) (.bin .fdiv (.var 3) (.bin .pow (.lit (.int 10)) (.lit (.int 18)))),
        .whl (.and_ (.cmp .gt (.var 5) (.lit (.int 0))) (.cmp .gt (.var 4) (.lit (.int 0)))) [.asg (.nm (.nm 5)) (.bin .fdiv (.var 5) (.lit (.int 1000000))),
           .asg (.nm (.nm 4)) (.bin .sub (.var 4) (.lit (.int 1)))],
        .iff (.cmp .gt (.var 5) (.lit (.int 0))) [.ret (.bin .mod (.bin .mod (.var 5) (.lit (.int 1000000))) (.var 2))] []] [some (.ref 0), some (.int k), some (.int many), some (.int cell), some (.int turn), none] h = R := by
        intro R q
        refine s_asg ec2 ?_
        rw [r_scons, r_whl]
        have := congrArg (fun f => f.andThen fun env1 h1 => evSs (Cd d) [.iff (.cmp .gt (.var 5) (.lit (.int 0))) [.ret (.bin .mod (.bin .mod (.var 5) (.lit (.int 1000000))) (.var 2))] []] env1 h1) lp
        exact this.trans q
      generalize dloop turn.toNat (cell.fdiv 1000000000000000000) = rest at lp start ⊢
      rw [decide_eq_true c1, decide_eq_true c2] at ec ⊢
      by_cases c3 : 0 < rest
      · rw [decide_eq_true c3, if_pos (show (true && (true && true)) = true from rfl)]
        rw [s_yes_ret ec (start (s_yes_ret (h1 := h) (h2 := h) (v := .int ((rest.fmod 1000000).fmod many)) ?_ ?_)), at_ret]
        · apply ev_to
          · mleft
          · rw [decide_eq_true c3]
        · apply s_ret
          mleft
      · rw [decide_eq_false c3, if_neg (show ¬ (true && (true && false)) = true by decide)]
        rw [s_yes ec (R := .nx [some (.ref 0), some (.int k), some (.int many), some (.int (cell + 6553 * turn)), some (.int t'), some (.int rest)] h) ?_, at_nx]
        · exact tail_eq (Cd d) h _ _ _ k many _ hk hk2 hm
        · rw [start (R := .nx [some (.ref 0), some (.int k), some (.int many), some (.int cell), some (.int t'), some (.int rest)] h), at_nx]
          · have te := tE [some (.ref 0), some (.int k), some (.int many), some (.int cell), some (.int t'), some (.int rest)] rfl rfl
            refine s_asg (v := .int (cell + 6553 * turn)) (h1 := h) (by mleft) ?_
            rw [r_snil]; rfl
          · refine s_no (h1 := h) ?_ (by rw [r_snil])
            apply ev_to
            · mleft
            · rw [decide_eq_false c3]
    · rw [decide_eq_true c1, decide_eq_false c2] at ec ⊢
      rw [Bool.false_and, Bool.and_false, if_neg (by decide)]
      rw [s_no ec (last none), at_nx]
      exact tail_eq (Cd d) h _ _ _ k many _ hk hk2 hm
  · rw [decide_eq_false c1, Bool.false_and] at ec
    rw [decide_eq_false c1, Bool.false_and, if_neg (by decide)]
    rw [s_no ec (last none), at_nx]
    exact tail_eq (Cd d) h _ _ _ k many _ hk hk2 hm
end MP
end

section
set_option Elab.async false
set_option linter.all false
set_option maxRecDepth 10000
set_option maxHeartbeats 1000000
namespace MP
/- the tactics of these texts: mleft reckons an expression, mframe one operator, mright a side condition, mexfalso a call -/
local macro_rules | `(tactic| massumption) => `(tactic| first
  | with_reducible assumption
  | exact bz_60 (by omega)
  | (with_reducible apply bz_abs
     massumption)
  | (with_reducible apply bz_neg
     massumption)
  | ((with_reducible apply bz_mul) <;> massumption)
  | ((with_reducible apply bz_add) <;> massumption)
  | ((with_reducible apply bz_sub) <;> massumption))
local macro_rules | `(tactic| mright) => `(tactic| first
  | with_reducible assumption
  | exact rfl
  | exact Ext.refl _
  | (apply Ext.app
     mright)
  | (apply bz_small
     · massumption
     · decide)
  | omega
  | (rw [LINE_eq]; omega)
  | exact listAt_new
  | (simp only [List.length_append, List.length_cons, List.length_nil, List.length_map, List.length_range, LINE_eq]; omega)
  | (apply listAt_app
     mright)
  | (apply lo_clo
     mright)
  | (apply pls_map
     intro _ _
     exact rfl))
local macro_rules | `(tactic| mframe) => `(tactic| first
  | ((with_reducible apply c_ne_self); mright)
  | ((with_reducible apply c_eq_self); mright)
  | with_reducible exact add_int _ _ _
  | with_reducible exact sub_int _ _ _
  | ((with_reducible apply mul_int) <;> mright)
  | ((with_reducible apply fdiv_int) <;> mright)
  | ((with_reducible apply mod_int) <;> mright)
  | ((with_reducible apply add_str) <;> mright)
  | with_reducible exact lt_int _ _ _
  | with_reducible exact le_int _ _ _
  | with_reducible exact gt_int _ _ _
  | with_reducible exact ge_int _ _ _
  | with_reducible exact eq_int _ _ _
  | with_reducible exact ne_int _ _ _
  | with_reducible exact eq_str _ _ _
  | with_reducible exact ne_str _ _ _
  | with_reducible exact is_non _ _
  | with_reducible exact isnot_non _ _
  | with_reducible exact is_bl _ _ _
  | with_reducible exact isnot_bl _ _ _
  | with_reducible exact ix_0 _ _ _
  | with_reducible exact ix_1 _ _ _ _
  | with_reducible exact ix_2 _ _ _ _ _
  | with_reducible exact ix_3 _ _ _ _ _ _
  | with_reducible exact bi_len_tup _ _
  | ((with_reducible apply bi_len_s); mright)
  | ((with_reducible apply bi_len_ref); mright)
  | with_reducible exact bi_abs _ _
  | with_reducible exact bi_tuple_tup
  | ((with_reducible apply bi_tuple_ref); mright)
  | with_reducible exact bi_list_tup
  | ((with_reducible apply bi_list_ref); mright)
  | with_reducible exact bi_int_bl
  | with_reducible exact bi_int_int
  | with_reducible exact bi_isint_non _
  | with_reducible exact bi_isint_bl _ _
  | with_reducible exact bi_isint_int _ _
  | with_reducible exact bi_isint_str _ _
  | with_reducible exact bi_isint_tup _ _
  | with_reducible exact bi_isbool_non _
  | with_reducible exact bi_isbool_bl _ _
  | with_reducible exact bi_isbool_int _ _
  | with_reducible exact bi_isbool_str _ _
  | with_reducible exact bi_isbool_tup _ _
  | with_reducible exact bi_isstr_non _
  | with_reducible exact bi_isstr_bl _ _
  | with_reducible exact bi_isstr_int _ _
  | with_reducible exact bi_isstr_str _ _
  | with_reducible exact bi_isstr_tup _ _
  | with_reducible exact bi_istuple_non _
  | with_reducible exact bi_istuple_bl _ _
  | with_reducible exact bi_istuple_int _ _
  | with_reducible exact bi_istuple_str _ _
  | with_reducible exact bi_istuple_tup _ _
  | with_reducible exact bi_islist_non _
  | with_reducible exact bi_islist_bl _ _
  | with_reducible exact bi_islist_int _ _
  | with_reducible exact bi_islist_str _ _
  | with_reducible exact bi_islist_tup _ _
  | with_reducible exact bi_isdict_non _
  | with_reducible exact bi_isdict_bl _ _
  | with_reducible exact bi_isdict_int _ _
  | with_reducible exact bi_isdict_str _ _
  | with_reducible exact bi_isdict_tup _ _
  | (with_reducible apply bi_str_s
     · massumption
     · decide)
  | ((with_reducible apply bi_all_map); mright)
  | ((with_reducible apply bi_any_map); mright)
  | with_reducible exact in_str _ _ _
  | ((with_reducible apply c_eq_nil) <;> mright)
  | ((with_reducible apply c_ne_nil) <;> mright)
  | ((with_reducible apply count_s); mright)
  | ((with_reducible apply index_s) <;> mright)
  | ((with_reducible apply mul_s) <;> mright)
  | with_reducible exact notin_str _ _ _
  | with_reducible exact bi_max _ _ _
  | with_reducible exact bi_min _ _ _)
local macro_rules | `(tactic| mframe) => `(tactic| first
  | with_reducible exact ix_enc0 _ _
  | with_reducible exact ix_enc1 _ _
  | with_reducible exact ix_encM0 _ _
  | with_reducible exact ix_encM1 _ _
  | with_reducible exact ix_encM2 _ _
  | with_reducible exact ix_encM3 _ _
  | with_reducible exact slc_t4 _ _ _ _ _ _ _
  | with_reducible exact add_t42 _ _ _ _ _ _ _
  | with_reducible exact add_t22 _ _ _ _ _
  | with_reducible exact ne_bl _ _ _
  | with_reducible exact pow18 _
  | ((with_reducible apply bi_int_s) <;> mright)
  | ((with_reducible apply slc_to1); mright)
  | ((with_reducible apply slc_from1); mright)
  | ((with_reducible apply bi_tuple_ref); mright)
  | (with_reducible apply ix_lst
     · mright
     · decide
     · exact rfl))
local macro_rules | `(tactic| mconstructor) => `(tactic| first
  | (apply bind_pos <;> exact rfl)
  | (apply bind_kw1 <;> exact rfl)
  | (apply bind_dfl <;> exact rfl))
local macro_rules | `(tactic| mexfalso) => `(tactic| with_reducible assumption)
local macro_rules | `(tactic| mpure_intro) => `(tactic| first
  | with_reducible exact src_str _ _
  | (with_reducible apply src_range1
     omega)
  | with_reducible exact src_tup _ _)
local macro_rules | `(tactic| mleft) => `(tactic| first
  | with_reducible assumption
  | with_reducible exact e_lit
  | ((with_reducible apply e_var); exact rfl)
  | (with_reducible apply e_glob
     first | with_reducible assumption | exact g1 | exact rfl)
  | with_reducible exact e_nil
  | (with_reducible apply e_cons
     · mleft
     · mleft)
  | ((with_reducible apply e_tup); mleft)
  | ((with_reducible apply e_lst); mleft)
  | (with_reducible apply e_bin
     · mleft
     · mleft
     · mframe)
  | ((with_reducible apply e_neg); mleft)
  | ((with_reducible apply e_not); mleft)
  | (with_reducible apply e_cmp
     · mleft
     · mleft
     · mframe
     · mright)
  | (with_reducible apply e_andK
     · mleft
     · first
       | exact andk_f
       | (apply andk_t; mleft)
       | (apply andk_g; intro _; mleft))
  | (with_reducible apply e_orK
     · mleft
     · first
       | exact ork_t
       | (apply ork_f; mleft)
       | (apply ork_g; intro _; mleft))
  | (with_reducible apply e_iteK
     · mleft
     · first
       | (apply itek_t; mleft)
       | (apply itek_f; mleft)
       | (apply itek_g
          · intro _
            mleft
          · intro _
            mleft))
  | (with_reducible apply e_idx
     · mleft
     · mleft
     · mframe
     · first
       | exact gc_same _ _
       | (apply gc_lo <;> mright))
  | (with_reducible apply e_callD
     · mleft
     · mleft
     · exact rfl
     · mconstructor
     · mexfalso
     · first
       | exact gc_same _ _
       | (apply gc_lo <;> mright)
       | exact gc_new _ _)
  | (with_reducible apply e_callb
     · mleft
     · mframe
     · first
       | exact gc_same _ _
       | (apply gc_lo <;> mright)
       | exact gc_new _ _)
  | (with_reducible apply e_chain
     · mleft
     · mleft
     · mframe
     · intro _
       mleft
     · intro _
       mframe)
  | (with_reducible apply e_mapf
     · mleft
     · mpure_intro
     · exact rfl
     · mright
     · intro _ _ _
       mleft)
  | (with_reducible apply e_compf
     · mleft
     · mpure_intro
     · exact rfl
     · mright
     · intro _ _ _
       mleft
     · intro _ _ _ _
       mleft)
  | (with_reducible apply e_slc
     · mleft
     · mleft
     · exact rfl
     · mleft
     · exact rfl
     · mframe)
  | (with_reducible apply e_bmeth
     · mleft
     · exact rfl
     · mleft
     · mframe
     · first
       | exact gc_same _ _
       | (apply gc_lo <;> mright)
       | exact gc_new _ _)
  | (with_reducible apply e_xis
     · exact rfl
     · exact rfl
     · exact rfl))
/- mpure: a call that raises -/
local macro_rules | `(tactic| mstart) => `(tactic| (
  apply e_callDx
  · mleft
  · mleft
  · exact rfl
  · mconstructor
  · mexfalso))
/- mleave: to a value that is told -/
local macro_rules | `(tactic| mleave) => `(tactic| (
  apply ev_to
  · mleft
  · first | exact rfl | (congr 2; done) | simp))
local macro_rules | `(tactic| mframe) => `(tactic| first
  | with_reducible exact slc_tfrom _ _
  | with_reducible exact slc_tto _ _
  | with_reducible exact lzip_tup _ _
  | with_reducible exact ix_pt0 _ _
  | with_reducible exact ix_pt1 _ _
  | with_reducible exact ix_rp0 _ _ _
  | with_reducible exact ix_rp1 _ _ _
  | with_reducible exact ix_rpp0 _ _
  | with_reducible exact ix_rpp1 _ _
  | with_reducible exact ix_rp20 _ _
  | with_reducible exact ix_rp21 _ _
  | fail)
/- one more row of these: an environment written out, an assignment, a choice that is not taken -/
local macro_rules | `(tactic| array_get_dec) => `(tactic| first
  | with_reducible exact set_0
  | (with_reducible apply set_s
     array_get_dec)
  | with_reducible exact wipe_nil
  | (with_reducible apply wipe_cons
     focus array_get_dec
     focus array_get_dec))
local macro_rules | `(tactic| mstop) => `(tactic| first
  | (apply s_asgS
     focus mleft
     focus array_get_dec)
  | (apply s_asgS2
     focus mleft
     focus array_get_dec
     focus array_get_dec)
  | (apply s_asgS3
     focus mleft
     focus array_get_dec
     focus array_get_dec
     focus array_get_dec))
local macro_rules | `(tactic| exists $t) => `(tactic| (
  apply s_noV
  focus mleft
  focus exact $t))
/-! ### sums of fractions -/
structure Bd (x : Rat) : Prop where
  num : x.num.natAbs < 2 ^ 400
  den : ((x.den : Nat) : Int).natAbs < 2 ^ 400
theorem ix_enc0 (h : Heap) (r : Rat) : idxV h (enc r) (.int 0) = some (.int r.num) := ix_0 h _ _
theorem ix_enc1 (h : Heap) (r : Rat) : idxV h (enc r) (.int 1) = some (.int r.den) := ix_1 h _ _ _
theorem den_ne (x : Rat) : ((x.den : Nat) : Int) ≠ 0 := by have := x.den_pos; omega
theorem mul_den (x y : Rat) : (x.den : Int) * y.den ≠ 0 := Int.mul_ne_zero (den_ne x) (den_ne y)
theorem add_eq (x y : Rat) : Rat.divInt (x.num * y.den + y.num * x.den) (x.den * y.den) = x + y := by
  rw [← Rat.divInt_add_divInt _ _ (den_ne x) (den_ne y), divInt_eta, divInt_eta]
theorem sub_eq (x y : Rat) : Rat.divInt (x.num * y.den - y.num * x.den) (x.den * y.den) = x - y := by
  rw [← Rat.divInt_sub_divInt _ _ (den_ne x) (den_ne y), divInt_eta, divInt_eta]
theorem mul_eq (x y : Rat) : Rat.divInt (x.num * y.num) (x.den * y.den) = x * y := by
  rw [← Rat.divInt_mul_divInt, divInt_eta, divInt_eta]
theorem num_ne {x : Rat} (h : x ≠ 0) : x.num ≠ 0 := fun e => h (Rat.num_eq_zero.mp e)
theorem div_eq (x y : Rat) (hy : y ≠ 0) : Rat.divInt (x.num * y.den) (x.den * y.num) = x / y := by
  have h1 := divInt_eta x
  have h2 := divInt_eta y
  conv => rhs; rw [← h1, ← h2]
  rw [Rat.divInt_eq_div, Rat.divInt_eq_div, Rat.divInt_eq_div]
  have a1 : ((x.den : Int) : Rat) ≠ 0 := by
    have := den_ne x
    exact_mod_cast this
  have a2 : ((y.den : Int) : Rat) ≠ 0 := by
    have := den_ne y
    exact_mod_cast this
  have a3 : ((y.num : Int) : Rat) ≠ 0 := by
    have := num_ne hy
    exact_mod_cast this
  rw [Rat.intCast_mul, Rat.intCast_mul]
  grind
theorem lt_eq (x y : Rat) : decide (x.num * y.den < y.num * x.den) = decide (x < y) := by
  rw [Bool.eq_iff_iff, decide_eq_true_iff, decide_eq_true_iff, Rat.lt_iff]
theorem enc_neg (x : Rat) : V.tup [.int (-x.num), .int x.den] = enc (-x) := by
  unfold enc
  rw [Rat.neg_num, Rat.neg_den]
theorem enc_inj {x y : Rat} (h : enc x = enc y) : x = y := by
  unfold enc at h
  simp only [V.tup.injEq, List.cons.injEq, V.int.injEq, and_true] at h
  exact Rat.ext h.1 (by omega)
local macro_rules | `(tactic| mframe) => `(tactic| first
  | with_reducible exact ix_enc0 _ _
  | with_reducible exact ix_enc1 _ _)
/-! ### sizes of fractions -/
structure Ht (N D : Nat) (x : Rat) : Prop where
  num : x.num.natAbs ≤ N
  den : x.den ≤ D
theorem Ht.bd {N D : Nat} {x : Rat} (h : Ht N D x) (a : N < 2 ^ 400 := by decide) (b : D < 2 ^ 400 := by decide) : Bd x :=
  ⟨Nat.lt_of_le_of_lt h.num a, by rw [Int.natAbs_natCast]; exact Nat.lt_of_le_of_lt h.den b⟩
theorem Ht.fits {N D : Nat} {x : Rat} (h : Ht N D x) (a : N < 10 ^ 40 := by decide) (b : D < 10 ^ 40 := by decide) : fits x = true := fits_of (Nat.lt_of_le_of_lt h.num a) (Nat.lt_of_le_of_lt h.den b)
theorem ht_divInt {a b : Int} {N D : Nat} (h0 : b ≠ 0) (ha : a.natAbs ≤ N) (hb : b.natAbs ≤ D) : Ht N D (Rat.divInt a b) := by
  have h := divInt_le (a := a) h0
  exact ⟨Nat.le_trans h.1 ha, Nat.le_trans h.2 hb⟩
theorem Ht.mul {N D M E : Nat} {x y : Rat} (hx : Ht N D x) (hy : Ht M E y) : Ht (N * M) (D * E) (x * y) := by
  rw [← mul_eq]
  refine ht_divInt (mul_den x y) ?_ ?_
  · rw [Int.natAbs_mul]; exact Nat.mul_le_mul hx.num hy.num
  · rw [Int.natAbs_mul, Int.natAbs_natCast, Int.natAbs_natCast]; exact Nat.mul_le_mul hx.den hy.den
theorem Ht.add {N D M E : Nat} {x y : Rat} (hx : Ht N D x) (hy : Ht M E y) : Ht (N * E + M * D) (D * E) (x + y) := by
  rw [← add_eq]
  refine ht_divInt (mul_den x y) ?_ ?_
  · refine Nat.le_trans (Int.natAbs_add_le _ _) ?_
    rw [Int.natAbs_mul, Int.natAbs_mul, Int.natAbs_natCast, Int.natAbs_natCast]
    exact Nat.add_le_add (Nat.mul_le_mul hx.num hy.den) (Nat.mul_le_mul hy.num hx.den)
  · rw [Int.natAbs_mul, Int.natAbs_natCast, Int.natAbs_natCast]; exact Nat.mul_le_mul hx.den hy.den
theorem Ht.neg {N D : Nat} {x : Rat} (hx : Ht N D x) : Ht N D (-x) := ⟨by rw [Rat.neg_num, Int.natAbs_neg]; exact hx.num, by rw [Rat.neg_den]; exact hx.den⟩
theorem Ht.sub {N D M E : Nat} {x y : Rat} (hx : Ht N D x) (hy : Ht M E y) : Ht (N * E + M * D) (D * E) (x - y) := by
  rw [Rat.sub_eq_add_neg]
  exact hx.add hy.neg
theorem Ht.div {N D M E : Nat} {x y : Rat} (hx : Ht N D x) (hy : Ht M E y) (h0 : y ≠ 0) : Ht (N * E) (D * M) (x / y) := by
  rw [← div_eq x y h0]
  refine ht_divInt (Int.mul_ne_zero (den_ne x) (num_ne h0)) ?_ ?_
  · rw [Int.natAbs_mul, Int.natAbs_natCast]; exact Nat.mul_le_mul hx.num hy.den
  · rw [Int.natAbs_mul, Int.natAbs_natCast]; exact Nat.mul_le_mul hx.den hy.num
theorem Ht.up {N D M E : Nat} {x : Rat} (hx : Ht N D x) (a : N ≤ M) (b : D ≤ E) : Ht M E x := ⟨Nat.le_trans hx.num a, Nat.le_trans hx.den b⟩
theorem ht_zero : Ht 0 1 0 := ⟨by decide, by decide⟩
theorem ht_one : Ht 1 1 1 := ⟨by decide, by decide⟩
theorem encO_fits {x : Rat} (h : fits x = true) : encO x = enc x := by unfold encO; rw [h, if_pos rfl]
theorem enc_zero : enc 0 = .tup [.int 0, .int 1] := rfl
theorem enc_one : enc 1 = .tup [.int 1, .int 1] := rfl
theorem enc_neg_one : enc (-1) = .tup [.int (-1), .int 1] := rfl

end MP
end

section
set_option Elab.async false
set_option linter.all false
set_option maxRecDepth 10000
set_option maxHeartbeats 1000000
namespace MP
/- the tactics of these texts: mleft reckons an expression, mframe one operator, mright a side condition, mexfalso a call -/
local macro_rules | `(tactic| massumption) => `(tactic| first
  | with_reducible assumption
  | exact bz_60 (by omega)
  | (with_reducible apply bz_abs
     massumption)
  | (with_reducible apply bz_neg
     massumption)
  | ((with_reducible apply bz_mul) <;> massumption)
  | ((with_reducible apply bz_add) <;> massumption)
  | ((with_reducible apply bz_sub) <;> massumption))
local macro_rules | `(tactic| mright) => `(tactic| first
  | with_reducible assumption
  | exact rfl
  | exact Ext.refl _
  | (apply Ext.app
     mright)
  | (apply bz_small
     · massumption
     · decide)
  | omega
  | (rw [LINE_eq]; omega)
  | exact listAt_new
  | (simp only [List.length_append, List.length_cons, List.length_nil, List.length_map, List.length_range, LINE_eq]; omega)
  | (apply listAt_app
     mright)
  | (apply lo_clo
     mright)
  | (apply pls_map
     intro _ _
     exact rfl))
local macro_rules | `(tactic| mframe) => `(tactic| first
  | ((with_reducible apply c_ne_self); mright)
  | ((with_reducible apply c_eq_self); mright)
  | with_reducible exact add_int _ _ _
  | with_reducible exact sub_int _ _ _
  | ((with_reducible apply mul_int) <;> mright)
  | ((with_reducible apply fdiv_int) <;> mright)
  | ((with_reducible apply mod_int) <;> mright)
  | ((with_reducible apply add_str) <;> mright)
  | with_reducible exact lt_int _ _ _
  | with_reducible exact le_int _ _ _
  | with_reducible exact gt_int _ _ _
  | with_reducible exact ge_int _ _ _
  | with_reducible exact eq_int _ _ _
  | with_reducible exact ne_int _ _ _
  | with_reducible exact eq_str _ _ _
  | with_reducible exact ne_str _ _ _
  | with_reducible exact is_non _ _
  | with_reducible exact isnot_non _ _
  | with_reducible exact is_bl _ _ _
  | with_reducible exact isnot_bl _ _ _
  | with_reducible exact ix_0 _ _ _
  | with_reducible exact ix_1 _ _ _ _
  | with_reducible exact ix_2 _ _ _ _ _
  | with_reducible exact ix_3 _ _ _ _ _ _
  | with_reducible exact bi_len_tup _ _
  | ((with_reducible apply bi_len_s); mright)
  | ((with_reducible apply bi_len_ref); mright)
  | with_reducible exact bi_abs _ _
  | with_reducible exact bi_tuple_tup
  | ((with_reducible apply bi_tuple_ref); mright)
  | with_reducible exact bi_list_tup
  | ((with_reducible apply bi_list_ref); mright)
  | with_reducible exact bi_int_bl
  | with_reducible exact bi_int_int
  | with_reducible exact bi_isint_non _
  | with_reducible exact bi_isint_bl _ _
  | with_reducible exact bi_isint_int _ _
  | with_reducible exact bi_isint_str _ _
  | with_reducible exact bi_isint_tup _ _
  | with_reducible exact bi_isbool_non _
  | with_reducible exact bi_isbool_bl _ _
  | with_reducible exact bi_isbool_int _ _
  | with_reducible exact bi_isbool_str _ _
  | with_reducible exact bi_isbool_tup _ _
  | with_reducible exact bi_isstr_non _
  | with_reducible exact bi_isstr_bl _ _
  | with_reducible exact bi_isstr_int _ _
  | with_reducible exact bi_isstr_str _ _
  | with_reducible exact bi_isstr_tup _ _
  | with_reducible exact bi_istuple_non _
  | with_reducible exact bi_istuple_bl _ _
  | with_reducible exact bi_istuple_int _ _
  | with_reducible exact bi_istuple_str _ _
  | with_reducible exact bi_istuple_tup _ _
  | with_reducible exact bi_islist_non _
  | with_reducible exact bi_islist_bl _ _
  | with_reducible exact bi_islist_int _ _
  | with_reducible exact bi_islist_str _ _
  | with_reducible exact bi_islist_tup _ _
  | with_reducible exact bi_isdict_non _
  | with_reducible exact bi_isdict_bl _ _
  | with_reducible exact bi_isdict_int _ _
  | with_reducible exact bi_isdict_str _ _
  | with_reducible exact bi_isdict_tup _ _
  | (with_reducible apply bi_str_s
     · massumption
     · decide)
  | ((with_reducible apply bi_all_map); mright)
  | ((with_reducible apply bi_any_map); mright)
  | with_reducible exact in_str _ _ _
  | ((with_reducible apply c_eq_nil) <;> mright)
  | ((with_reducible apply c_ne_nil) <;> mright)
  | ((with_reducible apply count_s); mright)
  | ((with_reducible apply index_s) <;> mright)
  | ((with_reducible apply mul_s) <;> mright)
  | with_reducible exact notin_str _ _ _
  | with_reducible exact bi_max _ _ _
  | with_reducible exact bi_min _ _ _)
local macro_rules | `(tactic| mframe) => `(tactic| first
  | with_reducible exact ix_enc0 _ _
  | with_reducible exact ix_enc1 _ _
  | with_reducible exact ix_encM0 _ _
  | with_reducible exact ix_encM1 _ _
  | with_reducible exact ix_encM2 _ _
  | with_reducible exact ix_encM3 _ _
  | with_reducible exact slc_t4 _ _ _ _ _ _ _
  | with_reducible exact add_t42 _ _ _ _ _ _ _
  | with_reducible exact add_t22 _ _ _ _ _
  | with_reducible exact ne_bl _ _ _
  | with_reducible exact pow18 _
  | ((with_reducible apply bi_int_s) <;> mright)
  | ((with_reducible apply slc_to1); mright)
  | ((with_reducible apply slc_from1); mright)
  | ((with_reducible apply bi_tuple_ref); mright)
  | (with_reducible apply ix_lst
     · mright
     · decide
     · exact rfl))
local macro_rules | `(tactic| mconstructor) => `(tactic| first
  | (apply bind_pos <;> exact rfl)
  | (apply bind_kw1 <;> exact rfl)
  | (apply bind_dfl <;> exact rfl))
local macro_rules | `(tactic| mexfalso) => `(tactic| with_reducible assumption)
local macro_rules | `(tactic| mpure_intro) => `(tactic| first
  | with_reducible exact src_str _ _
  | (with_reducible apply src_range1
     omega)
  | with_reducible exact src_tup _ _)
local macro_rules | `(tactic| mleft) => `(tactic| first
  | with_reducible assumption
  | with_reducible exact e_lit
  | ((with_reducible apply e_var); exact rfl)
  | (with_reducible apply e_glob
     first | with_reducible assumption | exact g1 | exact rfl)
  | with_reducible exact e_nil
  | (with_reducible apply e_cons
     · mleft
     · mleft)
  | ((with_reducible apply e_tup); mleft)
  | ((with_reducible apply e_lst); mleft)
  | (with_reducible apply e_bin
     · mleft
     · mleft
     · mframe)
  | ((with_reducible apply e_neg); mleft)
  | ((with_reducible apply e_not); mleft)
  | (with_reducible apply e_cmp
     · mleft
     · mleft
     · mframe
     · mright)
  | (with_reducible apply e_andK
     · mleft
     · first
       | exact andk_f
       | (apply andk_t; mleft)
       | (apply andk_g; intro _; mleft))
  | (with_reducible apply e_orK
     · mleft
     · first
       | exact ork_t
       | (apply ork_f; mleft)
       | (apply ork_g; intro _; mleft))
  | (with_reducible apply e_iteK
     · mleft
     · first
       | (apply itek_t; mleft)
       | (apply itek_f; mleft)
       | (apply itek_g
          · intro _
            mleft
          · intro _
            mleft))
  | (with_reducible apply e_idx
     · mleft
     · mleft
     · mframe
     · first
       | exact gc_same _ _
       | (apply gc_lo <;> mright))
  | (with_reducible apply e_callD
     · mleft
     · mleft
     · exact rfl
     · mconstructor
     · mexfalso
     · first
       | exact gc_same _ _
       | (apply gc_lo <;> mright)
       | exact gc_new _ _)
  | (with_reducible apply e_callb
     · mleft
     · mframe
     · first
       | exact gc_same _ _
       | (apply gc_lo <;> mright)
       | exact gc_new _ _)
  | (with_reducible apply e_chain
     · mleft
     · mleft
     · mframe
     · intro _
       mleft
     · intro _
       mframe)
  | (with_reducible apply e_mapf
     · mleft
     · mpure_intro
     · exact rfl
     · mright
     · intro _ _ _
       mleft)
  | (with_reducible apply e_compf
     · mleft
     · mpure_intro
     · exact rfl
     · mright
     · intro _ _ _
       mleft
     · intro _ _ _ _
       mleft)
  | (with_reducible apply e_slc
     · mleft
     · mleft
     · exact rfl
     · mleft
     · exact rfl
     · mframe)
  | (with_reducible apply e_bmeth
     · mleft
     · exact rfl
     · mleft
     · mframe
     · first
       | exact gc_same _ _
       | (apply gc_lo <;> mright)
       | exact gc_new _ _)
  | (with_reducible apply e_xis
     · exact rfl
     · exact rfl
     · exact rfl))
/- mpure: a call that raises -/
local macro_rules | `(tactic| mstart) => `(tactic| (
  apply e_callDx
  · mleft
  · mleft
  · exact rfl
  · mconstructor
  · mexfalso))
/- mleave: to a value that is told -/
local macro_rules | `(tactic| mleave) => `(tactic| (
  apply ev_to
  · mleft
  · first | exact rfl | (congr 2; done) | simp))
local macro_rules | `(tactic| mframe) => `(tactic| first
  | with_reducible exact slc_tfrom _ _
  | with_reducible exact slc_tto _ _
  | with_reducible exact lzip_tup _ _
  | with_reducible exact ix_pt0 _ _
  | with_reducible exact ix_pt1 _ _
  | with_reducible exact ix_rp0 _ _ _
  | with_reducible exact ix_rp1 _ _ _
  | with_reducible exact ix_rpp0 _ _
  | with_reducible exact ix_rpp1 _ _
  | with_reducible exact ix_rp20 _ _
  | with_reducible exact ix_rp21 _ _
  | fail)
/- one more row of these: an environment written out, an assignment, a choice that is not taken -/
local macro_rules | `(tactic| array_get_dec) => `(tactic| first
  | with_reducible exact set_0
  | (with_reducible apply set_s
     array_get_dec)
  | with_reducible exact wipe_nil
  | (with_reducible apply wipe_cons
     focus array_get_dec
     focus array_get_dec))
local macro_rules | `(tactic| mstop) => `(tactic| first
  | (apply s_asgS
     focus mleft
     focus array_get_dec)
  | (apply s_asgS2
     focus mleft
     focus array_get_dec
     focus array_get_dec)
  | (apply s_asgS3
     focus mleft
     focus array_get_dec
     focus array_get_dec
     focus array_get_dec))
local macro_rules | `(tactic| exists $t) => `(tactic| (
  apply s_noV
  focus mleft
  focus exact $t))
/-! ### drawn numbers -/
theorem ix_ints {h : Heap} {a : Nat} {is : List Int} {i : Int} (ha : listAt h a = some (is.map V.int)) (h0 : 0 ≤ i) (h1 : i < is.length) : idxV h (.ref a) (.int i) = some (.int (is.getD i.toNat 0)) := by
  have hk : i.toNat < is.length := by omega
  refine ix_lst ha h0 ?_
  rw [List.getElem?_map, List.getElem?_eq_getElem hk]
  simp [List.getD, List.getElem?_eq_getElem hk]
theorem pick_in {is : List Int} {i : Int} (h0 : 0 ≤ i) (h1 : i < is.length) : is.getD i.toNat 0 ∈ is := by
  have hk : i.toNat < is.length := by omega
  simp [List.getD, List.getElem?_eq_getElem hk]
def numB (ns : List Int) (k : Int) : Int := [1, 1, 1, 2, 3, 4, 6].getD (drawn ns k 7).toNat 0
def numM (ns : List Int) (k : Int) : Int := [9, 9, 41, 200].getD (drawn ns (k + 2) 4).toNat 0
def numD (ns : List Int) (k : Int) : Rat := Rat.divInt (drawn ns (k + 1) (numM ns k) - 4) (numB ns k)
theorem numB_rng (ns : List Int) (k : Int) : 1 ≤ numB ns k ∧ numB ns k ≤ 6 := by
  obtain ⟨h1, h2⟩ := drawn_rng ns k 7 (by decide)
  have := pick_in (is := [1, 1, 1, 2, 3, 4, 6]) h1 h2
  unfold numB
  revert this
  generalize [1, 1, 1, 2, 3, 4, 6].getD (drawn ns k 7).toNat (0 : Int) = z
  intro this
  simp at this
  omega
theorem numM_rng (ns : List Int) (k : Int) : 9 ≤ numM ns k ∧ numM ns k ≤ 200 := by
  obtain ⟨h1, h2⟩ := drawn_rng ns (k + 2) 4 (by decide)
  have := pick_in (is := [9, 9, 41, 200]) h1 h2
  unfold numM
  revert this
  generalize [9, 9, 41, 200].getD (drawn ns (k + 2) 4).toNat (0 : Int) = z
  intro this
  simp at this
  omega
theorem numD_ht (ns : List Int) (k : Int) : Ht 200 6 (numD ns k) := by
  have hb := numB_rng ns k
  have hm := numM_rng ns k
  have hd := drawn_rng ns (k + 1) (numM ns k) (by omega)
  exact ht_divInt (by omega) (by omega) (by omega)
local macro_rules | `(tactic| mexfalso) => `(tactic| first
  | with_reducible assumption
  | (with_reducible apply draw
     · first | assumption | (apply Scr.app; assumption)
     · omega
     · omega
     · omega))
local macro_rules | `(tactic| mframe) => `(tactic| first
  | with_reducible exact ix_enc0 _ _
  | with_reducible exact ix_enc1 _ _
  | (with_reducible apply ix_lst
     · mright
     · decide
     · exact rfl))
theorem c26 (d : Nat) (ns : List Int) (k : Int) (h : Heap) (sc : Scr ns h) (hk : 0 ≤ k) (hk2 : k < 2 ^ 30) : callD prog (d + 3) 26 [.ref 0, .int k] h = .ok (enc (numD ns k)) h := by
  obtain ⟨p1, p2⟩ := drawn_rng ns k 7 (by decide)
  obtain ⟨q1, q2⟩ := drawn_rng ns (k + 2) 4 (by decide)
  have hb := numB_rng ns k
  have hm := numM_rng ns k
  have hd := drawn_rng ns (k + 1) (numM ns k) (by omega)
  refine f_ret (F := D26) rfl rfl ?_
  refine s_asg (v := .int (numB ns k)) (h1 := h) ?_ ?_
  · apply e_idx
    · mleft
    · mleft
    · exact ix_ints (is := [1, 1, 1, 2, 3, 4, 6]) listAt_new p1 p2
    · apply gc_lo <;> mright
  have eM : ∀ env : Env, env[0]? = some (some (.ref 0)) → env[1]? = some (some (.int k)) → evE (Cd (d + 2)) (.idx (.lst [.lit (.int 9), .lit (.int 9), .lit (.int 41), .lit (.int 200)]) (.callf 11 [.var 0, .bin .add (.var 1) (.lit (.int 2)), .lit (.int 4)] [] [])) env h = .ok (.int (numM ns k)) h := by
    intro env e0 e1
    have v0 : (env[0]?).join = some (.ref 0) := by rw [e0]; rfl
    have v1 : (env[1]?).join = some (.int k) := by rw [e1]; rfl
    have q0 : ∀ H, evE (Cd (d + 2)) (.var 0) env H = .ok (.ref 0) H := fun H => e_var v0
    have q1' : ∀ H, evE (Cd (d + 2)) (.var 1) env H = .ok (.int k) H := fun H => e_var v1
    have x0 := q0 (h ++ [.lst [.int 9, .int 9, .int 41, .int 200]])
    have x1 := q1' (h ++ [.lst [.int 9, .int 9, .int 41, .int 200]])
    apply e_idx
    · mleft
    · mleft
    · exact ix_ints (is := [9, 9, 41, 200]) listAt_new q1 q2
    · apply gc_lo <;> mright
  have e13 := c13 d (n := 60) (by decide) (drawn ns (k + 1) (numM ns k) - 4) (numB ns k) h (by omega) (by omega)
  have eM1 := eM ((startE D26 [.ref 0, .int k]).set 2 (some (.int (numB ns k)))) rfl rfl
  apply s_ret
  mleft
/-! ### matrices -/
structure Mx where
  a : Rat
  b : Rat
  c : Rat
  d : Rat
  e : Rat
  f : Rat
def encM (m : Mx) : V := .tup [enc m.a, enc m.b, enc m.c, enc m.d, enc m.e, enc m.f]
structure Mx.ok (m : Mx) : Prop where
  a : fits m.a = true
  b : fits m.b = true
  c : fits m.c = true
  d : fits m.d = true
  e : fits m.e = true
  f : fits m.f = true
theorem fits_bd {x : Rat} (h : fits x = true) : Bd x := by
  obtain ⟨h1, h2⟩ := fits_iff h
  exact ⟨Nat.lt_of_lt_of_le h1 (by decide), by rw [Int.natAbs_natCast]; exact Nat.lt_of_lt_of_le h2 (by decide)⟩
theorem c3f (d : Nat) (r : Rat) (h : Heap) (hf : fits r = true) : callD prog (d + 2) 3 [enc r] h = .ok (.bl true) h := by
  have := c3e d r h (n := 200) (by decide) (Nat.lt_of_lt_of_le (fits_iff hf).2 (by decide))
  rw [hf] at this
  exact this
/-- all of some are numbers -/
theorem nums_run (d : Nat) (ys : List V) (hy : ∀ y ∈ ys, ∃ r, fits r = true ∧ y = enc r) (hl : ys.length ≤ 1000) (env : Env) (h h1 : Heap) (ss : List Ex) (vs : List V) (st : List (Nat × Obj)) (i : Nat) (own : List Nat) (hi : ∀ v, (((wipeE env own).set i (some v))[i]?).join = some v) (q1 : evEs (Cd (d + 2)) ss env h = .ok vs h1) (q2 : srcOf .val vs h1 = some (ys, st)) (q3 : stays h1 st = true) :
    evE (Cd (d + 2)) (.comp (.callf 3 [.var i] [] []) (.nm i) .val ss [] own) env h = .ok (.ref h1.length) (h1 ++ [.lst (ys.map fun _ => V.bl true)]) := by
  refine e_mapf (f := fun y : V => y) (g := fun _ => V.bl true) q1 (by rw [q2]; simp) q3 (by rw [LINE_eq]; omega) fun y hm l => ?_
  obtain ⟨r, hf, rfl⟩ := hy y hm
  have e3 := c3f d r (h1 ++ [.lst l]) hf
  have ev := e_var (C := Cd (d + 2)) (h := h1 ++ [.lst l]) (hi (enc r))
  mleft
theorem all_true {α : Type} (ys : List α) : (ys.all fun _ => true) = true := by simp
theorem src_lst {h : Heap} {a : Nat} {xs : List V} (e : h[a]? = some (.lst xs)) : srcOf .val [.ref a] h = some (xs, [(a, .lst xs)]) := by
  simp [srcOf, walkOf, e]
theorem stays_one {h : Heap} {a : Nat} {o : Obj} (e : h[a]? = some o) : stays h [(a, o)] = true := by
  simp [stays, e]
theorem src_tup0 (xs : List V) (h : Heap) : srcOf .val [.tup xs] h = some (xs, []) := rfl
theorem new_at (h : Heap) (o : Obj) : (h ++ [o])[h.length]? = some o := by simp
theorem s_asg6 {C : Ctx} {env : Env} {h h1 : Heap} {e : Ex} {r : List St} {R : Fl} {i1 i2 i3 i4 i5 i6 : Nat} {v1 v2 v3 v4 v5 v6 : V} (he : evE C e env h = .ok (.tup [v1, v2, v3, v4, v5, v6]) h1)
    (hr : evSs C r ((((((env.set i1 (some v1)).set i2 (some v2)).set i3 (some v3)).set i4 (some v4)).set i5 (some v5)).set i6 (some v6)) h1 = R) : evSs C (.asg (.nm (.tp [.nm i1, .nm i2, .nm i3, .nm i4, .nm i5, .nm i6])) e :: r) env h = R := by
  rw [r_scons, r_asg, he, fl_ok]
  simp only [asgT, bindT, bindTs]
  exact hr
def mvx (m : Mx) (x y : Rat) : Rat := m.e + m.a * x + m.c * y
def mvy (m : Mx) (x y : Rat) : Rat := m.f + m.b * x + m.d * y
structure MvOk (m : Mx) (x y : Rat) : Prop where
  ka : Bd m.a
  kb : Bd m.b
  kc : Bd m.c
  kd : Bd m.d
  kx : Bd x
  ky : Bd y
  ke : fits m.e = true
  kf : fits m.f = true
  kax : fits (m.a * x) = true
  keax : fits (m.e + m.a * x) = true
  kcy : fits (m.c * y) = true
  kr1 : fits (mvx m x y) = true
  kbx : fits (m.b * x) = true
  kfbx : fits (m.f + m.b * x) = true
  kdy : fits (m.d * y) = true
  kr2 : fits (mvy m x y) = true
theorem slc_t4 (h : Heap) (a b c d e f : V) : slcV h (.tup [a, b, c, d, e, f]) .non (.int 4) = .ok (.tup [a, b, c, d]) h := rfl
theorem add_t42 (h : Heap) (a b c d e f : V) : binV .add (.tup [a, b, c, d]) (.tup [e, f]) h = .ok (.tup [a, b, c, d, e, f]) h := by simp [binV, LINE_eq]
theorem add_t22 (h : Heap) (a b c d : V) : binV .add (.tup [a, b]) (.tup [c, d]) h = .ok (.tup [a, b, c, d]) h := by simp [binV, LINE_eq]
theorem in_non {h : Heap} {a : Nat} {xs : List V} (ha : listAt h a = some xs) (hx : V.pls xs 50 = true) (hn : ∀ x ∈ xs, x ≠ .non) : cmpV .in_ h .non (.ref a) = some false := by
  have key : inSeq h .non xs = some false := by
    unfold inSeq
    have e2 : ∀ ys : List V, V.pls ys 50 = true → (∀ x ∈ ys, x ≠ .non) → (V.toDs ys).any (fun z => z.eqv .non) = false := by
      intro ys
      induction ys with
      | nil => intro _ _; rfl
      | cons y ys ih =>
        intro h1 h2
        simp only [V.pls, Bool.and_eq_true] at h1
        simp only [V.toDs, List.any_cons]
        rw [ih h1.2 fun x hx => h2 x (List.mem_cons_of_mem _ hx), Bool.or_false]
        have := h2 y (by simp)
        cases y <;> simp [V.toD, Dt.eqv, V.pl] at this h1 ⊢
    split
    · congr 1
      rw [List.any_eq_false]
      intro x hx1
      have := hn x hx1
      cases x <;> simp [flatEq] at this ⊢
    · have e1 : deep h .non = some .non := by simp [deep, deepV]
      have e3 := deepVs_pl (rdD h 3) xs 50 hx
      have e4 := depths_pl xs 50 hx
      rw [e1, e3]
      simp only
      rw [if_pos ⟨by simp [Dt.depth], by omega⟩, e2 xs hx hn]
  unfold listAt at ha
  show inV h .non (.ref a) = some false
  simp only [inV]
  cases q : h[a]? with
  | none => rw [q] at ha; cases ha
  | some o => rw [q] at ha; cases o <;> simp at ha <;> subst ha <;> exact key
def zeroEF (m : Mx) : Mx := ⟨m.a, m.b, m.c, m.d, 0, 0⟩
local macro_rules | `(tactic| mframe) => `(tactic| first
  | with_reducible exact slc_t4 _ _ _ _ _ _ _
  | with_reducible exact add_t42 _ _ _ _ _ _ _
  | with_reducible exact add_t22 _ _ _ _ _)
def joinM (m n : Mx) : Mx := ⟨mvx (zeroEF n) m.a m.b, mvy (zeroEF n) m.a m.b, mvx (zeroEF n) m.c m.d, mvy (zeroEF n) m.c m.d, mvx n m.e m.f, mvy n m.e m.f⟩
structure JnOk (m n : Mx) : Prop where
  r1 : MvOk (zeroEF n) m.a m.b
  r2 : MvOk (zeroEF n) m.c m.d
  r3 : MvOk n m.e m.f
def spr (m : Mx) : Rat := m.a * m.d - m.b * m.c
def invP (m : Mx) : Mx := ⟨m.d / spr m, (0 - m.b) / spr m, (0 - m.c) / spr m, m.a / spr m, 0, 0⟩
def invM (m : Mx) : Mx := ⟨m.d / spr m, (0 - m.b) / spr m, (0 - m.c) / spr m, m.a / spr m, 0 - mvx (invP m) m.e m.f, 0 - mvy (invP m) m.e m.f⟩
theorem ix_encM0 (h : Heap) (m : Mx) : idxV h (encM m) (.int 0) = some (enc m.a) := ix_0 h _ _
theorem ix_encM1 (h : Heap) (m : Mx) : idxV h (encM m) (.int 1) = some (enc m.b) := ix_1 h _ _ _
theorem ix_encM2 (h : Heap) (m : Mx) : idxV h (encM m) (.int 2) = some (enc m.c) := ix_2 h _ _ _ _
theorem ix_encM3 (h : Heap) (m : Mx) : idxV h (encM m) (.int 3) = some (enc m.d) := ix_3 h _ _ _ _ _
local macro_rules | `(tactic| mframe) => `(tactic| first
  | with_reducible exact ix_encM0 _ _
  | with_reducible exact ix_encM1 _ _
  | with_reducible exact ix_encM2 _ _
  | with_reducible exact ix_encM3 _ _
  | ((with_reducible apply bi_tuple_ref); mright))
structure SpOk (m : Mx) : Prop where
  ka : Bd m.a
  kb : Bd m.b
  kc : Bd m.c
  kd : Bd m.d
  kad : fits (m.a * m.d) = true
  kbc : fits (m.b * m.c) = true
  ks : fits (spr m) = true
structure InOk (m : Mx) : Prop where
  sp : SpOk m
  s0 : spr m ≠ 0
  p0 : fits (m.d / spr m) = true
  nb : fits (0 - m.b) = true
  p1 : fits ((0 - m.b) / spr m) = true
  nc : fits (0 - m.c) = true
  p2 : fits ((0 - m.c) / spr m) = true
  p3 : fits (m.a / spr m) = true
  mv : MvOk (invP m) m.e m.f
  r1 : fits (0 - mvx (invP m) m.e m.f) = true
  r2 : fits (0 - mvy (invP m) m.e m.f) = true
theorem nums_gen (d : Nat) (ys : List (V × Bool)) (hy : ∀ p ∈ ys, ∀ H, callD prog (d + 2) 3 [p.1] H = .ok (.bl p.2) H) (hl : ys.length ≤ 1000) (env : Env) (h h1 : Heap) (ss : List Ex) (vs : List V) (st : List (Nat × Obj)) (i : Nat) (own : List Nat) (hi : ∀ v, (((wipeE env own).set i (some v))[i]?).join = some v) (q1 : evEs (Cd (d + 2)) ss env h = .ok vs h1) (q2 : srcOf .val vs h1 = some (ys.map fun p => p.1, st)) (q3 : stays h1 st = true) :
    evE (Cd (d + 2)) (.comp (.callf 3 [.var i] [] []) (.nm i) .val ss [] own) env h = .ok (.ref h1.length) (h1 ++ [.lst (ys.map fun p => V.bl p.2)]) := by
  refine e_mapf (f := fun p : V × Bool => p.1) (g := fun p => V.bl p.2) q1 q2 q3 (by rw [LINE_eq]; omega) fun y hm l => ?_
  have e3 := hy y hm (h1 ++ [.lst l])
  have ev := e_var (C := Cd (d + 2)) (h := h1 ++ [.lst l]) (hi y.1)
  mleft
def quart (k : Int) : Mx := match k % 4 with
  | 0 => ⟨1, 0, 0, 1, 0, 0⟩
  | 1 => ⟨0, 1, -1, 0, 0, 0⟩
  | 2 => ⟨-1, 0, 0, -1, 0, 0⟩
  | _ => ⟨0, -1, 1, 0, 0, 0⟩
end MP
end

section
set_option Elab.async false
set_option linter.all false
set_option maxRecDepth 10000
set_option maxHeartbeats 1000000
namespace MP
/- the tactics of these texts: mleft reckons an expression, mframe one operator, mright a side condition, mexfalso a call -/
local macro_rules | `(tactic| massumption) => `(tactic| first
  | with_reducible assumption
  | exact bz_60 (by omega)
  | (with_reducible apply bz_abs
     massumption)
  | (with_reducible apply bz_neg
     massumption)
  | ((with_reducible apply bz_mul) <;> massumption)
  | ((with_reducible apply bz_add) <;> massumption)
  | ((with_reducible apply bz_sub) <;> massumption))
local macro_rules | `(tactic| mright) => `(tactic| first
  | with_reducible assumption
  | exact rfl
  | exact Ext.refl _
  | (apply Ext.app
     mright)
  | (apply bz_small
     · massumption
     · decide)
  | omega
  | (rw [LINE_eq]; omega)
  | exact listAt_new
  | (simp only [List.length_append, List.length_cons, List.length_nil, List.length_map, List.length_range, LINE_eq]; omega)
  | (apply listAt_app
     mright)
  | (apply lo_clo
     mright)
  | (apply pls_map
     intro _ _
     exact rfl))
local macro_rules | `(tactic| mframe) => `(tactic| first
  | ((with_reducible apply c_ne_self); mright)
  | ((with_reducible apply c_eq_self); mright)
  | with_reducible exact add_int _ _ _
  | with_reducible exact sub_int _ _ _
  | ((with_reducible apply mul_int) <;> mright)
  | ((with_reducible apply fdiv_int) <;> mright)
  | ((with_reducible apply mod_int) <;> mright)
  | ((with_reducible apply add_str) <;> mright)
  | with_reducible exact lt_int _ _ _
  | with_reducible exact le_int _ _ _
  | with_reducible exact gt_int _ _ _
  | with_reducible exact ge_int _ _ _
  | with_reducible exact eq_int _ _ _
  | with_reducible exact ne_int _ _ _
  | with_reducible exact eq_str _ _ _
  | with_reducible exact ne_str _ _ _
  | with_reducible exact is_non _ _
  | with_reducible exact isnot_non _ _
  | with_reducible exact is_bl _ _ _
  | with_reducible exact isnot_bl _ _ _
  | with_reducible exact ix_0 _ _ _
  | with_reducible exact ix_1 _ _ _ _
  | with_reducible exact ix_2 _ _ _ _ _
  | with_reducible exact ix_3 _ _ _ _ _ _
  | with_reducible exact bi_len_tup _ _
  | ((with_reducible apply bi_len_s); mright)
  | ((with_reducible apply bi_len_ref); mright)
  | with_reducible exact bi_abs _ _
  | with_reducible exact bi_tuple_tup
  | ((with_reducible apply bi_tuple_ref); mright)
  | with_reducible exact bi_list_tup
  | ((with_reducible apply bi_list_ref); mright)
  | with_reducible exact bi_int_bl
  | with_reducible exact bi_int_int
  | with_reducible exact bi_isint_non _
  | with_reducible exact bi_isint_bl _ _
  | with_reducible exact bi_isint_int _ _
  | with_reducible exact bi_isint_str _ _
  | with_reducible exact bi_isint_tup _ _
  | with_reducible exact bi_isbool_non _
  | with_reducible exact bi_isbool_bl _ _
  | with_reducible exact bi_isbool_int _ _
  | with_reducible exact bi_isbool_str _ _
  | with_reducible exact bi_isbool_tup _ _
  | with_reducible exact bi_isstr_non _
  | with_reducible exact bi_isstr_bl _ _
  | with_reducible exact bi_isstr_int _ _
  | with_reducible exact bi_isstr_str _ _
  | with_reducible exact bi_isstr_tup _ _
  | with_reducible exact bi_istuple_non _
  | with_reducible exact bi_istuple_bl _ _
  | with_reducible exact bi_istuple_int _ _
  | with_reducible exact bi_istuple_str _ _
  | with_reducible exact bi_istuple_tup _ _
  | with_reducible exact bi_islist_non _
  | with_reducible exact bi_islist_bl _ _
  | with_reducible exact bi_islist_int _ _
  | with_reducible exact bi_islist_str _ _
  | with_reducible exact bi_islist_tup _ _
  | with_reducible exact bi_isdict_non _
  | with_reducible exact bi_isdict_bl _ _
  | with_reducible exact bi_isdict_int _ _
  | with_reducible exact bi_isdict_str _ _
  | with_reducible exact bi_isdict_tup _ _
  | (with_reducible apply bi_str_s
     · massumption
     · decide)
  | ((with_reducible apply bi_all_map); mright)
  | ((with_reducible apply bi_any_map); mright)
  | with_reducible exact in_str _ _ _
  | ((with_reducible apply c_eq_nil) <;> mright)
  | ((with_reducible apply c_ne_nil) <;> mright)
  | ((with_reducible apply count_s); mright)
  | ((with_reducible apply index_s) <;> mright)
  | ((with_reducible apply mul_s) <;> mright)
  | with_reducible exact notin_str _ _ _
  | with_reducible exact bi_max _ _ _
  | with_reducible exact bi_min _ _ _)
local macro_rules | `(tactic| mframe) => `(tactic| first
  | with_reducible exact ix_enc0 _ _
  | with_reducible exact ix_enc1 _ _
  | with_reducible exact ix_encM0 _ _
  | with_reducible exact ix_encM1 _ _
  | with_reducible exact ix_encM2 _ _
  | with_reducible exact ix_encM3 _ _
  | with_reducible exact slc_t4 _ _ _ _ _ _ _
  | with_reducible exact add_t42 _ _ _ _ _ _ _
  | with_reducible exact add_t22 _ _ _ _ _
  | with_reducible exact ne_bl _ _ _
  | with_reducible exact pow18 _
  | ((with_reducible apply bi_int_s) <;> mright)
  | ((with_reducible apply slc_to1); mright)
  | ((with_reducible apply slc_from1); mright)
  | ((with_reducible apply bi_tuple_ref); mright)
  | (with_reducible apply ix_lst
     · mright
     · decide
     · exact rfl))
local macro_rules | `(tactic| mconstructor) => `(tactic| first
  | (apply bind_pos <;> exact rfl)
  | (apply bind_kw1 <;> exact rfl)
  | (apply bind_dfl <;> exact rfl))
local macro_rules | `(tactic| mexfalso) => `(tactic| with_reducible assumption)
local macro_rules | `(tactic| mpure_intro) => `(tactic| first
  | with_reducible exact src_str _ _
  | (with_reducible apply src_range1
     omega)
  | with_reducible exact src_tup _ _)
local macro_rules | `(tactic| mleft) => `(tactic| first
  | with_reducible assumption
  | with_reducible exact e_lit
  | ((with_reducible apply e_var); exact rfl)
  | (with_reducible apply e_glob
     first | with_reducible assumption | exact g1 | exact rfl)
  | with_reducible exact e_nil
  | (with_reducible apply e_cons
     · mleft
     · mleft)
  | ((with_reducible apply e_tup); mleft)
  | ((with_reducible apply e_lst); mleft)
  | (with_reducible apply e_bin
     · mleft
     · mleft
     · mframe)
  | ((with_reducible apply e_neg); mleft)
  | ((with_reducible apply e_not); mleft)
  | (with_reducible apply e_cmp
     · mleft
     · mleft
     · mframe
     · mright)
  | (with_reducible apply e_andK
     · mleft
     · first
       | exact andk_f
       | (apply andk_t; mleft)
       | (apply andk_g; intro _; mleft))
  | (with_reducible apply e_orK
     · mleft
     · first
       | exact ork_t
       | (apply ork_f; mleft)
       | (apply ork_g; intro _; mleft))
  | (with_reducible apply e_iteK
     · mleft
     · first
       | (apply itek_t; mleft)
       | (apply itek_f; mleft)
       | (apply itek_g
          · intro _
            mleft
          · intro _
            mleft))
  | (with_reducible apply e_idx
     · mleft
     · mleft
     · mframe
     · first
       | exact gc_same _ _
       | (apply gc_lo <;> mright))
  | (with_reducible apply e_callD
     · mleft
     · mleft
     · exact rfl
     · mconstructor
     · mexfalso
     · first
       | exact gc_same _ _
       | (apply gc_lo <;> mright)
       | exact gc_new _ _)
  | (with_reducible apply e_callb
     · mleft
     · mframe
     · first
       | exact gc_same _ _
       | (apply gc_lo <;> mright)
       | exact gc_new _ _)
  | (with_reducible apply e_chain
     · mleft
     · mleft
     · mframe
     · intro _
       mleft
     · intro _
       mframe)
  | (with_reducible apply e_mapf
     · mleft
     · mpure_intro
     · exact rfl
     · mright
     · intro _ _ _
       mleft)
  | (with_reducible apply e_compf
     · mleft
     · mpure_intro
     · exact rfl
     · mright
     · intro _ _ _
       mleft
     · intro _ _ _ _
       mleft)
  | (with_reducible apply e_slc
     · mleft
     · mleft
     · exact rfl
     · mleft
     · exact rfl
     · mframe)
  | (with_reducible apply e_bmeth
     · mleft
     · exact rfl
     · mleft
     · mframe
     · first
       | exact gc_same _ _
       | (apply gc_lo <;> mright)
       | exact gc_new _ _)
  | (with_reducible apply e_xis
     · exact rfl
     · exact rfl
     · exact rfl))
/- mpure: a call that raises -/
local macro_rules | `(tactic| mstart) => `(tactic| (
  apply e_callDx
  · mleft
  · mleft
  · exact rfl
  · mconstructor
  · mexfalso))
/- mleave: to a value that is told -/
local macro_rules | `(tactic| mleave) => `(tactic| (
  apply ev_to
  · mleft
  · first | exact rfl | (congr 2; done) | simp))
local macro_rules | `(tactic| mframe) => `(tactic| first
  | with_reducible exact slc_tfrom _ _
  | with_reducible exact slc_tto _ _
  | with_reducible exact lzip_tup _ _
  | with_reducible exact ix_pt0 _ _
  | with_reducible exact ix_pt1 _ _
  | with_reducible exact ix_rp0 _ _ _
  | with_reducible exact ix_rp1 _ _ _
  | with_reducible exact ix_rpp0 _ _
  | with_reducible exact ix_rpp1 _ _
  | with_reducible exact ix_rp20 _ _
  | with_reducible exact ix_rp21 _ _
  | fail)
/- one more row of these: an environment written out, an assignment, a choice that is not taken -/
local macro_rules | `(tactic| array_get_dec) => `(tactic| first
  | with_reducible exact set_0
  | (with_reducible apply set_s
     array_get_dec)
  | with_reducible exact wipe_nil
  | (with_reducible apply wipe_cons
     focus array_get_dec
     focus array_get_dec))
local macro_rules | `(tactic| mstop) => `(tactic| first
  | (apply s_asgS
     focus mleft
     focus array_get_dec)
  | (apply s_asgS2
     focus mleft
     focus array_get_dec
     focus array_get_dec)
  | (apply s_asgS3
     focus mleft
     focus array_get_dec
     focus array_get_dec
     focus array_get_dec))
local macro_rules | `(tactic| exists $t) => `(tactic| (
  apply s_noV
  focus mleft
  focus exact $t))
local macro_rules | `(tactic| mexfalso) => `(tactic| first
  | with_reducible assumption
  | (with_reducible apply draw
     · first | assumption | (apply Scr.app; assumption)
     · omega
     · omega
     · omega))
local macro_rules | `(tactic| mframe) => `(tactic| with_reducible assumption)
/-! ### items of programs -/
abbrev kNUM : List Nat := [110, 117, 109, 98, 101, 114]
abbrev kDO : List Nat := [100, 111]
abbrev kNAME : List Nat := [110, 97, 109, 101]
abbrev kTEXT : List Nat := [116, 101, 120, 116]
abbrev kPROC : List Nat := [112, 114, 111, 99]
inductive It where
  | num (r : Rat) | dw (w : List Nat) | nm (w : List Nat) | tx (w : List Nat) | pr (xs : List It)
mutual
def It.enc : It → V
  | .num r => .tup [.str kNUM, MP.enc r]
  | .dw w => .tup [.str kDO, .str w]
  | .nm w => .tup [.str kNAME, .str w]
  | .tx w => .tup [.str kTEXT, .str w]
  | .pr xs => .tup [.str kPROC, .tup (It.encs xs)]
def It.encs : List It → List V
  | [] => []
  | x :: xs => x.enc :: It.encs xs
end
theorem encs_map : ∀ xs : List It, It.encs xs = xs.map It.enc
  | [] => rfl
  | x :: xs => by simp only [It.encs, List.map_cons, encs_map xs]
abbrev LET : List Nat := [97, 98, 99, 100, 101, 102, 103, 104, 105, 106, 107, 108, 109, 110, 111, 112, 113, 114, 115, 116, 117, 118, 119, 120, 121, 122]
abbrev W37 : List Nat := [97, 98, 99, 100, 101, 102, 103, 104, 105, 106, 107, 108, 109, 110, 111, 112, 113, 114, 115, 116, 117, 118, 119, 120, 121, 122, 48, 49, 50, 51, 52, 53, 54, 55, 56, 57, 45]
abbrev W39 : List Nat := [97, 98, 99, 100, 101, 102, 103, 104, 105, 106, 107, 108, 109, 110, 111, 112, 113, 114, 115, 116, 117, 118, 119, 120, 121, 122, 48, 49, 50, 51, 52, 53, 54, 55, 56, 57, 45, 58, 46]
/-- whether a word is a name -/
def nameB : List Nat → Bool
  | [] => false
  | c :: r => decide (r.length < 12) && (decide (c ∈ LET) && (c :: r).all fun x => decide (x ∈ W37))
theorem nameB_cons (c : Nat) (r : List Nat) : nameB (c :: r) = (decide (r.length < 12) && (decide (c ∈ LET) && (c :: r).all fun x => decide (x ∈ W37))) := rfl
def textB (w : List Nat) : Bool := !(w.any fun x => decide (x ∈ [40, 41, 10]))
mutual
def It.okB : It → Bool
  | .num r => fits r
  | .dw w => nameB w || decide (w = [91] ∨ w = [93])
  | .nm w => nameB w
  | .tx w => textB w
  | .pr xs => It.oksB xs
def It.oksB : List It → Bool
  | [] => true
  | x :: xs => x.okB && It.oksB xs
end
theorem oks_all : ∀ {xs : List It}, It.oksB xs = true → ∀ x ∈ xs, x.okB = true
  | [], _, x, h => by cases h
  | y :: ys, q, x, h => by
    simp only [It.oksB, Bool.and_eq_true] at q
    rcases List.mem_cons.mp h with rfl | h
    · exact q.1
    · exact oks_all q.2 x h
mutual
def It.txt : It → List Nat
  | .num r => MP.txt r
  | .dw w => w
  | .nm w => 47 :: w
  | .tx w => [40] ++ w ++ [41]
  | .pr xs => joinS [32] ([[123]] ++ It.txts xs ++ [[125]])
def It.txts : List It → List (List Nat)
  | [] => []
  | x :: xs => x.txt :: It.txts xs
end
theorem txts_map : ∀ xs : List It, It.txts xs = xs.map It.txt
  | [] => rfl
  | x :: xs => by simp only [It.txts, List.map_cons, txts_map xs]
mutual
def It.dep : It → Nat
  | .pr xs => It.deps xs + 1
  | _ => 0
def It.deps : List It → Nat
  | [] => 0
  | x :: xs => max x.dep (It.deps xs)
end
theorem deps_mem : ∀ {xs : List It} {n : Nat}, It.deps xs ≤ n → ∀ x ∈ xs, x.dep ≤ n
  | [], _, _, x, h => by cases h
  | y :: ys, n, q, x, h => by
    simp only [It.deps] at q
    rcases List.mem_cons.mp h with rfl | h
    · omega
    · exact deps_mem (n := n) (by omega) x h
mutual
def It.cnt : It → Int
  | .pr xs => 1 + It.cnts xs
  | _ => 1
def It.cnts : List It → Int
  | [] => 0
  | x :: xs => x.cnt + It.cnts xs
end
theorem cnts_sum : ∀ xs : List It, It.cnts xs = (xs.map It.cnt).sum
  | [] => rfl
  | x :: xs => by simp only [It.cnts, List.map_cons, List.sum_cons, cnts_sum xs]
theorem joinS_len (sep : List Nat) : ∀ ss : List (List Nat), ss ≠ [] → (joinS sep ss).length + sep.length = (ss.map (·.length)).sum + ss.length * sep.length
  | [], h => absurd rfl h
  | [s], _ => by simp [joinS]
  | s :: t :: r, _ => by
    have ih := joinS_len sep (t :: r) (by simp)
    rw [joinS]
    · simp only [List.length_append, List.map_cons, List.sum_cons, List.length_cons, Nat.succ_mul] at ih ⊢
      omega
    · simp
theorem le_sum_mem : ∀ {l : List Nat} {a : Nat}, a ∈ l → a ≤ l.sum
  | [], a, h => by cases h
  | b :: l, a, h => by
    rw [List.sum_cons]
    rcases List.mem_cons.mp h with rfl | h
    · omega
    · have := le_sum_mem h; omega
/-- of a row that is written -/
theorem row_len {xs : List It} {n : Nat} (h : (joinS [32] (xs.map It.txt)).length ≤ n) : (∀ x ∈ xs, x.txt.length ≤ n) ∧ xs.length ≤ n + 1 ∧ ((xs.map It.txt).map fun s : List Nat => s.length).sum + xs.length ≤ n + 1 := by
  by_cases hx : xs = []
  · subst hx; simp
  · have := joinS_len [32] (xs.map It.txt) (by simpa using hx)
    simp only [List.length_map, List.length_cons, List.length_nil, Nat.zero_add, Nat.mul_one] at this
    have e : ((xs.map It.txt).map fun s : List Nat => s.length).sum + xs.length ≤ n + 1 := by omega
    refine ⟨fun x hm => ?_, by omega, e⟩
    have : x.txt.length ≤ ((xs.map It.txt).map fun s : List Nat => s.length).sum := le_sum_mem (List.mem_map.mpr ⟨_, List.mem_map.mpr ⟨x, hm, rfl⟩, rfl⟩)
    have l1 : 1 ≤ xs.length := by cases xs with
      | nil => exact absurd rfl hx
      | cons _ _ => simp
    omega
theorem pr_len {xs : List It} {n : Nat} (h : (It.pr xs).txt.length ≤ n) : (∀ x ∈ xs, x.txt.length + 4 ≤ n) ∧ xs.length + 3 ≤ n ∧ (([[123]] ++ xs.map It.txt ++ [[125]]).map fun s : List Nat => s.length).sum + ([[123]] ++ xs.map It.txt ++ [[125]]).length ≤ n + 1 := by
  have := joinS_len [32] ([[123]] ++ xs.map It.txt ++ [[125]]) (by simp)
  simp only [It.txt, txts_map] at h
  have e2 : ([[123]] ++ xs.map It.txt ++ [[125]]).length = xs.length + 2 := by simp
  have e3 : (([[123]] ++ xs.map It.txt ++ [[125]]).map fun s : List Nat => s.length).sum = ((xs.map It.txt).map fun s : List Nat => s.length).sum + 2 := by simp; omega
  rw [e2, e3] at this
  rw [e2, e3]
  simp only [List.length_cons, List.length_nil, Nat.zero_add, Nat.mul_one] at this
  refine ⟨fun x hm => ?_, by omega, by omega⟩
  have : x.txt.length ≤ ((xs.map It.txt).map fun s : List Nat => s.length).sum := le_sum_mem (List.mem_map.mpr ⟨_, List.mem_map.mpr ⟨x, hm, rfl⟩, rfl⟩)
  have l1 : 1 ≤ xs.length := by cases xs with
    | nil => cases hm
    | cons _ _ => simp
  omega
theorem s_triV {C : Ctx} {b hb r : List St} {c : Nat} {i : Option Nat} {env : Env} {h h1 : Heap} {v : V} (q : evSs C b env h = .ret v h1) : evSs C (.tri b c i hb :: r) env h = .ret v h1 := by
  rw [r_scons]
  simp only [evS]
  rw [q]
  rfl
theorem slc_w37 (h : Heap) : slcV h (.str W39) .non (.int 37) = .ok (.str W37) h := slc_to h W39 37 (by rw [LINE_eq]; decide)
local macro_rules | `(tactic| mframe) => `(tactic| first
  | with_reducible exact slc_w37 _)
theorem ix_s0 (h : Heap) (c : Nat) (r : List Nat) (hl : (c :: r).length ≤ LINE) : idxV h (.str (c :: r)) (.int 0) = some (.str [c]) := by
  have e : atIdx (c :: r).length 0 = some 0 := by
    unfold atIdx
    rw [if_pos (by simp)]
    rfl
  simp only [idxV, hl, if_true, e]
  rfl
theorem c20 (d : Nat) (w : List Nat) (h : Heap) (hw : w.length ≤ LINE) : callD prog (d + 1) 20 [.str w] h = .ok (.bl (nameB w)) h := by
  have g4 : ∀ c : Ctx, c.P = prog → c.P.glb 4 = some (.str W39) := fun c e => by rw [e]; rfl
  have g3 : ∀ c : Ctx, c.P = prog → c.P.glb 3 = some (.str LET) := fun c e => by rw [e]; rfl
  refine f_ret (F := D20) rfl rfl ?_
  cases w with
  | nil =>
    refine s_yes_ret (h1 := h) ?_ (s_ret e_lit)
    mleave
  | cons c r =>
    have i0 := ix_s0 h c r hw
    have k3 := g3 (Cd d) rfl
    have k4 := g4 (Cd d) rfl
    have el : ((c :: r).length : Int) = (r.length : Int) + 1 := by simp
    by_cases h1 : r.length < 12
    · by_cases h2 : c ∈ LET
      · refine s_no (h1 := h) ?_ ?_
        · apply ev_to
          · mleft
          · rw [decide_eq_true h2, el, decide_eq_true (show (1 : Int) ≤ (r.length : Int) + 1 by omega), decide_eq_true (show (r.length : Int) + 1 ≤ 12 by omega)]
            rfl
        · apply s_ret
          apply ev_to
          · mleft
          · rw [nameB_cons]
            rw [decide_eq_true h1, decide_eq_true h2]
            rfl
      · refine s_yes_ret (h1 := h) ?_ (s_ret ?_)
        · apply ev_to
          · mleft
          · rw [decide_eq_false h2, el, decide_eq_true (show (1 : Int) ≤ (r.length : Int) + 1 by omega), decide_eq_true (show (r.length : Int) + 1 ≤ 12 by omega)]
            rfl
        · apply ev_to
          · exact e_lit
          · rw [nameB_cons]
            rw [decide_eq_false h2, Bool.false_and, Bool.and_false]
    · refine s_yes_ret (h1 := h) ?_ (s_ret ?_)
      · apply ev_to
        · mleft
        · rw [el, decide_eq_false (show ¬ (r.length : Int) + 1 ≤ 12 by omega), Bool.and_false]
          rfl
      · apply ev_to
        · exact e_lit
        · rw [nameB_cons]
          rw [decide_eq_false h1, Bool.false_and]
theorem c20n (d : Nat) (v : V) (h : Heap) (hv : biV .isstr [v] h = .ok (.bl false) h) : callD prog (d + 1) 20 [v] h = .ok (.bl false) h := by
  refine f_ret (F := D20) rfl rfl ?_
  refine s_yes_ret (h1 := h) ?_ (s_ret e_lit)
  mleave
theorem c21 (d : Nat) (w : List Nat) (h : Heap) (hw : w.length ≤ LINE) : callD prog (d + 1) 21 [.str w] h = .ok (.bl (textB w)) h := by
  refine f_ret (F := D21) rfl rfl ?_
  apply s_ret
  mleave

end MP
end

section
set_option Elab.async false
set_option linter.all false
set_option maxRecDepth 10000
set_option maxHeartbeats 1000000
namespace MP
/- the tactics of these texts: mleft reckons an expression, mframe one operator, mright a side condition, mexfalso a call -/
local macro_rules | `(tactic| massumption) => `(tactic| first
  | with_reducible assumption
  | exact bz_60 (by omega)
  | (with_reducible apply bz_abs
     massumption)
  | (with_reducible apply bz_neg
     massumption)
  | ((with_reducible apply bz_mul) <;> massumption)
  | ((with_reducible apply bz_add) <;> massumption)
  | ((with_reducible apply bz_sub) <;> massumption))
local macro_rules | `(tactic| mright) => `(tactic| first
  | with_reducible assumption
  | exact rfl
  | exact Ext.refl _
  | (apply Ext.app
     mright)
  | (apply bz_small
     · massumption
     · decide)
  | omega
  | (rw [LINE_eq]; omega)
  | exact listAt_new
  | (simp only [List.length_append, List.length_cons, List.length_nil, List.length_map, List.length_range, LINE_eq]; omega)
  | (apply listAt_app
     mright)
  | (apply lo_clo
     mright)
  | (apply pls_map
     intro _ _
     exact rfl))
local macro_rules | `(tactic| mframe) => `(tactic| first
  | ((with_reducible apply c_ne_self); mright)
  | ((with_reducible apply c_eq_self); mright)
  | with_reducible exact add_int _ _ _
  | with_reducible exact sub_int _ _ _
  | ((with_reducible apply mul_int) <;> mright)
  | ((with_reducible apply fdiv_int) <;> mright)
  | ((with_reducible apply mod_int) <;> mright)
  | ((with_reducible apply add_str) <;> mright)
  | with_reducible exact lt_int _ _ _
  | with_reducible exact le_int _ _ _
  | with_reducible exact gt_int _ _ _
  | with_reducible exact ge_int _ _ _
  | with_reducible exact eq_int _ _ _
  | with_reducible exact ne_int _ _ _
  | with_reducible exact eq_str _ _ _
  | with_reducible exact ne_str _ _ _
  | with_reducible exact is_non _ _
  | with_reducible exact isnot_non _ _
  | with_reducible exact is_bl _ _ _
  | with_reducible exact isnot_bl _ _ _
  | with_reducible exact ix_0 _ _ _
  | with_reducible exact ix_1 _ _ _ _
  | with_reducible exact ix_2 _ _ _ _ _
  | with_reducible exact ix_3 _ _ _ _ _ _
  | with_reducible exact bi_len_tup _ _
  | ((with_reducible apply bi_len_s); mright)
  | ((with_reducible apply bi_len_ref); mright)
  | with_reducible exact bi_abs _ _
  | with_reducible exact bi_tuple_tup
  | ((with_reducible apply bi_tuple_ref); mright)
  | with_reducible exact bi_list_tup
  | ((with_reducible apply bi_list_ref); mright)
  | with_reducible exact bi_int_bl
  | with_reducible exact bi_int_int
  | with_reducible exact bi_isint_non _
  | with_reducible exact bi_isint_bl _ _
  | with_reducible exact bi_isint_int _ _
  | with_reducible exact bi_isint_str _ _
  | with_reducible exact bi_isint_tup _ _
  | with_reducible exact bi_isbool_non _
  | with_reducible exact bi_isbool_bl _ _
  | with_reducible exact bi_isbool_int _ _
  | with_reducible exact bi_isbool_str _ _
  | with_reducible exact bi_isbool_tup _ _
  | with_reducible exact bi_isstr_non _
  | with_reducible exact bi_isstr_bl _ _
  | with_reducible exact bi_isstr_int _ _
  | with_reducible exact bi_isstr_str _ _
  | with_reducible exact bi_isstr_tup _ _
  | with_reducible exact bi_istuple_non _
  | with_reducible exact bi_istuple_bl _ _
  | with_reducible exact bi_istuple_int _ _
  | with_reducible exact bi_istuple_str _ _
  | with_reducible exact bi_istuple_tup _ _
  | with_reducible exact bi_islist_non _
  | with_reducible exact bi_islist_bl _ _
  | with_reducible exact bi_islist_int _ _
  | with_reducible exact bi_islist_str _ _
  | with_reducible exact bi_islist_tup _ _
  | with_reducible exact bi_isdict_non _
  | with_reducible exact bi_isdict_bl _ _
  | with_reducible exact bi_isdict_int _ _
  | with_reducible exact bi_isdict_str _ _
  | with_reducible exact bi_isdict_tup _ _
  | (with_reducible apply bi_str_s
     · massumption
     · decide)
  | ((with_reducible apply bi_all_map); mright)
  | ((with_reducible apply bi_any_map); mright)
  | with_reducible exact in_str _ _ _
  | ((with_reducible apply c_eq_nil) <;> mright)
  | ((with_reducible apply c_ne_nil) <;> mright)
  | ((with_reducible apply count_s); mright)
  | ((with_reducible apply index_s) <;> mright)
  | ((with_reducible apply mul_s) <;> mright)
  | with_reducible exact notin_str _ _ _
  | with_reducible exact bi_max _ _ _
  | with_reducible exact bi_min _ _ _)
local macro_rules | `(tactic| mframe) => `(tactic| first
  | with_reducible exact ix_enc0 _ _
  | with_reducible exact ix_enc1 _ _
  | with_reducible exact ix_encM0 _ _
  | with_reducible exact ix_encM1 _ _
  | with_reducible exact ix_encM2 _ _
  | with_reducible exact ix_encM3 _ _
  | with_reducible exact slc_t4 _ _ _ _ _ _ _
  | with_reducible exact add_t42 _ _ _ _ _ _ _
  | with_reducible exact add_t22 _ _ _ _ _
  | with_reducible exact ne_bl _ _ _
  | with_reducible exact pow18 _
  | ((with_reducible apply bi_int_s) <;> mright)
  | ((with_reducible apply slc_to1); mright)
  | ((with_reducible apply slc_from1); mright)
  | ((with_reducible apply bi_tuple_ref); mright)
  | (with_reducible apply ix_lst
     · mright
     · decide
     · exact rfl))
local macro_rules | `(tactic| mconstructor) => `(tactic| first
  | (apply bind_pos <;> exact rfl)
  | (apply bind_kw1 <;> exact rfl)
  | (apply bind_dfl <;> exact rfl))
local macro_rules | `(tactic| mexfalso) => `(tactic| with_reducible assumption)
local macro_rules | `(tactic| mpure_intro) => `(tactic| first
  | with_reducible exact src_str _ _
  | (with_reducible apply src_range1
     omega)
  | with_reducible exact src_tup _ _)
local macro_rules | `(tactic| mleft) => `(tactic| first
  | with_reducible assumption
  | with_reducible exact e_lit
  | ((with_reducible apply e_var); exact rfl)
  | (with_reducible apply e_glob
     first | with_reducible assumption | exact g1 | exact rfl)
  | with_reducible exact e_nil
  | (with_reducible apply e_cons
     · mleft
     · mleft)
  | ((with_reducible apply e_tup); mleft)
  | ((with_reducible apply e_lst); mleft)
  | (with_reducible apply e_bin
     · mleft
     · mleft
     · mframe)
  | ((with_reducible apply e_neg); mleft)
  | ((with_reducible apply e_not); mleft)
  | (with_reducible apply e_cmp
     · mleft
     · mleft
     · mframe
     · mright)
  | (with_reducible apply e_andK
     · mleft
     · first
       | exact andk_f
       | (apply andk_t; mleft)
       | (apply andk_g; intro _; mleft))
  | (with_reducible apply e_orK
     · mleft
     · first
       | exact ork_t
       | (apply ork_f; mleft)
       | (apply ork_g; intro _; mleft))
  | (with_reducible apply e_iteK
     · mleft
     · first
       | (apply itek_t; mleft)
       | (apply itek_f; mleft)
       | (apply itek_g
          · intro _
            mleft
          · intro _
            mleft))
  | (with_reducible apply e_idx
     · mleft
     · mleft
     · mframe
     · first
       | exact gc_same _ _
       | (apply gc_lo <;> mright))
  | (with_reducible apply e_callD
     · mleft
     · mleft
     · exact rfl
     · mconstructor
     · mexfalso
     · first
       | exact gc_same _ _
       | (apply gc_lo <;> mright)
       | exact gc_new _ _)
  | (with_reducible apply e_callb
     · mleft
     · mframe
     · first
       | exact gc_same _ _
       | (apply gc_lo <;> mright)
       | exact gc_new _ _)
  | (with_reducible apply e_chain
     · mleft
     · mleft
     · mframe
     · intro _
       mleft
     · intro _
       mframe)
  | (with_reducible apply e_mapf
     · mleft
     · mpure_intro
     · exact rfl
     · mright
     · intro _ _ _
       mleft)
  | (with_reducible apply e_compf
     · mleft
     · mpure_intro
     · exact rfl
     · mright
     · intro _ _ _
       mleft
     · intro _ _ _ _
       mleft)
  | (with_reducible apply e_slc
     · mleft
     · mleft
     · exact rfl
     · mleft
     · exact rfl
     · mframe)
  | (with_reducible apply e_bmeth
     · mleft
     · exact rfl
     · mleft
     · mframe
     · first
       | exact gc_same _ _
       | (apply gc_lo <;> mright)
       | exact gc_new _ _)
  | (with_reducible apply e_xis
     · exact rfl
     · exact rfl
     · exact rfl))
/- mpure: a call that raises -/
local macro_rules | `(tactic| mstart) => `(tactic| (
  apply e_callDx
  · mleft
  · mleft
  · exact rfl
  · mconstructor
  · mexfalso))
/- mleave: to a value that is told -/
local macro_rules | `(tactic| mleave) => `(tactic| (
  apply ev_to
  · mleft
  · first | exact rfl | (congr 2; done) | simp))
local macro_rules | `(tactic| mframe) => `(tactic| first
  | with_reducible exact slc_tfrom _ _
  | with_reducible exact slc_tto _ _
  | with_reducible exact lzip_tup _ _
  | with_reducible exact ix_pt0 _ _
  | with_reducible exact ix_pt1 _ _
  | with_reducible exact ix_rp0 _ _ _
  | with_reducible exact ix_rp1 _ _ _
  | with_reducible exact ix_rpp0 _ _
  | with_reducible exact ix_rpp1 _ _
  | with_reducible exact ix_rp20 _ _
  | with_reducible exact ix_rp21 _ _
  | fail)
/- one more row of these: an environment written out, an assignment, a choice that is not taken -/
local macro_rules | `(tactic| array_get_dec) => `(tactic| first
  | with_reducible exact set_0
  | (with_reducible apply set_s
     array_get_dec)
  | with_reducible exact wipe_nil
  | (with_reducible apply wipe_cons
     focus array_get_dec
     focus array_get_dec))
local macro_rules | `(tactic| mstop) => `(tactic| first
  | (apply s_asgS
     focus mleft
     focus array_get_dec)
  | (apply s_asgS2
     focus mleft
     focus array_get_dec
     focus array_get_dec)
  | (apply s_asgS3
     focus mleft
     focus array_get_dec
     focus array_get_dec
     focus array_get_dec))
local macro_rules | `(tactic| exists $t) => `(tactic| (
  apply s_noV
  focus mleft
  focus exact $t))
local macro_rules | `(tactic| mexfalso) => `(tactic| first
  | with_reducible assumption
  | (with_reducible apply draw
     · first | assumption | (apply Scr.app; assumption)
     · omega
     · omega
     · omega))
local macro_rules | `(tactic| mframe) => `(tactic| with_reducible assumption)
theorem digs_ne (n : Nat) : digs n ≠ [] := by
  intro e
  have := digs_pos n
  rw [e] at this
  simp at this
theorem strI_ne (i : Int) : strI i ≠ [] := by
  cases i with
  | ofNat n => exact digs_ne n
  | negSucc n => simp [strI]
theorem txt_ne (r : Rat) : txt r ≠ [] := by
  unfold txt
  split
  · exact strI_ne _
  · simp
theorem in_t2 (h : Heap) (w a b : List Nat) : cmpV .in_ h (.str w) (.tup [.str a, .str b]) = some (decide (w = a ∨ w = b)) := by
  simp only [cmpV, inV, flat, List.all_cons, List.all_nil, Bool.and_self, if_true, List.any_cons, List.any_nil, Bool.or_false, flatEq]
  congr 1
  simp only [V.str.injEq]
  rw [Bool.decide_or, decide_eq_decide.mpr (show a = w ↔ w = a from ⟨Eq.symm, Eq.symm⟩), decide_eq_decide.mpr (show b = w ↔ w = b from ⟨Eq.symm, Eq.symm⟩)]
local macro_rules | `(tactic| mframe) => `(tactic| with_reducible exact in_t2 _ _ _ _)
theorem src_tupI {α : Type} (f : α → V) (xs : List α) (h : Heap) : srcOf .val [.tup (xs.map f)] h = some (xs.map f, []) := rfl
theorem src_lstI {α : Type} (f : α → V) (xs : List α) (h : Heap) (a : Nat) (e : h[a]? = some (.lst (xs.map f))) : srcOf .val [.ref a] h = some (xs.map f, [(a, .lst (xs.map f))]) := by
  simp [srcOf, walkOf, e]
theorem c22_go (d : Nat) (k : List Nat) (v : V) (h : Heap) (b : Bool) (q : evSs (Cd d) (B22.drop 2) [some (.tup [.str k, v]), some (.str k), some v, none] h = .ret (.bl b) h) : callD prog (d + 1) 22 [.tup [.str k, v]] h = .ok (.bl b) h := by
  refine f_ret (F := D22) rfl rfl ?_
  refine s_no (h1 := h) (by mleave) ?_
  apply s_asg2
  · mleft
  exact q
theorem c22_num (d : Nat) (r : Rat) (h : Heap) (hf : fits r = true) : callD prog (d + 6) 22 [(It.num r).enc] h = .ok (.bl true) h := by
  have e7 := c7 (d + 1) r h hf
  refine c22_go (d + 5) kNUM (enc r) h true ?_
  refine s_yes_ret (h1 := h) (by mleave) ?_
  refine s_triV (s_ret ?_)
  apply ev_to
  · mleft
  · rw [decide_eq_false (txt_ne r)]; rfl
theorem c22_dw (d : Nat) (w : List Nat) (h : Heap) (hw : w.length ≤ LINE) : callD prog (d + 6) 22 [(It.dw w).enc] h = .ok (.bl (It.dw w).okB) h := by
  have e20 := c20 (d + 4) w h hw
  refine c22_go (d + 5) kDO (.str w) h _ ?_
  refine s_no (h1 := h) (by mleave) ?_
  refine s_yes_ret (h1 := h) (by mleave) (s_ret ?_)
  apply ev_to
  · mleft
  · rfl
theorem c22_nm (d : Nat) (w : List Nat) (h : Heap) (hw : w.length ≤ LINE) : callD prog (d + 6) 22 [(It.nm w).enc] h = .ok (.bl (It.nm w).okB) h := by
  have e20 := c20 (d + 4) w h hw
  refine c22_go (d + 5) kNAME (.str w) h _ ?_
  refine s_no (h1 := h) (by mleave) ?_
  refine s_no (h1 := h) (by mleave) ?_
  refine s_no (h1 := h) (by mleave) (s_ret ?_)
  apply e_ite_t
  · mleave
  · mleft
theorem c22_tx (d : Nat) (w : List Nat) (h : Heap) (hw : w.length ≤ LINE) : callD prog (d + 6) 22 [(It.tx w).enc] h = .ok (.bl (It.tx w).okB) h := by
  have e21 := c21 (d + 4) w h hw
  refine c22_go (d + 5) kTEXT (.str w) h _ ?_
  refine s_no (h1 := h) (by mleave) ?_
  refine s_no (h1 := h) (by mleave) ?_
  refine s_no (h1 := h) (by mleave) (s_ret ?_)
  apply e_ite_f
  · mleave
  · apply ev_to
    · mleft
    · rfl
theorem c22 : ∀ (n : Nat) (x : It), x.dep ≤ n → x.okB = true → x.txt.length ≤ 1000000 → ∀ (d : Nat) (h : Heap), callD prog (d + n + 6) 22 [x.enc] h = .ok (.bl true) h
  | n, .num r, _, hk, _, d, h => c22_num (d + n) r h hk
  | n, .dw w, _, hk, hl, d, h => by
    have := c22_dw (d + n) w h (by rw [LINE_eq]; simp only [It.txt] at hl; omega)
    rw [hk] at this
    exact this
  | n, .nm w, _, hk, hl, d, h => by
    have := c22_nm (d + n) w h (by rw [LINE_eq]; simp only [It.txt, List.length_cons] at hl; omega)
    rw [hk] at this
    exact this
  | n, .tx w, _, hk, hl, d, h => by
    have := c22_tx (d + n) w h (by rw [LINE_eq]; simp only [It.txt, List.length_cons, List.length_append] at hl; omega)
    rw [hk] at this
    exact this
  | 0, .pr xs, hd, _, _, _, _ => by simp [It.dep] at hd
  | n + 1, .pr xs, hd, hk, hl, d, h => by
    obtain ⟨p1, p2, p3⟩ := pr_len hl
    simp only [It.dep] at hd
    simp only [It.okB] at hk
    have ec : evE (Cd (d + n + 6)) (.comp (.callf 22 [.var 3] [] []) (.nm 3) .val [.var 2] [] [3]) [some (.tup [.str kPROC, .tup (xs.map It.enc)]), some (.str kPROC), some (.tup (xs.map It.enc)), none] h = .ok (.ref h.length) (h ++ [.lst (xs.map fun _ => V.bl true)]) := by
      refine e_mapS (f := It.enc) (g := fun _ => V.bl true) (vs := [.tup (xs.map It.enc)]) (h1 := h) (by mleft) (src_tupI _ _ _) rfl (by rw [LINE_eq]; omega) (by array_get_dec) (fun _ => by array_get_dec) fun y hy l => ?_
      have e := c22 n y (deps_mem (n := n) (by omega) y hy) (oks_all hk y hy) (by have := p1 y hy; omega) d (h ++ [.lst l])
      mleft
    have e0 : (It.pr xs).enc = .tup [.str kPROC, .tup (xs.map It.enc)] := by simp only [It.enc, encs_map]
    rw [e0]
    refine c22_go (d + n + 6) kPROC (.tup (xs.map It.enc)) h true ?_
    refine s_no (h1 := h) (by mleave) ?_
    refine s_no (h1 := h) (by mleave) ?_
    refine s_yes_ret (h1 := h) (by mleave) (s_ret ?_)
    apply ev_to
    · mleft
    · simp
theorem strsOf_mapI (ss : List (List Nat)) : strsOf (ss.map V.str) = some ss := by
  induction ss with
  | nil => rfl
  | cons s ss ih => simp [strsOf, ih]
theorem join_b {h : Heap} {a : Nat} {ss : List (List Nat)} (ha : listAt h a = some (ss.map V.str)) (hl : (ss.map fun s : List Nat => s.length).sum + ss.length ≤ 16777216) : bmV .join (.str [32]) [.ref a] h = .ok (.str (joinS [32] ss)) h := by
  simp only [bmV, seqOf, ha, Option.bind_some, strsOf_mapI]
  rw [if_pos (by simpa using hl)]
theorem lst_at {h : Heap} {a : Nat} {xs : List V} (e : lstAt h a = some xs) : listAt h a = some xs := by
  have := lstAt_getP e
  simp [listAt, this]
/-- "{ .. }" -/
theorem e_braces {C : Ctx} {env : Env} {h : Heap} {ec : Ex} {ts : List (List Nat)} (q : ∀ H, evE C ec env H = .ok (.ref H.length) (H ++ [.lst (ts.map V.str)])) (hl : (([[123]] ++ ts ++ [[125]]).map fun s : List Nat => s.length).sum + ([[123]] ++ ts ++ [[125]]).length ≤ 1000001) :
    evE C (.bmeth (.lit (.str [32])) .join [.bin .add (.bin .add (.lst [.lit (.str [123])]) ec) (.lst [.lit (.str [125])])]) env h = .ok (.str (joinS [32] ([[123]] ++ ts ++ [[125]]))) h := by
  have hn : ts.length ≤ 1000000 := by simp at hl; omega
  apply e_bmeth
  · exact e_lit
  · exact rfl
  · apply e_cons
    · apply e_bin
      · apply e_bin
        · exact e_lst (e_cons e_lit e_nil)
        · exact q _
        · exact add_lstP (lstAt_appP lstAt_newP) lstAt_newP (by rw [LINE_eq]; simp; omega)
      · exact e_lst (e_cons e_lit e_nil)
      · exact add_lstP (lstAt_appP lstAt_newP) lstAt_newP (by rw [LINE_eq]; simp; omega)
    · exact e_nil
  · refine join_b (ss := [[123]] ++ ts ++ [[125]]) ?_ (by omega)
    rw [listAt_new]
    simp
  · apply gc_lo
    · mright
    · rfl
theorem c23_go (d : Nat) (k : List Nat) (v R : V) (h : Heap) (q : evSs (Cd d) (B23.drop 1) [some (.tup [.str k, v]), some (.str k), some v, none] h = .ret R h) : callD prog (d + 1) 23 [.tup [.str k, v]] h = .ok R h := by
  refine f_ret (F := D23) rfl rfl ?_
  apply s_asg2
  · mleft
  exact q
theorem c23_num (d : Nat) (r : Rat) (h : Heap) (hk : fits r = true) : callD prog (d + 6) 23 [(It.num r).enc] h = .ok (.str (It.num r).txt) h := by
  have e7 := c7 (d + 1) r h hk
  refine c23_go (d + 5) kNUM (enc r) _ h ?_
  refine s_yes_ret (h1 := h) (by mleave) (s_ret ?_)
  mleft
theorem c23_dw (d : Nat) (w : List Nat) (h : Heap) : callD prog (d + 6) 23 [(It.dw w).enc] h = .ok (.str w) h := by
  refine c23_go (d + 5) kDO (.str w) _ h ?_
  refine s_no (h1 := h) (by mleave) ?_
  refine s_no (h1 := h) (by mleave) ?_
  refine s_no (h1 := h) (by mleave) (s_ret ?_)
  apply e_ite_f
  · mleave
  · mleft
theorem c23_nm (d : Nat) (w : List Nat) (h : Heap) (hw : w.length ≤ 1000000) : callD prog (d + 6) 23 [(It.nm w).enc] h = .ok (.str (It.nm w).txt) h := by
  refine c23_go (d + 5) kNAME (.str w) _ h ?_
  refine s_no (h1 := h) (by mleave) ?_
  refine s_no (h1 := h) (by mleave) ?_
  refine s_no (h1 := h) (by mleave) (s_ret ?_)
  apply e_ite_t
  · mleave
  · apply ev_to
    · mleft
    · rfl
theorem c23_tx (d : Nat) (w : List Nat) (h : Heap) (hw : w.length ≤ 1000000) : callD prog (d + 6) 23 [(It.tx w).enc] h = .ok (.str (It.tx w).txt) h := by
  refine c23_go (d + 5) kTEXT (.str w) _ h ?_
  refine s_no (h1 := h) (by mleave) ?_
  refine s_no (h1 := h) (by mleave) ?_
  refine s_yes_ret (h1 := h) (by mleave) (s_ret ?_)
  apply ev_to
  · mleft
  · rfl
theorem c23 : ∀ (n : Nat) (x : It), x.dep ≤ n → x.okB = true → x.txt.length ≤ 1000000 → ∀ (d : Nat) (h : Heap), callD prog (d + n + 6) 23 [x.enc] h = .ok (.str x.txt) h
  | n, .num r, _, hk, _, d, h => c23_num (d + n) r h hk
  | n, .dw w, _, hk, hl, d, h => c23_dw (d + n) w h
  | n, .nm w, _, hk, hl, d, h => c23_nm (d + n) w h (by simp only [It.txt, List.length_cons] at hl; omega)
  | n, .tx w, _, hk, hl, d, h => c23_tx (d + n) w h (by simp only [It.txt, List.length_cons, List.length_append] at hl; omega)
  | 0, .pr xs, hd, _, _, _, _ => by simp [It.dep] at hd
  | n + 1, .pr xs, hd, hk, hl, d, h => by
    obtain ⟨p1, p2, p3⟩ := pr_len hl
    simp only [It.dep] at hd
    simp only [It.okB] at hk
    have ec : ∀ H : Heap, evE (Cd (d + n + 6)) (.comp (.callf 23 [.var 3] [] []) (.nm 3) .val [.var 2] [] [3]) [some (.tup [.str kPROC, .tup (xs.map It.enc)]), some (.str kPROC), some (.tup (xs.map It.enc)), none] H = .ok (.ref H.length) (H ++ [.lst ((xs.map It.txt).map V.str)]) := by
      intro H
      rw [List.map_map]
      refine e_mapS (f := It.enc) (vs := [.tup (xs.map It.enc)]) (h1 := H) (by mleft) (src_tupI _ _ _) rfl (by rw [LINE_eq]; omega) (by array_get_dec) (fun _ => by array_get_dec) fun y hy l => ?_
      have e := c23 n y (deps_mem (n := n) (by omega) y hy) (oks_all hk y hy) (by have := p1 y hy; omega) d (H ++ [.lst l])
      mleft
    have e0 : (It.pr xs).enc = .tup [.str kPROC, .tup (xs.map It.enc)] := by simp only [It.enc, encs_map]
    rw [e0]
    refine c23_go (d + n + 6) kPROC (.tup (xs.map It.enc)) _ h ?_
    refine s_no (h1 := h) (by mleave) ?_
    refine s_yes_ret (h1 := h) (by mleave) (s_ret ?_)
    have := e_braces (C := Cd (d + n + 6)) (h := h) ec p3
    rw [this]
    simp only [It.txt, txts_map]
theorem c27_go (d : Nat) (k : List Nat) (v R : V) (h : Heap) (q : evSs (Cd d) (B27.drop 1) [some (.tup [.str k, v]), some (.str k), some v, none] h = .ret R h) : callD prog (d + 1) 27 [.tup [.str k, v]] h = .ok R h := by
  refine f_ret (F := D27) rfl rfl ?_
  apply s_asg2
  · mleft
  exact q
theorem c27_num (d : Nat) (r : Rat) (h : Heap) (hk : fits r = true) : callD prog (d + 6) 27 [(It.num r).enc] h = .ok (.str (It.num r).txt) h := by
  have e7 := c14 (d + 4) r h (Nat.lt_of_lt_of_le (fits_iff hk).1 (by decide)) (Nat.lt_of_lt_of_le (fits_iff hk).2 (by decide))
  refine c27_go (d + 5) kNUM (enc r) _ h ?_
  refine s_yes_ret (h1 := h) (by mleave) (s_ret ?_)
  mleft
theorem c27_dw (d : Nat) (w : List Nat) (h : Heap) : callD prog (d + 6) 27 [(It.dw w).enc] h = .ok (.str w) h := by
  refine c27_go (d + 5) kDO (.str w) _ h ?_
  refine s_no (h1 := h) (by mleave) ?_
  refine s_no (h1 := h) (by mleave) ?_
  refine s_no (h1 := h) (by mleave) (s_ret ?_)
  apply e_ite_f
  · mleave
  · mleft
theorem c27_nm (d : Nat) (w : List Nat) (h : Heap) (hw : w.length ≤ 1000000) : callD prog (d + 6) 27 [(It.nm w).enc] h = .ok (.str (It.nm w).txt) h := by
  refine c27_go (d + 5) kNAME (.str w) _ h ?_
  refine s_no (h1 := h) (by mleave) ?_
  refine s_no (h1 := h) (by mleave) ?_
  refine s_no (h1 := h) (by mleave) (s_ret ?_)
  apply e_ite_t
  · mleave
  · apply ev_to
    · mleft
    · rfl
theorem c27_tx (d : Nat) (w : List Nat) (h : Heap) (hw : w.length ≤ 1000000) : callD prog (d + 6) 27 [(It.tx w).enc] h = .ok (.str (It.tx w).txt) h := by
  refine c27_go (d + 5) kTEXT (.str w) _ h ?_
  refine s_no (h1 := h) (by mleave) ?_
  refine s_no (h1 := h) (by mleave) ?_
  refine s_yes_ret (h1 := h) (by mleave) (s_ret ?_)
  apply ev_to
  · mleft
  · rfl
theorem c27 : ∀ (n : Nat) (x : It), x.dep ≤ n → x.okB = true → x.txt.length ≤ 1000000 → ∀ (d : Nat) (h : Heap), callD prog (d + n + 6) 27 [x.enc] h = .ok (.str x.txt) h
  | n, .num r, _, hk, _, d, h => c27_num (d + n) r h hk
  | n, .dw w, _, hk, hl, d, h => c27_dw (d + n) w h
  | n, .nm w, _, hk, hl, d, h => c27_nm (d + n) w h (by simp only [It.txt, List.length_cons] at hl; omega)
  | n, .tx w, _, hk, hl, d, h => c27_tx (d + n) w h (by simp only [It.txt, List.length_cons, List.length_append] at hl; omega)
  | 0, .pr xs, hd, _, _, _, _ => by simp [It.dep] at hd
  | n + 1, .pr xs, hd, hk, hl, d, h => by
    obtain ⟨p1, p2, p3⟩ := pr_len hl
    simp only [It.dep] at hd
    simp only [It.okB] at hk
    have ec : ∀ H : Heap, evE (Cd (d + n + 6)) (.comp (.callf 27 [.var 3] [] []) (.nm 3) .val [.var 2] [] [3]) [some (.tup [.str kPROC, .tup (xs.map It.enc)]), some (.str kPROC), some (.tup (xs.map It.enc)), none] H = .ok (.ref H.length) (H ++ [.lst ((xs.map It.txt).map V.str)]) := by
      intro H
      rw [List.map_map]
      refine e_mapS (f := It.enc) (vs := [.tup (xs.map It.enc)]) (h1 := H) (by mleft) (src_tupI _ _ _) rfl (by rw [LINE_eq]; omega) (by array_get_dec) (fun _ => by array_get_dec) fun y hy l => ?_
      have e := c27 n y (deps_mem (n := n) (by omega) y hy) (oks_all hk y hy) (by have := p1 y hy; omega) d (H ++ [.lst l])
      mleft
    have e0 : (It.pr xs).enc = .tup [.str kPROC, .tup (xs.map It.enc)] := by simp only [It.enc, encs_map]
    rw [e0]
    refine c27_go (d + n + 6) kPROC (.tup (xs.map It.enc)) _ h ?_
    refine s_no (h1 := h) (by mleave) ?_
    refine s_yes_ret (h1 := h) (by mleave) (s_ret ?_)
    have := e_braces (C := Cd (d + n + 6)) (h := h) ec p3
    rw [this]
    simp only [It.txt, txts_map]
/-- a row of items written -/
def rowW (xs : List It) : List Nat := joinS [32] (xs.map It.txt)
structure Row (n : Nat) (xs : List It) : Prop where
  dep : ∀ x ∈ xs, x.dep ≤ n
  ok : ∀ x ∈ xs, x.okB = true
  len : (rowW xs).length ≤ 1000000
theorem e_row {C : Ctx} {env : Env} {h : Heap} {ec : Ex} {xs : List It} (q : evE C ec env h = .ok (.ref h.length) (h ++ [.lst ((xs.map It.txt).map V.str)])) (hl : (rowW xs).length ≤ 1000000) :
    evE C (.bmeth (.lit (.str [32])) .join [ec]) env h = .ok (.str (rowW xs)) h := by
  obtain ⟨p1, p2, p3⟩ := row_len hl
  apply e_bmeth
  · exact e_lit
  · exact rfl
  · exact e_cons q e_nil
  · refine join_b (ss := xs.map It.txt) listAt_new ?_
    rw [List.length_map]
    omega
  · apply gc_lo
    · mright
    · rfl
theorem c28 (n : Nat) (xs : List It) (k : Row n xs) (d a : Nat) (h : Heap) (ha : h[a]? = some (.lst (xs.map It.enc))) : callD prog (d + n + 7) 28 [.ref a] h = .ok (.str (rowW xs)) h := by
  obtain ⟨p1, p2, p3⟩ := row_len k.len
  refine f_ret (F := D28) rfl rfl (s_ret (e_row ?_ k.len))
  show evE (Cd (d + n + 6)) _ [some (.ref a), none] h = _
  rw [List.map_map]
  refine e_mapS (f := It.enc) (vs := [.ref a]) (h1 := h) (by mleft) (src_lstI _ _ _ _ ha) (stays_1 ha) (by rw [LINE_eq]; omega) (by array_get_dec) (fun _ => by array_get_dec) fun y hy l => ?_
  have e := c27 n y (k.dep y hy) (k.ok y hy) (p1 y hy) d (h ++ [.lst l])
  mleft
theorem c24_all (n : Nat) (xs : List It) (k : Row n xs) (d a : Nat) (h : Heap) (ha : h[a]? = some (.lst (xs.map It.enc))) : evE (Cd (d + n + 6)) (.comp (.callf 22 [.var 1] [] []) (.nm 1) .val [.var 0] [] [1]) [some (.ref a), none] h = .ok (.ref h.length) (h ++ [.lst (xs.map fun _ => V.bl true)]) := by
  obtain ⟨p1, p2, p3⟩ := row_len k.len
  refine e_mapS (f := It.enc) (g := fun _ => V.bl true) (vs := [.ref a]) (h1 := h) (by mleft) (src_lstI _ _ _ _ ha) (stays_1 ha) (by rw [LINE_eq]; omega) (by array_get_dec) (fun _ => by array_get_dec) fun y hy l => ?_
  have e := c22 n y (k.dep y hy) (k.ok y hy) (p1 y hy) d (h ++ [.lst l])
  mleft
theorem c24 (n : Nat) (xs : List It) (k : Row n xs) (d a : Nat) (h : Heap) (ha : h[a]? = some (.lst (xs.map It.enc))) : callD prog (d + n + 7) 24 [.ref a] h = .ok (.str (rowW xs)) h := by
  obtain ⟨p1, p2, p3⟩ := row_len k.len
  have ea := c24_all n xs k d a h ha
  have is := bi_islist_lst (h := h) (a := a) (xs := xs.map It.enc) (by simp [listAt, ha])
  refine f_ret (F := D24) rfl rfl ?_
  show evSs (Cd (d + n + 6)) _ [some (.ref a), none] h = _
  refine s_no (h1 := h) ?_ ?_
  · apply ev_to
    · mleft
    · simp
  refine s_ret (e_row ?_ k.len)
  rw [List.map_map]
  refine e_mapS (f := It.enc) (vs := [.ref a]) (h1 := h) (by mleft) (src_lstI _ _ _ _ ha) (stays_1 ha) (by rw [LINE_eq]; omega) (by array_get_dec) (fun _ => by array_get_dec) fun y hy l => ?_
  have e := c23 n y (k.dep y hy) (k.ok y hy) (p1 y hy) d (h ++ [.lst l])
  mleft

end MP
end

section
set_option Elab.async false
set_option linter.all false
set_option maxRecDepth 10000
set_option maxHeartbeats 1000000
namespace MP
/- the tactics of these texts: mleft reckons an expression, mframe one operator, mright a side condition, mexfalso a call -/
local macro_rules | `(tactic| massumption) => `(tactic| first
  | with_reducible assumption
  | exact bz_60 (by omega)
  | (with_reducible apply bz_abs
     massumption)
  | (with_reducible apply bz_neg
     massumption)
  | ((with_reducible apply bz_mul) <;> massumption)
  | ((with_reducible apply bz_add) <;> massumption)
  | ((with_reducible apply bz_sub) <;> massumption))
local macro_rules | `(tactic| mright) => `(tactic| first
  | with_reducible assumption
  | exact rfl
  | exact Ext.refl _
  | (apply Ext.app
     mright)
  | (apply bz_small
     · massumption
     · decide)
  | omega
  | (rw [LINE_eq]; omega)
  | exact listAt_new
  | (simp only [List.length_append, List.length_cons, List.length_nil, List.length_map, List.length_range, LINE_eq]; omega)
  | (apply listAt_app
     mright)
  | (apply lo_clo
     mright)
  | (apply pls_map
     intro _ _
     exact rfl))
local macro_rules | `(tactic| mframe) => `(tactic| first
  | ((with_reducible apply c_ne_self); mright)
  | ((with_reducible apply c_eq_self); mright)
  | with_reducible exact add_int _ _ _
  | with_reducible exact sub_int _ _ _
  | ((with_reducible apply mul_int) <;> mright)
  | ((with_reducible apply fdiv_int) <;> mright)
  | ((with_reducible apply mod_int) <;> mright)
  | ((with_reducible apply add_str) <;> mright)
  | with_reducible exact lt_int _ _ _
  | with_reducible exact le_int _ _ _
  | with_reducible exact gt_int _ _ _
  | with_reducible exact ge_int _ _ _
  | with_reducible exact eq_int _ _ _
  | with_reducible exact ne_int _ _ _
  | with_reducible exact eq_str _ _ _
  | with_reducible exact ne_str _ _ _
  | with_reducible exact is_non _ _
  | with_reducible exact isnot_non _ _
  | with_reducible exact is_bl _ _ _
  | with_reducible exact isnot_bl _ _ _
  | with_reducible exact ix_0 _ _ _
  | with_reducible exact ix_1 _ _ _ _
  | with_reducible exact ix_2 _ _ _ _ _
  | with_reducible exact ix_3 _ _ _ _ _ _
  | with_reducible exact bi_len_tup _ _
  | ((with_reducible apply bi_len_s); mright)
  | ((with_reducible apply bi_len_ref); mright)
  | with_reducible exact bi_abs _ _
  | with_reducible exact bi_tuple_tup
  | ((with_reducible apply bi_tuple_ref); mright)
  | with_reducible exact bi_list_tup
  | ((with_reducible apply bi_list_ref); mright)
  | with_reducible exact bi_int_bl
  | with_reducible exact bi_int_int
  | with_reducible exact bi_isint_non _
  | with_reducible exact bi_isint_bl _ _
  | with_reducible exact bi_isint_int _ _
  | with_reducible exact bi_isint_str _ _
  | with_reducible exact bi_isint_tup _ _
  | with_reducible exact bi_isbool_non _
  | with_reducible exact bi_isbool_bl _ _
  | with_reducible exact bi_isbool_int _ _
  | with_reducible exact bi_isbool_str _ _
  | with_reducible exact bi_isbool_tup _ _
  | with_reducible exact bi_isstr_non _
  | with_reducible exact bi_isstr_bl _ _
  | with_reducible exact bi_isstr_int _ _
  | with_reducible exact bi_isstr_str _ _
  | with_reducible exact bi_isstr_tup _ _
  | with_reducible exact bi_istuple_non _
  | with_reducible exact bi_istuple_bl _ _
  | with_reducible exact bi_istuple_int _ _
  | with_reducible exact bi_istuple_str _ _
  | with_reducible exact bi_istuple_tup _ _
  | with_reducible exact bi_islist_non _
  | with_reducible exact bi_islist_bl _ _
  | with_reducible exact bi_islist_int _ _
  | with_reducible exact bi_islist_str _ _
  | with_reducible exact bi_islist_tup _ _
  | with_reducible exact bi_isdict_non _
  | with_reducible exact bi_isdict_bl _ _
  | with_reducible exact bi_isdict_int _ _
  | with_reducible exact bi_isdict_str _ _
  | with_reducible exact bi_isdict_tup _ _
  | (with_reducible apply bi_str_s
     · massumption
     · decide)
  | ((with_reducible apply bi_all_map); mright)
  | ((with_reducible apply bi_any_map); mright)
  | with_reducible exact in_str _ _ _
  | ((with_reducible apply c_eq_nil) <;> mright)
  | ((with_reducible apply c_ne_nil) <;> mright)
  | ((with_reducible apply count_s); mright)
  | ((with_reducible apply index_s) <;> mright)
  | ((with_reducible apply mul_s) <;> mright)
  | with_reducible exact notin_str _ _ _
  | with_reducible exact bi_max _ _ _
  | with_reducible exact bi_min _ _ _)
local macro_rules | `(tactic| mframe) => `(tactic| first
  | with_reducible exact ix_enc0 _ _
  | with_reducible exact ix_enc1 _ _
  | with_reducible exact ix_encM0 _ _
  | with_reducible exact ix_encM1 _ _
  | with_reducible exact ix_encM2 _ _
  | with_reducible exact ix_encM3 _ _
  | with_reducible exact slc_t4 _ _ _ _ _ _ _
  | with_reducible exact add_t42 _ _ _ _ _ _ _
  | with_reducible exact add_t22 _ _ _ _ _
  | with_reducible exact ne_bl _ _ _
  | with_reducible exact pow18 _
  | ((with_reducible apply bi_int_s) <;> mright)
  | ((with_reducible apply slc_to1); mright)
  | ((with_reducible apply slc_from1); mright)
  | ((with_reducible apply bi_tuple_ref); mright)
  | (with_reducible apply ix_lst
     · mright
     · decide
     · exact rfl))
local macro_rules | `(tactic| mconstructor) => `(tactic| first
  | (apply bind_pos <;> exact rfl)
  | (apply bind_kw1 <;> exact rfl)
  | (apply bind_dfl <;> exact rfl))
local macro_rules | `(tactic| mexfalso) => `(tactic| with_reducible assumption)
local macro_rules | `(tactic| mpure_intro) => `(tactic| first
  | with_reducible exact src_str _ _
  | (with_reducible apply src_range1
     omega)
  | with_reducible exact src_tup _ _)
local macro_rules | `(tactic| mleft) => `(tactic| first
  | with_reducible assumption
  | with_reducible exact e_lit
  | ((with_reducible apply e_var); exact rfl)
  | (with_reducible apply e_glob
     first | with_reducible assumption | exact g1 | exact rfl)
  | with_reducible exact e_nil
  | (with_reducible apply e_cons
     · mleft
     · mleft)
  | ((with_reducible apply e_tup); mleft)
  | ((with_reducible apply e_lst); mleft)
  | (with_reducible apply e_bin
     · mleft
     · mleft
     · mframe)
  | ((with_reducible apply e_neg); mleft)
  | ((with_reducible apply e_not); mleft)
  | (with_reducible apply e_cmp
     · mleft
     · mleft
     · mframe
     · mright)
  | (with_reducible apply e_andK
     · mleft
     · first
       | exact andk_f
       | (apply andk_t; mleft)
       | (apply andk_g; intro _; mleft))
  | (with_reducible apply e_orK
     · mleft
     · first
       | exact ork_t
       | (apply ork_f; mleft)
       | (apply ork_g; intro _; mleft))
  | (with_reducible apply e_iteK
     · mleft
     · first
       | (apply itek_t; mleft)
       | (apply itek_f; mleft)
       | (apply itek_g
          · intro _
            mleft
          · intro _
            mleft))
  | (with_reducible apply e_idx
     · mleft
     · mleft
     · mframe
     · first
       | exact gc_same _ _
       | (apply gc_lo <;> mright))
  | (with_reducible apply e_callD
     · mleft
     · mleft
     · exact rfl
     · mconstructor
     · mexfalso
     · first
       | exact gc_same _ _
       | (apply gc_lo <;> mright)
       | exact gc_new _ _)
  | (with_reducible apply e_callb
     · mleft
     · mframe
     · first
       | exact gc_same _ _
       | (apply gc_lo <;> mright)
       | exact gc_new _ _)
  | (with_reducible apply e_chain
     · mleft
     · mleft
     · mframe
     · intro _
       mleft
     · intro _
       mframe)
  | (with_reducible apply e_mapf
     · mleft
     · mpure_intro
     · exact rfl
     · mright
     · intro _ _ _
       mleft)
  | (with_reducible apply e_compf
     · mleft
     · mpure_intro
     · exact rfl
     · mright
     · intro _ _ _
       mleft
     · intro _ _ _ _
       mleft)
  | (with_reducible apply e_slc
     · mleft
     · mleft
     · exact rfl
     · mleft
     · exact rfl
     · mframe)
  | (with_reducible apply e_bmeth
     · mleft
     · exact rfl
     · mleft
     · mframe
     · first
       | exact gc_same _ _
       | (apply gc_lo <;> mright)
       | exact gc_new _ _)
  | (with_reducible apply e_xis
     · exact rfl
     · exact rfl
     · exact rfl))
/- mpure: a call that raises -/
local macro_rules | `(tactic| mstart) => `(tactic| (
  apply e_callDx
  · mleft
  · mleft
  · exact rfl
  · mconstructor
  · mexfalso))
/- mleave: to a value that is told -/
local macro_rules | `(tactic| mleave) => `(tactic| (
  apply ev_to
  · mleft
  · first | exact rfl | (congr 2; done) | simp))
local macro_rules | `(tactic| mframe) => `(tactic| first
  | with_reducible exact slc_tfrom _ _
  | with_reducible exact slc_tto _ _
  | with_reducible exact lzip_tup _ _
  | with_reducible exact ix_pt0 _ _
  | with_reducible exact ix_pt1 _ _
  | with_reducible exact ix_rp0 _ _ _
  | with_reducible exact ix_rp1 _ _ _
  | with_reducible exact ix_rpp0 _ _
  | with_reducible exact ix_rpp1 _ _
  | with_reducible exact ix_rp20 _ _
  | with_reducible exact ix_rp21 _ _
  | fail)
/- one more row of these: an environment written out, an assignment, a choice that is not taken -/
local macro_rules | `(tactic| array_get_dec) => `(tactic| first
  | with_reducible exact set_0
  | (with_reducible apply set_s
     array_get_dec)
  | with_reducible exact wipe_nil
  | (with_reducible apply wipe_cons
     focus array_get_dec
     focus array_get_dec))
local macro_rules | `(tactic| mstop) => `(tactic| first
  | (apply s_asgS
     focus mleft
     focus array_get_dec)
  | (apply s_asgS2
     focus mleft
     focus array_get_dec
     focus array_get_dec)
  | (apply s_asgS3
     focus mleft
     focus array_get_dec
     focus array_get_dec
     focus array_get_dec))
local macro_rules | `(tactic| exists $t) => `(tactic| (
  apply s_noV
  focus mleft
  focus exact $t))
local macro_rules | `(tactic| mexfalso) => `(tactic| first
  | with_reducible assumption
  | (with_reducible apply draw
     · first | assumption | (apply Scr.app; assumption)
     · omega
     · omega
     · omega))
local macro_rules | `(tactic| mframe) => `(tactic| with_reducible assumption)
theorem bi_sum_map {α : Type} {h : Heap} {a : Nat} {ys : List α} {p : α → Int} (e : listAt h a = some (ys.map fun y => V.int (p y))) : biV .sum [.ref a] h = .ok (.int (ys.map p).sum) h := by
  have q : ∀ ys : List α, intsOf (ys.map fun y => V.int (p y)) = some (ys.map p) := by
    intro ys
    induction ys with
    | nil => rfl
    | cons b r ih => simp [intsOf, ih]
  simp only [biV, e, Option.bind_some, q]
/-- an item's kind and what it holds -/
def It.kd : It → List Nat
  | .num _ => kNUM
  | .dw _ => kDO
  | .nm _ => kNAME
  | .tx _ => kTEXT
  | .pr _ => kPROC
def It.wh : It → V
  | .num r => MP.enc r
  | .dw w => .str w
  | .nm w => .str w
  | .tx w => .str w
  | .pr xs => .tup (xs.map It.enc)
theorem enc_kd (x : It) : x.enc = .tup [.str x.kd, x.wh] := by
  cases x <;> simp only [It.enc, It.kd, It.wh, encs_map]
theorem c25 : ∀ (n : Nat) (xs : List It), (∀ x ∈ xs, x.dep ≤ n) → (∀ x ∈ xs, x.txt.length ≤ 1000000) → xs.length ≤ 1000001 → ∀ (d a : Nat) (h : Heap), h[a]? = some (.lst (xs.map It.enc)) → callD prog (d + n + 1) 25 [.ref a] h = .ok (.int (It.cnts xs)) h := by
  intro n
  induction n with
  | zero =>
    intro xs hd hl hn d a h ha
    refine f_ret (F := D25) rfl rfl (s_ret ?_)
    have ec : evE (Cd (d + 0)) (.comp (.ite (.cmp .eq (.var 1) (.lit (.str kPROC))) (.bin .add (.lit (.int 1)) (.callf 25 [.callb .list [.var 2]] [] [])) (.lit (.int 1))) (.tp [.nm 1, .nm 2]) .val [.var 0] [] [1, 2]) [some (.ref a), none, none] h = .ok (.ref h.length) (h ++ [.lst (xs.map fun x => V.int x.cnt)]) := by
      refine e_maptP (f := It.enc) (g := fun x : It => V.int x.cnt) (vs := [.ref a]) (h1 := h) (by mleft) (src_lstI _ _ _ _ ha) (stays_1 ha) (by rw [LINE_eq]; omega) fun y hy l => ⟨[some (.ref a), some (.str y.kd), some y.wh], by rw [enc_kd]; rfl, ?_⟩
      have hy0 := hd y hy
      cases y with
      | pr zs => simp [It.dep] at hy0
      | _ =>
        apply e_ite_f
        · mleave
        · exact e_lit
    rw [cnts_sum]
    apply e_callb
    · exact e_cons ec e_nil
    · exact bi_sum_map listAt_new
    · apply gc_lo
      · mright
      · rfl
  | succ n ih =>
    intro xs hd hl hn d a h ha
    refine f_ret (F := D25) rfl rfl (s_ret ?_)
    have ec : evE (Cd (d + n + 1)) (.comp (.ite (.cmp .eq (.var 1) (.lit (.str kPROC))) (.bin .add (.lit (.int 1)) (.callf 25 [.callb .list [.var 2]] [] [])) (.lit (.int 1))) (.tp [.nm 1, .nm 2]) .val [.var 0] [] [1, 2]) [some (.ref a), none, none] h = .ok (.ref h.length) (h ++ [.lst (xs.map fun x => V.int x.cnt)]) := by
      refine e_maptP (f := It.enc) (g := fun x : It => V.int x.cnt) (vs := [.ref a]) (h1 := h) (by mleft) (src_lstI _ _ _ _ ha) (stays_1 ha) (by rw [LINE_eq]; omega) fun y hy l => ⟨[some (.ref a), some (.str y.kd), some y.wh], by rw [enc_kd]; rfl, ?_⟩
      have hy0 := hd y hy
      have hy1 := hl y hy
      cases y with
      | pr zs =>
        obtain ⟨p1, p2, p3⟩ := pr_len hy1
        simp only [It.dep] at hy0
        have e25 := ih zs (deps_mem (n := n) (by omega)) (fun z hz => by have := p1 z hz; omega) (by omega) d (h ++ [Obj.lst l]).length ((h ++ [Obj.lst l]) ++ [.lst (zs.map It.enc)]) (by simp)
        apply e_ite_t
        · mleave
        · generalize h ++ [Obj.lst l] = H at e25 ⊢
          show evE _ _ [some (.ref a), some (.str kPROC), some (.tup (zs.map It.enc))] H = _
          apply ev_to
          · apply e_bin
            · exact e_lit
            · apply e_callD
              · mleft
              · exact e_nil
              · exact rfl
              · mconstructor
              · exact e25
              · apply gc_lo
                · mright
                · rfl
            · exact add_int _ _ _
          · rfl
      | _ =>
        apply e_ite_f
        · mleave
        · exact e_lit
    rw [cnts_sum]
    apply e_callb
    · exact e_cons ec e_nil
    · exact bi_sum_map listAt_new
    · apply gc_lo
      · mright
      · rfl
theorem c31 : ∀ (n : Nat) (xs : List It), (∀ x ∈ xs, x.dep ≤ n) → ∀ (d : Nat) (v : V) (st : List (Nat × Obj)) (h : Heap), srcOf .val [v] h = some (xs.map It.enc, st) → stays h st = true → callD prog (d + n + 1) 31 [v] h = .ok (.int (It.cnts xs)) h := by
  intro n
  induction n with
  | zero =>
    intro xs hd d v st h hs ht
    refine f_ret (F := D31) rfl rfl ?_
    show evSs (Cd (d + 0)) _ [some v, none, none, none] h = _
    apply s_asg
    · mleft
    have key := for_env' (b := fun e g => evSs (Cd (d + 0)) [.asg (.nm (.nm 1)) (.bin .add (.var 1) (.lit (.int 1))), .iff (.cmp .eq (.var 2) (.lit (.str kPROC))) [.asg (.nm (.nm 1)) (.bin .add (.var 1) (.callf 31 [.var 3] [] []))] []] e g) (tg := .tp [.nm 2, .nm 3]) (st := st) (f := It.enc)
      (fun ys e g => (∀ y ∈ ys, y ∈ xs) ∧ g = h ∧ ∃ c o2 o3, e = [some v, some (.int c), o2, o3] ∧ c + It.cnts ys = It.cnts xs) (fun ys e g ⟨_, hg, _⟩ => by rw [hg]; exact ht) (by
        rintro y ys e g ⟨hm, rfl, c, o2, o3, rfl, hc⟩
        refine ⟨[some v, some (.int c), some (.str y.kd), some y.wh], [some v, some (.int (c + 1)), some (.str y.kd), some y.wh], g, by rw [enc_kd]; rfl, ?_, fun z hz => hm z (List.mem_cons_of_mem _ hz), rfl, c + 1, _, _, rfl, ?_⟩
        · apply s_asg
          · mleft
          show evSs _ _ [some v, some (.int (c + 1)), some (.str y.kd), some y.wh] g = _
          have hy0 := hd y (hm y (by simp))
          cases y with
          | pr zs => simp [It.dep] at hy0
          | _ =>
            refine s_no (h1 := g) (by mleave) ?_
            rw [r_snil]
        · have hy0 := hd y (hm y (by simp))
          rw [← hc]
          simp only [It.cnts]
          cases y with
          | pr zs => simp [It.dep] at hy0
          | _ => simp only [It.cnt]; omega) xs [some v, some (.int 0), none, none] h ⟨fun _ z => z, rfl, 0, _, _, rfl, by omega⟩
    obtain ⟨e2, h2, k1, -, rfl, c, o2, o3, rfl, hc⟩ := key
    refine s_for (xs := xs.map It.enc) (st := st) (vs := [v]) (h1 := h2) (by mleft) hs k1 ?_
    simp only [It.cnts] at hc
    have hc : c = It.cnts xs := by omega
    rw [← hc]
    apply s_ret
    mleft
  | succ n ih =>
    intro xs hd d v st h hs ht
    refine f_ret (F := D31) rfl rfl ?_
    show evSs (Cd (d + n + 1)) _ [some v, none, none, none] h = _
    apply s_asg
    · mleft
    have key := for_env' (b := fun e g => evSs (Cd (d + n + 1)) [.asg (.nm (.nm 1)) (.bin .add (.var 1) (.lit (.int 1))), .iff (.cmp .eq (.var 2) (.lit (.str kPROC))) [.asg (.nm (.nm 1)) (.bin .add (.var 1) (.callf 31 [.var 3] [] []))] []] e g) (tg := .tp [.nm 2, .nm 3]) (st := st) (f := It.enc)
      (fun ys e g => (∀ y ∈ ys, y ∈ xs) ∧ g = h ∧ ∃ c o2 o3, e = [some v, some (.int c), o2, o3] ∧ c + It.cnts ys = It.cnts xs) (fun ys e g ⟨_, hg, _⟩ => by rw [hg]; exact ht) (by
        rintro y ys e g ⟨hm, rfl, c, o2, o3, rfl, hc⟩
        refine ⟨[some v, some (.int c), some (.str y.kd), some y.wh], [some v, some (.int (c + y.cnt)), some (.str y.kd), some y.wh], g, by rw [enc_kd]; rfl, ?_, fun z hz => hm z (List.mem_cons_of_mem _ hz), rfl, c + y.cnt, _, _, rfl, ?_⟩
        · apply s_asg
          · mleft
          show evSs _ _ [some v, some (.int (c + 1)), some (.str y.kd), some y.wh] g = _
          have hy0 := hd y (hm y (by simp))
          cases y with
          | pr zs =>
            simp only [It.dep] at hy0
            have e31 := ih zs (deps_mem (n := n) (by omega)) d (.tup (zs.map It.enc)) [] g (src_tupI _ _ _) rfl
            refine s_yes (R := .nx [some v, some (.int (c + (It.pr zs).cnt)), some (.str kPROC), some (.tup (zs.map It.enc))] g) (h1 := g) (by mleave) ?_
            rw [s_asg (v := .int (c + (It.pr zs).cnt)) (h1 := g) (R := .nx [some v, some (.int (c + (It.pr zs).cnt)), some (.str kPROC), some (.tup (zs.map It.enc))] g) ?_ (by rw [r_snil]; rfl), at_nx, r_snil]
            show evE _ _ [some v, some (.int (c + 1)), some (.str kPROC), some (.tup (zs.map It.enc))] g = _
            apply ev_to
            · mleft
            · simp only [It.cnt]
              congr 2
              omega
          | _ =>
            refine s_no (h1 := g) (by mleave) ?_
            rw [r_snil]
            rfl
        · rw [← hc]
          simp only [It.cnts]
          omega) xs [some v, some (.int 0), none, none] h ⟨fun _ z => z, rfl, 0, _, _, rfl, by omega⟩
    obtain ⟨e2, h2, k1, -, rfl, c, o2, o3, rfl, hc⟩ := key
    refine s_for (xs := xs.map It.enc) (st := st) (vs := [v]) (h1 := h2) (by mleft) hs k1 ?_
    simp only [It.cnts] at hc
    have hc : c = It.cnts xs := by omega
    rw [← hc]
    apply s_ret
    mleft

end MP
end

section
set_option Elab.async false
set_option linter.all false
set_option maxRecDepth 10000
set_option maxHeartbeats 1000000
namespace MP
/- the tactics of these texts: mleft reckons an expression, mframe one operator, mright a side condition, mexfalso a call -/
local macro_rules | `(tactic| massumption) => `(tactic| first
  | with_reducible assumption
  | exact bz_60 (by omega)
  | (with_reducible apply bz_abs
     massumption)
  | (with_reducible apply bz_neg
     massumption)
  | ((with_reducible apply bz_mul) <;> massumption)
  | ((with_reducible apply bz_add) <;> massumption)
  | ((with_reducible apply bz_sub) <;> massumption))
local macro_rules | `(tactic| mright) => `(tactic| first
  | with_reducible assumption
  | exact rfl
  | exact Ext.refl _
  | (apply Ext.app
     mright)
  | (apply bz_small
     · massumption
     · decide)
  | omega
  | (rw [LINE_eq]; omega)
  | exact listAt_new
  | (simp only [List.length_append, List.length_cons, List.length_nil, List.length_map, List.length_range, LINE_eq]; omega)
  | (apply listAt_app
     mright)
  | (apply lo_clo
     mright)
  | (apply pls_map
     intro _ _
     exact rfl))
local macro_rules | `(tactic| mframe) => `(tactic| first
  | ((with_reducible apply c_ne_self); mright)
  | ((with_reducible apply c_eq_self); mright)
  | with_reducible exact add_int _ _ _
  | with_reducible exact sub_int _ _ _
  | ((with_reducible apply mul_int) <;> mright)
  | ((with_reducible apply fdiv_int) <;> mright)
  | ((with_reducible apply mod_int) <;> mright)
  | ((with_reducible apply add_str) <;> mright)
  | with_reducible exact lt_int _ _ _
  | with_reducible exact le_int _ _ _
  | with_reducible exact gt_int _ _ _
  | with_reducible exact ge_int _ _ _
  | with_reducible exact eq_int _ _ _
  | with_reducible exact ne_int _ _ _
  | with_reducible exact eq_str _ _ _
  | with_reducible exact ne_str _ _ _
  | with_reducible exact is_non _ _
  | with_reducible exact isnot_non _ _
  | with_reducible exact is_bl _ _ _
  | with_reducible exact isnot_bl _ _ _
  | with_reducible exact ix_0 _ _ _
  | with_reducible exact ix_1 _ _ _ _
  | with_reducible exact ix_2 _ _ _ _ _
  | with_reducible exact ix_3 _ _ _ _ _ _
  | with_reducible exact bi_len_tup _ _
  | ((with_reducible apply bi_len_s); mright)
  | ((with_reducible apply bi_len_ref); mright)
  | with_reducible exact bi_abs _ _
  | with_reducible exact bi_tuple_tup
  | ((with_reducible apply bi_tuple_ref); mright)
  | with_reducible exact bi_list_tup
  | ((with_reducible apply bi_list_ref); mright)
  | with_reducible exact bi_int_bl
  | with_reducible exact bi_int_int
  | with_reducible exact bi_isint_non _
  | with_reducible exact bi_isint_bl _ _
  | with_reducible exact bi_isint_int _ _
  | with_reducible exact bi_isint_str _ _
  | with_reducible exact bi_isint_tup _ _
  | with_reducible exact bi_isbool_non _
  | with_reducible exact bi_isbool_bl _ _
  | with_reducible exact bi_isbool_int _ _
  | with_reducible exact bi_isbool_str _ _
  | with_reducible exact bi_isbool_tup _ _
  | with_reducible exact bi_isstr_non _
  | with_reducible exact bi_isstr_bl _ _
  | with_reducible exact bi_isstr_int _ _
  | with_reducible exact bi_isstr_str _ _
  | with_reducible exact bi_isstr_tup _ _
  | with_reducible exact bi_istuple_non _
  | with_reducible exact bi_istuple_bl _ _
  | with_reducible exact bi_istuple_int _ _
  | with_reducible exact bi_istuple_str _ _
  | with_reducible exact bi_istuple_tup _ _
  | with_reducible exact bi_islist_non _
  | with_reducible exact bi_islist_bl _ _
  | with_reducible exact bi_islist_int _ _
  | with_reducible exact bi_islist_str _ _
  | with_reducible exact bi_islist_tup _ _
  | with_reducible exact bi_isdict_non _
  | with_reducible exact bi_isdict_bl _ _
  | with_reducible exact bi_isdict_int _ _
  | with_reducible exact bi_isdict_str _ _
  | with_reducible exact bi_isdict_tup _ _
  | (with_reducible apply bi_str_s
     · massumption
     · decide)
  | ((with_reducible apply bi_all_map); mright)
  | ((with_reducible apply bi_any_map); mright)
  | with_reducible exact in_str _ _ _
  | ((with_reducible apply c_eq_nil) <;> mright)
  | ((with_reducible apply c_ne_nil) <;> mright)
  | ((with_reducible apply count_s); mright)
  | ((with_reducible apply index_s) <;> mright)
  | ((with_reducible apply mul_s) <;> mright)
  | with_reducible exact notin_str _ _ _
  | with_reducible exact bi_max _ _ _
  | with_reducible exact bi_min _ _ _)
local macro_rules | `(tactic| mframe) => `(tactic| first
  | with_reducible exact ix_enc0 _ _
  | with_reducible exact ix_enc1 _ _
  | with_reducible exact ix_encM0 _ _
  | with_reducible exact ix_encM1 _ _
  | with_reducible exact ix_encM2 _ _
  | with_reducible exact ix_encM3 _ _
  | with_reducible exact slc_t4 _ _ _ _ _ _ _
  | with_reducible exact add_t42 _ _ _ _ _ _ _
  | with_reducible exact add_t22 _ _ _ _ _
  | with_reducible exact ne_bl _ _ _
  | with_reducible exact pow18 _
  | ((with_reducible apply bi_int_s) <;> mright)
  | ((with_reducible apply slc_to1); mright)
  | ((with_reducible apply slc_from1); mright)
  | ((with_reducible apply bi_tuple_ref); mright)
  | (with_reducible apply ix_lst
     · mright
     · decide
     · exact rfl))
local macro_rules | `(tactic| mconstructor) => `(tactic| first
  | (apply bind_pos <;> exact rfl)
  | (apply bind_kw1 <;> exact rfl)
  | (apply bind_dfl <;> exact rfl))
local macro_rules | `(tactic| mexfalso) => `(tactic| with_reducible assumption)
local macro_rules | `(tactic| mpure_intro) => `(tactic| first
  | with_reducible exact src_str _ _
  | (with_reducible apply src_range1
     omega)
  | with_reducible exact src_tup _ _)
local macro_rules | `(tactic| mleft) => `(tactic| first
  | with_reducible assumption
  | with_reducible exact e_lit
  | ((with_reducible apply e_var); exact rfl)
  | (with_reducible apply e_glob
     first | with_reducible assumption | exact g1 | exact rfl)
  | with_reducible exact e_nil
  | (with_reducible apply e_cons
     · mleft
     · mleft)
  | ((with_reducible apply e_tup); mleft)
  | ((with_reducible apply e_lst); mleft)
  | (with_reducible apply e_bin
     · mleft
     · mleft
     · mframe)
  | ((with_reducible apply e_neg); mleft)
  | ((with_reducible apply e_not); mleft)
  | (with_reducible apply e_cmp
     · mleft
     · mleft
     · mframe
     · mright)
  | (with_reducible apply e_andK
     · mleft
     · first
       | exact andk_f
       | (apply andk_t; mleft)
       | (apply andk_g; intro _; mleft))
  | (with_reducible apply e_orK
     · mleft
     · first
       | exact ork_t
       | (apply ork_f; mleft)
       | (apply ork_g; intro _; mleft))
  | (with_reducible apply e_iteK
     · mleft
     · first
       | (apply itek_t; mleft)
       | (apply itek_f; mleft)
       | (apply itek_g
          · intro _
            mleft
          · intro _
            mleft))
  | (with_reducible apply e_idx
     · mleft
     · mleft
     · mframe
     · first
       | exact gc_same _ _
       | (apply gc_lo <;> mright))
  | (with_reducible apply e_callD
     · mleft
     · mleft
     · exact rfl
     · mconstructor
     · mexfalso
     · first
       | exact gc_same _ _
       | (apply gc_lo <;> mright)
       | exact gc_new _ _)
  | (with_reducible apply e_callb
     · mleft
     · mframe
     · first
       | exact gc_same _ _
       | (apply gc_lo <;> mright)
       | exact gc_new _ _)
  | (with_reducible apply e_chain
     · mleft
     · mleft
     · mframe
     · intro _
       mleft
     · intro _
       mframe)
  | (with_reducible apply e_mapf
     · mleft
     · mpure_intro
     · exact rfl
     · mright
     · intro _ _ _
       mleft)
  | (with_reducible apply e_compf
     · mleft
     · mpure_intro
     · exact rfl
     · mright
     · intro _ _ _
       mleft
     · intro _ _ _ _
       mleft)
  | (with_reducible apply e_slc
     · mleft
     · mleft
     · exact rfl
     · mleft
     · exact rfl
     · mframe)
  | (with_reducible apply e_bmeth
     · mleft
     · exact rfl
     · mleft
     · mframe
     · first
       | exact gc_same _ _
       | (apply gc_lo <;> mright)
       | exact gc_new _ _)
  | (with_reducible apply e_xis
     · exact rfl
     · exact rfl
     · exact rfl))
/- mpure: a call that raises -/
local macro_rules | `(tactic| mstart) => `(tactic| (
  apply e_callDx
  · mleft
  · mleft
  · exact rfl
  · mconstructor
  · mexfalso))
/- mleave: to a value that is told -/
local macro_rules | `(tactic| mleave) => `(tactic| (
  apply ev_to
  · mleft
  · first | exact rfl | (congr 2; done) | simp))
local macro_rules | `(tactic| mframe) => `(tactic| first
  | with_reducible exact slc_tfrom _ _
  | with_reducible exact slc_tto _ _
  | with_reducible exact lzip_tup _ _
  | with_reducible exact ix_pt0 _ _
  | with_reducible exact ix_pt1 _ _
  | with_reducible exact ix_rp0 _ _ _
  | with_reducible exact ix_rp1 _ _ _
  | with_reducible exact ix_rpp0 _ _
  | with_reducible exact ix_rpp1 _ _
  | with_reducible exact ix_rp20 _ _
  | with_reducible exact ix_rp21 _ _
  | fail)
/- one more row of these: an environment written out, an assignment, a choice that is not taken -/
local macro_rules | `(tactic| array_get_dec) => `(tactic| first
  | with_reducible exact set_0
  | (with_reducible apply set_s
     array_get_dec)
  | with_reducible exact wipe_nil
  | (with_reducible apply wipe_cons
     focus array_get_dec
     focus array_get_dec))
local macro_rules | `(tactic| mstop) => `(tactic| first
  | (apply s_asgS
     focus mleft
     focus array_get_dec)
  | (apply s_asgS2
     focus mleft
     focus array_get_dec
     focus array_get_dec)
  | (apply s_asgS3
     focus mleft
     focus array_get_dec
     focus array_get_dec
     focus array_get_dec))
local macro_rules | `(tactic| exists $t) => `(tactic| (
  apply s_noV
  focus mleft
  focus exact $t))
local macro_rules | `(tactic| mexfalso) => `(tactic| first
  | with_reducible assumption
  | (with_reducible apply draw
     · first | assumption | (apply Scr.app; assumption)
     · omega
     · omega
     · omega))
local macro_rules | `(tactic| mframe) => `(tactic| with_reducible assumption)
local macro_rules | `(tactic| mframe) => `(tactic| with_reducible exact in_t2 _ _ _ _)
/-! ### drawn items -/
def kindsL : List (List Nat) := [kNUM, kDO, kNAME, kTEXT, kNUM, kDO, kPROC, kDO]
def textsL : List (List Nat) := [[], [97, 98], [97, 32, 98], [35, 53], [120, 123, 121, 125], [47], [91, 32, 49]]
def wordsL : List (List Nat) := [[100, 117, 112], [97, 100, 100], [120], [97, 45, 49], [100, 101, 102], [91], [93], [101, 120, 101, 99], [112, 97, 103, 101, 115, 50], [122, 45]]
theorem ix_strs {h : Heap} {a : Nat} {ss : List (List Nat)} {i : Int} (ha : listAt h a = some (ss.map V.str)) (h0 : 0 ≤ i) (h1 : i < ss.length) : idxV h (.ref a) (.int i) = some (.str (ss.getD i.toNat [])) := by
  have hk : i.toNat < ss.length := by omega
  refine ix_lst ha h0 ?_
  rw [List.getElem?_map, List.getElem?_eq_getElem hk]
  simp [List.getD, List.getElem?_eq_getElem hk]
theorem getD_str {ss : List (List Nat)} {i : Int} (h0 : 0 ≤ i) (h1 : i < ss.length) : ss.getD i.toNat [] ∈ ss := by
  have hk : i.toNat < ss.length := by omega
  simp [List.getD, List.getElem?_eq_getElem hk]
def kindD (ns : List Int) (k : Int) : List Nat := kindsL.getD (drawn ns k 8).toNat []
def textD (ns : List Int) (k : Int) : List Nat := textsL.getD (drawn ns k 7).toNat []
def wordD (ns : List Int) (k : Int) : List Nat := wordsL.getD (drawn ns k 10).toNat []
def leafOf (ns : List Int) (k : Int) (kd : List Nat) : It :=
  if kd = kNUM then .num (numD ns (k + 2)) else if kd = kTEXT then .tx (textD ns (k + 3))
  else if kd ≠ kNAME ∨ wordD ns (k + 4) = [91] ∨ wordD ns (k + 4) = [93] then .dw (wordD ns (k + 4)) else .nm (wordD ns (k + 4))
def itD (ns : List Int) : Nat → Int → It
  | 0, k => leafOf ns k (kindD ns k)
  | n + 1, k => if kindD ns k = kPROC then .pr ((List.range (drawn ns (k + 1) 4).toNat).map fun j : Nat => itD ns n (k + 7 + 9 * (j : Int))) else leafOf ns k (kindD ns k)
theorem wordD_in (ns : List Int) (k : Int) : wordD ns k ∈ wordsL := getD_str (drawn_rng ns k 10 (by decide)).1 (drawn_rng ns k 10 (by decide)).2
theorem textD_in (ns : List Int) (k : Int) : textD ns k ∈ textsL := getD_str (drawn_rng ns k 7 (by decide)).1 (drawn_rng ns k 7 (by decide)).2
theorem numD_fits (ns : List Int) (k : Int) : fits (numD ns k) = true := by
  have h := numD_ht ns k
  exact fits_of (Nat.lt_of_le_of_lt h.num (by decide)) (Nat.lt_of_le_of_lt h.den (by decide))
theorem leaf_ok (ns : List Int) (k : Int) (kd : List Nat) : (leafOf ns k kd).okB = true ∧ (leafOf ns k kd).dep = 0 ∧ (leafOf ns k kd).txt.length ≤ 24 := by
  have w1 : ∀ w ∈ wordsL, (nameB w || decide (w = [91] ∨ w = [93])) = true ∧ w.length ≤ 20 := by decide +kernel
  have t1 : ∀ w ∈ textsL, textB w = true ∧ w.length ≤ 20 := by decide +kernel
  obtain ⟨w2, w3⟩ := w1 _ (wordD_in ns (k + 4))
  obtain ⟨t2, t3⟩ := t1 _ (textD_in ns (k + 3))
  unfold leafOf
  split
  · refine ⟨numD_fits _ _, rfl, ?_⟩
    have h := numD_ht ns (k + 2)
    have l1 := strI_len (i := (numD ns (k + 2)).num) (k := 3) (by decide) (Nat.lt_of_le_of_lt h.num (by decide))
    have l2 := strI_len (i := ((numD ns (k + 2)).den : Int)) (k := 1) (by decide) (by have := h.den; simpa using Nat.lt_of_le_of_lt this (by decide))
    simp only [It.txt]
    unfold txt
    split
    · omega
    · simp; omega
  · split
    · exact ⟨t2, rfl, by simp only [It.txt, List.length_append, List.length_cons, List.length_nil]; omega⟩
    · split
      · exact ⟨w2, rfl, by simp only [It.txt]; omega⟩
      · rename_i hn
        refine ⟨?_, rfl, by simp only [It.txt, List.length_cons]; omega⟩
        have hn2 : ¬ (wordD ns (k + 4) = [91] ∨ wordD ns (k + 4) = [93]) := fun z => hn (.inr z)
        rw [decide_eq_false hn2, Bool.or_false] at w2
        exact w2
theorem oksB_of : ∀ {xs : List It}, (∀ x ∈ xs, x.okB = true) → It.oksB xs = true
  | [], _ => rfl
  | x :: xs, h => by
    simp only [It.oksB, h x (by simp), oksB_of fun y hy => h y (List.mem_cons_of_mem _ hy), Bool.and_self]
theorem deps_of : ∀ {xs : List It} {n : Nat}, (∀ x ∈ xs, x.dep ≤ n) → It.deps xs ≤ n
  | [], _, _ => by simp [It.deps]
  | x :: xs, n, h => by
    have h1 := h x (by simp)
    have h2 := deps_of (xs := xs) (n := n) fun y hy => h y (List.mem_cons_of_mem _ hy)
    simp only [It.deps]
    omega
theorem sum_le {l : List Nat} {m : Nat} (h : ∀ a ∈ l, a ≤ m) : l.sum ≤ l.length * m := by
  induction l with
  | nil => simp
  | cons a l ih =>
    have h1 := h a (by simp)
    have h2 := ih fun b hb => h b (List.mem_cons_of_mem _ hb)
    rw [List.sum_cons, List.length_cons, Nat.succ_mul]
    omega
theorem rowW_le {xs : List It} {m : Nat} (h : ∀ x ∈ xs, x.txt.length ≤ m) : (rowW xs).length ≤ xs.length * (m + 1) := by
  unfold rowW
  by_cases hx : xs = []
  · subst hx; simp [joinS]
  · have := joinS_len [32] (xs.map It.txt) (by simpa using hx)
    simp only [List.length_map, List.length_cons, List.length_nil, Nat.zero_add, Nat.mul_one] at this
    have h2 := sum_le (l := (xs.map It.txt).map fun s : List Nat => s.length) (m := m) (by
      intro a ha
      obtain ⟨s, hs, rfl⟩ := List.mem_map.mp ha
      obtain ⟨x, hx, rfl⟩ := List.mem_map.mp hs
      exact h x hx)
    simp only [List.length_map] at h2
    rw [Nat.mul_add]
    omega
theorem pr_le {xs : List It} {m : Nat} (h : ∀ x ∈ xs, x.txt.length ≤ m) : (It.pr xs).txt.length ≤ xs.length * (m + 1) + 4 := by
  have := joinS_len [32] ([[123]] ++ xs.map It.txt ++ [[125]]) (by simp)
  have e2 : ([[123]] ++ xs.map It.txt ++ [[125]]).length = xs.length + 2 := by simp
  have e3 : (([[123]] ++ xs.map It.txt ++ [[125]]).map fun s : List Nat => s.length).sum = ((xs.map It.txt).map fun s : List Nat => s.length).sum + 2 := by simp; omega
  rw [e2, e3] at this
  simp only [List.length_cons, List.length_nil, Nat.zero_add, Nat.mul_one] at this
  have h2 := sum_le (l := (xs.map It.txt).map fun s : List Nat => s.length) (m := m) (by
    intro a ha
    obtain ⟨s, hs, rfl⟩ := List.mem_map.mp ha
    obtain ⟨x, hx, rfl⟩ := List.mem_map.mp hs
    exact h x hx)
  simp only [List.length_map] at h2
  simp only [It.txt, txts_map]
  rw [Nat.mul_add]
  omega
theorem itD_ok (ns : List Int) : ∀ (n : Nat) (k : Int), (itD ns n k).okB = true ∧ (itD ns n k).dep ≤ n ∧ (itD ns n k).txt.length ≤ 24 * 5 ^ n
  | 0, k => by
    obtain ⟨a, b, c⟩ := leaf_ok ns k (kindD ns k)
    exact ⟨a, by rw [itD, b]; omega, by rw [itD]; simpa using c⟩
  | n + 1, k => by
    have h5 : 1 ≤ 5 ^ n := Nat.one_le_pow _ _ (by decide)
    rw [itD]
    split
    · obtain ⟨d1, d2⟩ := drawn_rng ns (k + 1) 4 (by decide)
      have ih := itD_ok ns n
      have all : ∀ x ∈ (List.range (drawn ns (k + 1) 4).toNat).map fun j : Nat => itD ns n (k + 7 + 9 * (j : Int)), x.okB = true ∧ x.dep ≤ n ∧ x.txt.length ≤ 24 * 5 ^ n := by
        intro x hx
        obtain ⟨j, _, rfl⟩ := List.mem_map.mp hx
        exact ih _
      refine ⟨by simp only [It.okB]; exact oksB_of fun x hx => (all x hx).1, ?_, ?_⟩
      · have := deps_of (n := n) fun x hx => (all x hx).2.1
        simp only [It.dep]
        omega
      · have := pr_le fun x hx => (all x hx).2.2
        rw [List.length_map, List.length_range] at this
        have h3 : (drawn ns (k + 1) 4).toNat ≤ 3 := by omega
        have h4 := Nat.mul_le_mul h3 (Nat.le_refl (24 * 5 ^ n + 1))
        rw [Nat.pow_succ]
        omega
    · obtain ⟨a, b, c⟩ := leaf_ok ns k (kindD ns k)
      exact ⟨a, by rw [b]; omega, by rw [Nat.pow_succ]; omega⟩
theorem clos_map {α : Type} {f : α → V} : ∀ l : List α, (∀ x, (f x).clo = true) → V.clos (l.map f) = true
  | [], _ => rfl
  | x :: l, h => by simp only [List.map_cons, V.clos, h x, clos_map l h, Bool.and_self]
mutual
theorem It.enc_clo : ∀ x : It, x.enc.clo = true
  | .num r => by simp only [It.enc]; rfl
  | .dw w => rfl
  | .nm w => rfl
  | .tx w => rfl
  | .pr xs => by
    have := It.encs_clo xs
    simp only [It.enc, V.clo, V.clos, this, Bool.and_self]
theorem It.encs_clo : ∀ xs : List It, V.clos (It.encs xs) = true
  | [] => rfl
  | x :: xs => by simp only [It.encs, V.clos, It.enc_clo x, It.encs_clo xs, Bool.and_self]
end
theorem itD_clo (ns : List Int) (n : Nat) (k : Int) : (itD ns n k).enc.clo = true := It.enc_clo _
theorem c29_rest (d : Nat) (ns : List Int) (k deep : Int) (kd : List Nat) (h : Heap) (sc : Scr ns h) (hk : 0 ≤ k) (hk2 : k < 2 ^ 29) : ∃ l, evSs (Cd (d + 3)) (B29.drop 2) [some (.ref 0), some (.int k), some (.int deep), some (.str kd), none, none, none, none] h = .ret (leafOf ns k kd).enc (h ++ l) := by
  unfold leafOf
  by_cases c1 : kd = kNUM
  · subst c1
    rw [if_pos rfl]
    refine ⟨[], ?_⟩
    rw [List.append_nil]
    have e26 := c26 d ns (k + 2) h sc (by omega) (by omega)
    refine s_yes_ret (h1 := h) (by mleave) (s_ret ?_)
    apply ev_to
    · mleft
    · rfl
  rw [if_neg c1]
  by_cases c2 : kd = kTEXT
  · subst c2
    rw [if_pos rfl]
    refine ⟨[], ?_⟩
    rw [List.append_nil]
    obtain ⟨p1, p2⟩ := drawn_rng ns (k + 3) 7 (by decide)
    refine s_no (h1 := h) (by mleave) ?_
    refine s_yes_ret (h1 := h) (by mleave) (s_ret ?_)
    apply e_tup
    apply e_cons
    · mleft
    apply e_cons
    · apply e_idx
      · mleft
      · mleft
      · exact ix_strs (ss := textsL) listAt_new p1 p2
      · apply gc_lo <;> mright
    · mleft
  rw [if_neg c2]
  obtain ⟨p1, p2⟩ := drawn_rng ns (k + 4) 10 (by decide)
  refine ⟨[.lst (wordsL.map V.str)], ?_⟩
  refine s_no (h1 := h) ?_ ?_
  · apply ev_to
    · mleft
    · rw [decide_eq_false c1]
  refine s_no (h1 := h) ?_ ?_
  · apply ev_to
    · mleft
    · rw [decide_eq_false c2]
  refine s_asg (v := .ref h.length) (h1 := h ++ [.lst (wordsL.map V.str)]) ?_ ?_
  · apply ev_to
    · mleft
    · rfl
  refine s_asg (v := .str (wordD ns (k + 4))) (h1 := h ++ [.lst (wordsL.map V.str)]) ?_ ?_
  · apply e_idx
    · mleft
    · mleft
    · exact ix_strs (ss := wordsL) listAt_new p1 p2
    · exact gc_same _ _
  generalize wordD ns (k + 4) = w
  generalize h ++ [.lst (wordsL.map V.str)] = H
  apply s_ret
  show evE (Cd (d + 3)) _ [some (.ref 0), some (.int k), some (.int deep), some (.str kd), none, some (.ref h.length), some (.str w), none] H = _
  by_cases c3 : kd ≠ kNAME ∨ w = [91] ∨ w = [93]
  · rw [if_pos c3]
    apply e_ite_t
    · apply ev_to
      · mleft
      · congr 2
        rw [← decide_not, ← Bool.decide_or, decide_eq_true c3]
    · apply ev_to
      · mleft
      · rfl
  · rw [if_neg c3]
    have c4 : kd = kNAME := Classical.byContradiction fun z => c3 (.inl z)
    subst c4
    apply e_ite_f
    · apply ev_to
      · mleft
      · congr 2
        have c5 : ¬ (w = [91] ∨ w = [93]) := fun z => c3 (.inr z)
        rw [decide_eq_false c5]
    · apply ev_to
      · mleft
      · rfl
theorem c29 (ns : List Int) : ∀ (n : Nat) (d : Nat) (k : Int) (h : Heap), Scr ns h → 0 ≤ k → k + 100 * n < 2 ^ 29 → callD prog (d + n + 4) 29 [.ref 0, .int k, .int n] h = .ok (itD ns n k).enc h := by
  intro n
  induction n with
  | zero =>
    intro d k h sc hk hk2
    obtain ⟨p1, p2⟩ := drawn_rng ns k 8 (by decide)
    obtain ⟨l, hr⟩ := c29_rest d ns k 0 (kindD ns k) h sc hk (by omega)
    refine f_lo (F := D29) (l := l) rfl rfl ?_ ?_
    · refine s_asg (v := .str (kindD ns k)) (h1 := h) ?_ ?_
      · apply e_idx
        · mleft
        · mleft
        · exact ix_strs (ss := kindsL) listAt_new p1 p2
        · apply gc_lo <;> mright
      refine s_no (h1 := h) ?_ hr
      apply ev_to
      · mleft
      · simp
    · exact lo_clo _ _ (itD_clo ns 0 k)
  | succ n ih =>
    intro d k h sc hk hk2
    obtain ⟨p1, p2⟩ := drawn_rng ns k 8 (by decide)
    obtain ⟨q1, q2⟩ := drawn_rng ns (k + 1) 4 (by decide)
    have e0 : evE (Cd (d + n + 4)) (.idx (.lst [.lit (.str kNUM), .lit (.str kDO), .lit (.str kNAME), .lit (.str kTEXT), .lit (.str kNUM), .lit (.str kDO), .lit (.str kPROC), .lit (.str kDO)]) (.callf 11 [.var 0, .var 1, .lit (.int 8)] [] [])) [some (.ref 0), some (.int k), some (.int ((n + 1 : Nat) : Int)), none, none, none, none, none] h = .ok (.str (kindD ns k)) h := by
      apply e_idx
      · mleft
      · mleft
      · exact ix_strs (ss := kindsL) listAt_new p1 p2
      · apply gc_lo <;> mright
    by_cases c : kindD ns k = kPROC
    · refine f_ret (F := D29) rfl rfl ?_
      refine s_asg (v := .str (kindD ns k)) (h1 := h) e0 ?_
      rw [c]
      have e1 : itD ns (n + 1) k = .pr ((List.range (drawn ns (k + 1) 4).toNat).map fun j : Nat => itD ns n (k + 7 + 9 * (j : Int))) := by rw [itD, if_pos c]
      rw [e1, It.enc, encs_map, List.map_map]
      refine s_yes_ret (h1 := h) ?_ ?_
      · apply ev_to
        · mleft
        · rw [decide_eq_true (show (0 : Int) < ((n + 1 : Nat) : Int) by omega)]
      refine s_asg (v := .int (drawn ns (k + 1) 4)) (h1 := h) (by mleft) ?_
      have ec : evE (Cd (d + n + 4)) (.comp (.callf 29 [.var 0, .bin .add (.bin .add (.var 1) (.lit (.int 7))) (.bin .mul (.lit (.int 9)) (.var 7)), .bin .sub (.var 2) (.lit (.int 1))] [] []) (.nm 7) .range [.var 4] [] [7]) [some (.ref 0), some (.int k), some (.int ((n + 1 : Nat) : Int)), some (.str kPROC), some (.int (drawn ns (k + 1) 4)), none, none, none] h = .ok (.ref h.length) (h ++ [.lst ((List.range (drawn ns (k + 1) 4).toNat).map fun j : Nat => (itD ns n (k + 7 + 9 * (j : Int))).enc)]) := by
        refine e_mapS (f := fun j : Nat => V.int (j : Int)) (vs := [.int (drawn ns (k + 1) 4)]) (h1 := h) (by mleft) (src_range1 (by omega)) rfl (by rw [LINE_eq, List.length_range]; omega) (by array_get_dec) (fun _ => by array_get_dec) fun j hj l => ?_
        have hj := List.mem_range.mp hj
        have e29 := ih d (k + 7 + 9 * (j : Int)) (h ++ [.lst l]) (sc.app _) (by omega) (by omega)
        have en : ((n + 1 : Nat) : Int) - 1 = (n : Int) := by omega
        rw [← en] at e29
        have z9 : (9 : Int).natAbs < 2 ^ 60 := by decide
        have zj : ((j : Int)).natAbs < 2 ^ 60 := by omega
        mleft
      apply s_ret
      apply e_tup
      apply e_cons
      · mleft
      apply e_cons
      · apply e_callb
        · exact e_cons ec e_nil
        · exact bi_tuple_ref listAt_new
        · apply gc_lo
          · mright
          · apply lo_clo
            apply clos_map
            intro j
            exact itD_clo _ _ _
      · mleft
    · obtain ⟨l, hr⟩ := c29_rest (d + n + 1) ns k ((n + 1 : Nat) : Int) (kindD ns k) h sc hk (by omega)
      have e1 : itD ns (n + 1) k = leafOf ns k (kindD ns k) := by rw [itD, if_neg c]
      rw [e1]
      refine f_lo (F := D29) (l := l) rfl rfl ?_ ?_
      · refine s_asg (v := .str (kindD ns k)) (h1 := h) e0 ?_
        refine s_no (h1 := h) ?_ hr
        apply ev_to
        · mleft
        · rw [decide_eq_false c, Bool.false_and]
      · rw [← e1]
        exact lo_clo _ _ (itD_clo ns _ k)

end MP
end

section
set_option Elab.async false
set_option linter.all false
set_option maxRecDepth 10000
set_option maxHeartbeats 1000000
namespace MP
/- the tactics of these texts: mleft reckons an expression, mframe one operator, mright a side condition, mexfalso a call -/
local macro_rules | `(tactic| massumption) => `(tactic| first
  | with_reducible assumption
  | exact bz_60 (by omega)
  | (with_reducible apply bz_abs
     massumption)
  | (with_reducible apply bz_neg
     massumption)
  | ((with_reducible apply bz_mul) <;> massumption)
  | ((with_reducible apply bz_add) <;> massumption)
  | ((with_reducible apply bz_sub) <;> massumption))
local macro_rules | `(tactic| mright) => `(tactic| first
  | with_reducible assumption
  | exact rfl
  | exact Ext.refl _
  | (apply Ext.app
     mright)
  | (apply bz_small
     · massumption
     · decide)
  | omega
  | (rw [LINE_eq]; omega)
  | exact listAt_new
  | (simp only [List.length_append, List.length_cons, List.length_nil, List.length_map, List.length_range, LINE_eq]; omega)
  | (apply listAt_app
     mright)
  | (apply lo_clo
     mright)
  | (apply pls_map
     intro _ _
     exact rfl))
local macro_rules | `(tactic| mframe) => `(tactic| first
  | ((with_reducible apply c_ne_self); mright)
  | ((with_reducible apply c_eq_self); mright)
  | with_reducible exact add_int _ _ _
  | with_reducible exact sub_int _ _ _
  | ((with_reducible apply mul_int) <;> mright)
  | ((with_reducible apply fdiv_int) <;> mright)
  | ((with_reducible apply mod_int) <;> mright)
  | ((with_reducible apply add_str) <;> mright)
  | with_reducible exact lt_int _ _ _
  | with_reducible exact le_int _ _ _
  | with_reducible exact gt_int _ _ _
  | with_reducible exact ge_int _ _ _
  | with_reducible exact eq_int _ _ _
  | with_reducible exact ne_int _ _ _
  | with_reducible exact eq_str _ _ _
  | with_reducible exact ne_str _ _ _
  | with_reducible exact is_non _ _
  | with_reducible exact isnot_non _ _
  | with_reducible exact is_bl _ _ _
  | with_reducible exact isnot_bl _ _ _
  | with_reducible exact ix_0 _ _ _
  | with_reducible exact ix_1 _ _ _ _
  | with_reducible exact ix_2 _ _ _ _ _
  | with_reducible exact ix_3 _ _ _ _ _ _
  | with_reducible exact bi_len_tup _ _
  | ((with_reducible apply bi_len_s); mright)
  | ((with_reducible apply bi_len_ref); mright)
  | with_reducible exact bi_abs _ _
  | with_reducible exact bi_tuple_tup
  | ((with_reducible apply bi_tuple_ref); mright)
  | with_reducible exact bi_list_tup
  | ((with_reducible apply bi_list_ref); mright)
  | with_reducible exact bi_int_bl
  | with_reducible exact bi_int_int
  | with_reducible exact bi_isint_non _
  | with_reducible exact bi_isint_bl _ _
  | with_reducible exact bi_isint_int _ _
  | with_reducible exact bi_isint_str _ _
  | with_reducible exact bi_isint_tup _ _
  | with_reducible exact bi_isbool_non _
  | with_reducible exact bi_isbool_bl _ _
  | with_reducible exact bi_isbool_int _ _
  | with_reducible exact bi_isbool_str _ _
  | with_reducible exact bi_isbool_tup _ _
  | with_reducible exact bi_isstr_non _
  | with_reducible exact bi_isstr_bl _ _
  | with_reducible exact bi_isstr_int _ _
  | with_reducible exact bi_isstr_str _ _
  | with_reducible exact bi_isstr_tup _ _
  | with_reducible exact bi_istuple_non _
  | with_reducible exact bi_istuple_bl _ _
  | with_reducible exact bi_istuple_int _ _
  | with_reducible exact bi_istuple_str _ _
  | with_reducible exact bi_istuple_tup _ _
  | with_reducible exact bi_islist_non _
  | with_reducible exact bi_islist_bl _ _
  | with_reducible exact bi_islist_int _ _
  | with_reducible exact bi_islist_str _ _
  | with_reducible exact bi_islist_tup _ _
  | with_reducible exact bi_isdict_non _
  | with_reducible exact bi_isdict_bl _ _
  | with_reducible exact bi_isdict_int _ _
  | with_reducible exact bi_isdict_str _ _
  | with_reducible exact bi_isdict_tup _ _
  | (with_reducible apply bi_str_s
     · massumption
     · decide)
  | ((with_reducible apply bi_all_map); mright)
  | ((with_reducible apply bi_any_map); mright)
  | with_reducible exact in_str _ _ _
  | ((with_reducible apply c_eq_nil) <;> mright)
  | ((with_reducible apply c_ne_nil) <;> mright)
  | ((with_reducible apply count_s); mright)
  | ((with_reducible apply index_s) <;> mright)
  | ((with_reducible apply mul_s) <;> mright)
  | with_reducible exact notin_str _ _ _
  | with_reducible exact bi_max _ _ _
  | with_reducible exact bi_min _ _ _)
local macro_rules | `(tactic| mframe) => `(tactic| first
  | with_reducible exact ix_enc0 _ _
  | with_reducible exact ix_enc1 _ _
  | with_reducible exact ix_encM0 _ _
  | with_reducible exact ix_encM1 _ _
  | with_reducible exact ix_encM2 _ _
  | with_reducible exact ix_encM3 _ _
  | with_reducible exact slc_t4 _ _ _ _ _ _ _
  | with_reducible exact add_t42 _ _ _ _ _ _ _
  | with_reducible exact add_t22 _ _ _ _ _
  | with_reducible exact ne_bl _ _ _
  | with_reducible exact pow18 _
  | ((with_reducible apply bi_int_s) <;> mright)
  | ((with_reducible apply slc_to1); mright)
  | ((with_reducible apply slc_from1); mright)
  | ((with_reducible apply bi_tuple_ref); mright)
  | (with_reducible apply ix_lst
     · mright
     · decide
     · exact rfl))
local macro_rules | `(tactic| mconstructor) => `(tactic| first
  | (apply bind_pos <;> exact rfl)
  | (apply bind_kw1 <;> exact rfl)
  | (apply bind_dfl <;> exact rfl))
local macro_rules | `(tactic| mexfalso) => `(tactic| with_reducible assumption)
local macro_rules | `(tactic| mpure_intro) => `(tactic| first
  | with_reducible exact src_str _ _
  | (with_reducible apply src_range1
     omega)
  | with_reducible exact src_tup _ _)
local macro_rules | `(tactic| mleft) => `(tactic| first
  | with_reducible assumption
  | with_reducible exact e_lit
  | ((with_reducible apply e_var); exact rfl)
  | (with_reducible apply e_glob
     first | with_reducible assumption | exact g1 | exact rfl)
  | with_reducible exact e_nil
  | (with_reducible apply e_cons
     · mleft
     · mleft)
  | ((with_reducible apply e_tup); mleft)
  | ((with_reducible apply e_lst); mleft)
  | (with_reducible apply e_bin
     · mleft
     · mleft
     · mframe)
  | ((with_reducible apply e_neg); mleft)
  | ((with_reducible apply e_not); mleft)
  | (with_reducible apply e_cmp
     · mleft
     · mleft
     · mframe
     · mright)
  | (with_reducible apply e_andK
     · mleft
     · first
       | exact andk_f
       | (apply andk_t; mleft)
       | (apply andk_g; intro _; mleft))
  | (with_reducible apply e_orK
     · mleft
     · first
       | exact ork_t
       | (apply ork_f; mleft)
       | (apply ork_g; intro _; mleft))
  | (with_reducible apply e_iteK
     · mleft
     · first
       | (apply itek_t; mleft)
       | (apply itek_f; mleft)
       | (apply itek_g
          · intro _
            mleft
          · intro _
            mleft))
  | (with_reducible apply e_idx
     · mleft
     · mleft
     · mframe
     · first
       | exact gc_same _ _
       | (apply gc_lo <;> mright))
  | (with_reducible apply e_callD
     · mleft
     · mleft
     · exact rfl
     · mconstructor
     · mexfalso
     · first
       | exact gc_same _ _
       | (apply gc_lo <;> mright)
       | exact gc_new _ _)
  | (with_reducible apply e_callb
     · mleft
     · mframe
     · first
       | exact gc_same _ _
       | (apply gc_lo <;> mright)
       | exact gc_new _ _)
  | (with_reducible apply e_chain
     · mleft
     · mleft
     · mframe
     · intro _
       mleft
     · intro _
       mframe)
  | (with_reducible apply e_mapf
     · mleft
     · mpure_intro
     · exact rfl
     · mright
     · intro _ _ _
       mleft)
  | (with_reducible apply e_compf
     · mleft
     · mpure_intro
     · exact rfl
     · mright
     · intro _ _ _
       mleft
     · intro _ _ _ _
       mleft)
  | (with_reducible apply e_slc
     · mleft
     · mleft
     · exact rfl
     · mleft
     · exact rfl
     · mframe)
  | (with_reducible apply e_bmeth
     · mleft
     · exact rfl
     · mleft
     · mframe
     · first
       | exact gc_same _ _
       | (apply gc_lo <;> mright)
       | exact gc_new _ _)
  | (with_reducible apply e_xis
     · exact rfl
     · exact rfl
     · exact rfl))
/- mpure: a call that raises -/
local macro_rules | `(tactic| mstart) => `(tactic| (
  apply e_callDx
  · mleft
  · mleft
  · exact rfl
  · mconstructor
  · mexfalso))
/- mleave: to a value that is told -/
local macro_rules | `(tactic| mleave) => `(tactic| (
  apply ev_to
  · mleft
  · first | exact rfl | (congr 2; done) | simp))
local macro_rules | `(tactic| mframe) => `(tactic| first
  | with_reducible exact slc_tfrom _ _
  | with_reducible exact slc_tto _ _
  | with_reducible exact lzip_tup _ _
  | with_reducible exact ix_pt0 _ _
  | with_reducible exact ix_pt1 _ _
  | with_reducible exact ix_rp0 _ _ _
  | with_reducible exact ix_rp1 _ _ _
  | with_reducible exact ix_rpp0 _ _
  | with_reducible exact ix_rpp1 _ _
  | with_reducible exact ix_rp20 _ _
  | with_reducible exact ix_rp21 _ _
  | fail)
/- one more row of these: an environment written out, an assignment, a choice that is not taken -/
local macro_rules | `(tactic| array_get_dec) => `(tactic| first
  | with_reducible exact set_0
  | (with_reducible apply set_s
     array_get_dec)
  | with_reducible exact wipe_nil
  | (with_reducible apply wipe_cons
     focus array_get_dec
     focus array_get_dec))
local macro_rules | `(tactic| mstop) => `(tactic| first
  | (apply s_asgS
     focus mleft
     focus array_get_dec)
  | (apply s_asgS2
     focus mleft
     focus array_get_dec
     focus array_get_dec)
  | (apply s_asgS3
     focus mleft
     focus array_get_dec
     focus array_get_dec
     focus array_get_dec))
local macro_rules | `(tactic| exists $t) => `(tactic| (
  apply s_noV
  focus mleft
  focus exact $t))
/-! ### rows in the middle of a law, of known things alone; exceptions with fields -/
mutual
/-- rows that leave a name alone -/
def St.kp (j : Nat) : St → Bool
  | .asg (.nm (.nm i)) _ => decide (i ≠ j)
  | .iff _ a b => St.kps j a && St.kps j b
  | .expr _ => true
  | .ret _ => true
  | .pass => true
  | .raise _ _ => true
  | _ => false
def St.kps (j : Nat) : List St → Bool
  | [] => true
  | s :: r => St.kp j s && St.kps j r
end
theorem fl_nx {α : Type} {r : Res α} {env env1 : Env} {h1 : Heap} {k : α → Heap → Fl} (e : r.fl env k = .nx env1 h1) : ∃ v g, k v g = .nx env1 h1 := by
  cases r with
  | ok v g => exact ⟨v, g, e⟩
  | exc x g => cases e
  | stuck => cases e
mutual
theorem kp_ok {C : Ctx} {j : Nat} : ∀ (s : St) (env env1 : Env) (h h1 : Heap), s.kp j = true → evS C s env h = .nx env1 h1 → env1[j]? = env[j]?
  | .asg (.nm (.nm i)) m, env, env1, h, h1, q, e => by
    simp only [evS] at e
    obtain ⟨v, g, e⟩ := fl_nx e
    simp only [asgT, bindT] at e
    cases e
    simp only [St.kp, decide_eq_true_eq] at q
    rw [List.getElem?_set_ne q]
  | .iff c a b, env, env1, h, h1, q, e => by
    simp only [evS] at e
    obtain ⟨v, g, e⟩ := fl_nx e
    simp only [St.kp, Bool.and_eq_true] at q
    cases v with
    | true => exact kps_ok a env env1 g h1 q.1 (by simpa using e)
    | false => exact kps_ok b env env1 g h1 q.2 (by simpa using e)
  | .expr m, env, env1, h, h1, q, e => by
    simp only [evS] at e
    obtain ⟨v, g, e⟩ := fl_nx e
    cases e
    rfl
  | .ret m, env, env1, h, h1, q, e => by
    simp only [evS] at e
    obtain ⟨v, g, e⟩ := fl_nx e
    cases e
  | .pass, env, env1, h, h1, q, e => by
    simp only [evS] at e
    cases e
    rfl
  | .raise c es, env, env1, h, h1, q, e => by
    simp only [evS] at e
    obtain ⟨v, g, e⟩ := fl_nx e
    split at e
    · split at e
      · cases e
      · split at e <;> cases e
    · cases e
  | .asg (.nm (.tp _)) _, _, _, _, _, q, _ => by simp [St.kp] at q
  | .asg (.fld _ _) _, _, _, _, _, q, _ => by simp [St.kp] at q
  | .asg (.sub _ _) _, _, _, _, _, q, _ => by simp [St.kp] at q
  | .asg (.two _ _) _, _, _, _, _, q, _ => by simp [St.kp] at q
  | .augN _ _ _, _, _, _, _, q, _ => by simp [St.kp] at q
  | .augF _ _ _ _, _, _, _, _, q, _ => by simp [St.kp] at q
  | .whl _ _, _, _, _, _, q, _ => by simp [St.kp] at q
  | .forr _ _ _ _, _, _, _, _, q, _ => by simp [St.kp] at q
  | .brk, _, _, _, _, q, _ => by simp [St.kp] at q
  | .cont, _, _, _, _, q, _ => by simp [St.kp] at q
  | .tri _ _ _ _, _, _, _, _, q, _ => by simp [St.kp] at q
theorem kps_ok {C : Ctx} {j : Nat} : ∀ (ss : List St) (env env1 : Env) (h h1 : Heap), St.kps j ss = true → evSs C ss env h = .nx env1 h1 → env1[j]? = env[j]?
  | [], env, env1, h, h1, _, e => by
    simp only [evSs] at e
    cases e
    rfl
  | s :: r, env, env1, h, h1, q, e => by
    simp only [St.kps, Bool.and_eq_true] at q
    simp only [evSs] at e
    cases k : evS C s env h with
    | nx e2 h2 =>
      rw [k] at e
      rw [kps_ok r e2 env1 h2 h1 q.2 e, kp_ok s env e2 h h2 q.1 k]
    | ret _ _ => rw [k] at e; cases e
    | brk _ _ => rw [k] at e; cases e
    | ct _ _ => rw [k] at e; cases e
    | exc _ _ _ => rw [k] at e; cases e
    | stuck => rw [k] at e; cases e
end
def isNx (n : Nat) : Fl → Bool
  | .nx e _ => e.length == n
  | _ => false
/-- known rows in the middle: they go on, in any heap, and what they leave alone stays -/
theorem rows_nx {d n : Nat} {ss : List St} (hs : St.clos ss = true) (e : isNx n (evSs (Cd d) ss (List.replicate n none) []) = true) (env : Env) (hn : env.length = n) (h : Heap) :
    ∃ env1 l, evSs (Cd d) ss env h = .nx env1 (h ++ l) ∧ env1.length = n ∧ ∀ j, St.kps j ss = true → env1[j]? = env[j]? := by
  cases r : evSs (Cd d) ss (List.replicate n none) [] with
  | nx e1 h1 =>
    have k := up_evSs (p := h) (cle_D prog_clo d) ss hs (List.replicate n none) env [] (envL_none env hn)
    rw [r] at k
    obtain ⟨e', k1, k2⟩ := k
    have u0 : up h [] = h := by simp [up]
    rw [u0] at k1
    rw [r] at e
    have l1 : e1.length = n := beq_iff_eq.mp e
    refine ⟨e', h1.map (Obj.sh h.length), k1, ?_, fun j q => kps_ok _ _ _ _ _ q k1⟩
    rw [← k2.1, l1]
  | _ => rw [r] at e; cases e
theorem gcX_flat (h l : Heap) (x : XV) (hx : (x.fs.all fun p => p.2.lo h.length) = true) : gcX h x (h ++ l) = .exc x h := by
  simp [gcX, okPre_app, hx]
theorem f_excF {P : Prog} {d f : Nat} {F : FnD} {as : List V} {h : Heap} {x : XV} {env1 : Env} {l : Heap} (hf : P.fns f = some F) (hl : as.length = F.nparams) (hb : evSs ⟨P, callD P d, none⟩ F.body (startE F as) h = .exc x env1 (h ++ l)) (hx : (x.fs.all fun p => p.2.lo h.length) = true) : callD P (d + 1) f as h = .exc x h := by
  rw [callD_of hf hl, hb, finish_exc, gcX_flat _ _ _ hx]
theorem s_raise2 {C : Ctx} {env : Env} {h h1 : Heap} {r : List St} {k : Nat} {es : List Ex} {vs : List V} {K : ClsD} (he : evEs C es env h = .ok vs h1) (hK : C.P.cls k = some K) (hx : K.xfs.isEmpty = false) (hl : vs.length = K.xfs.length) (hf : vs.all flat = true) : evSs C (.raise k es :: r) env h = .exc ⟨k, K.xfs.zip vs⟩ env h1 := by
  rw [r_scons]
  simp only [evS]
  rw [he, fl_ok, hK]
  simp only [hx, Bool.false_eq_true, if_false, hl, hf, and_self, if_true]
  rfl
theorem f_newlist {P : Prog} {d f : Nat} {F : FnD} {as : List V} {h : Heap} {xs : List V} (hf : P.fns f = some F) (hl : as.length = F.nparams) (hb : evSs ⟨P, callD P d, none⟩ F.body (startE F as) h = .ret (.ref h.length) (h ++ [.lst xs])) (hx : V.los h.length xs = true) : callD P (d + 1) f as h = .ok (.ref h.length) (h ++ [.lst xs]) := by
  rw [callD_of hf hl, hb, finish_ret]
  exact fin_list ⟨_, rfl⟩ (by simp) (Nat.le_refl _) hx

end MP
end

section
set_option Elab.async false
set_option linter.all false
set_option maxRecDepth 10000
set_option maxHeartbeats 1000000
namespace MP
/- the tactics of these texts: mleft reckons an expression, mframe one operator, mright a side condition, mexfalso a call -/
local macro_rules | `(tactic| massumption) => `(tactic| first
  | with_reducible assumption
  | exact bz_60 (by omega)
  | (with_reducible apply bz_abs
     massumption)
  | (with_reducible apply bz_neg
     massumption)
  | ((with_reducible apply bz_mul) <;> massumption)
  | ((with_reducible apply bz_add) <;> massumption)
  | ((with_reducible apply bz_sub) <;> massumption))
local macro_rules | `(tactic| mright) => `(tactic| first
  | with_reducible assumption
  | exact rfl
  | exact Ext.refl _
  | (apply Ext.app
     mright)
  | (apply bz_small
     · massumption
     · decide)
  | omega
  | (rw [LINE_eq]; omega)
  | exact listAt_new
  | (simp only [List.length_append, List.length_cons, List.length_nil, List.length_map, List.length_range, LINE_eq]; omega)
  | (apply listAt_app
     mright)
  | (apply lo_clo
     mright)
  | (apply pls_map
     intro _ _
     exact rfl))
local macro_rules | `(tactic| mframe) => `(tactic| first
  | ((with_reducible apply c_ne_self); mright)
  | ((with_reducible apply c_eq_self); mright)
  | with_reducible exact add_int _ _ _
  | with_reducible exact sub_int _ _ _
  | ((with_reducible apply mul_int) <;> mright)
  | ((with_reducible apply fdiv_int) <;> mright)
  | ((with_reducible apply mod_int) <;> mright)
  | ((with_reducible apply add_str) <;> mright)
  | with_reducible exact lt_int _ _ _
  | with_reducible exact le_int _ _ _
  | with_reducible exact gt_int _ _ _
  | with_reducible exact ge_int _ _ _
  | with_reducible exact eq_int _ _ _
  | with_reducible exact ne_int _ _ _
  | with_reducible exact eq_str _ _ _
  | with_reducible exact ne_str _ _ _
  | with_reducible exact is_non _ _
  | with_reducible exact isnot_non _ _
  | with_reducible exact is_bl _ _ _
  | with_reducible exact isnot_bl _ _ _
  | with_reducible exact ix_0 _ _ _
  | with_reducible exact ix_1 _ _ _ _
  | with_reducible exact ix_2 _ _ _ _ _
  | with_reducible exact ix_3 _ _ _ _ _ _
  | with_reducible exact bi_len_tup _ _
  | ((with_reducible apply bi_len_s); mright)
  | ((with_reducible apply bi_len_ref); mright)
  | with_reducible exact bi_abs _ _
  | with_reducible exact bi_tuple_tup
  | ((with_reducible apply bi_tuple_ref); mright)
  | with_reducible exact bi_list_tup
  | ((with_reducible apply bi_list_ref); mright)
  | with_reducible exact bi_int_bl
  | with_reducible exact bi_int_int
  | with_reducible exact bi_isint_non _
  | with_reducible exact bi_isint_bl _ _
  | with_reducible exact bi_isint_int _ _
  | with_reducible exact bi_isint_str _ _
  | with_reducible exact bi_isint_tup _ _
  | with_reducible exact bi_isbool_non _
  | with_reducible exact bi_isbool_bl _ _
  | with_reducible exact bi_isbool_int _ _
  | with_reducible exact bi_isbool_str _ _
  | with_reducible exact bi_isbool_tup _ _
  | with_reducible exact bi_isstr_non _
  | with_reducible exact bi_isstr_bl _ _
  | with_reducible exact bi_isstr_int _ _
  | with_reducible exact bi_isstr_str _ _
  | with_reducible exact bi_isstr_tup _ _
  | with_reducible exact bi_istuple_non _
  | with_reducible exact bi_istuple_bl _ _
  | with_reducible exact bi_istuple_int _ _
  | with_reducible exact bi_istuple_str _ _
  | with_reducible exact bi_istuple_tup _ _
  | with_reducible exact bi_islist_non _
  | with_reducible exact bi_islist_bl _ _
  | with_reducible exact bi_islist_int _ _
  | with_reducible exact bi_islist_str _ _
  | with_reducible exact bi_islist_tup _ _
  | with_reducible exact bi_isdict_non _
  | with_reducible exact bi_isdict_bl _ _
  | with_reducible exact bi_isdict_int _ _
  | with_reducible exact bi_isdict_str _ _
  | with_reducible exact bi_isdict_tup _ _
  | (with_reducible apply bi_str_s
     · massumption
     · decide)
  | ((with_reducible apply bi_all_map); mright)
  | ((with_reducible apply bi_any_map); mright)
  | with_reducible exact in_str _ _ _
  | ((with_reducible apply c_eq_nil) <;> mright)
  | ((with_reducible apply c_ne_nil) <;> mright)
  | ((with_reducible apply count_s); mright)
  | ((with_reducible apply index_s) <;> mright)
  | ((with_reducible apply mul_s) <;> mright)
  | with_reducible exact notin_str _ _ _
  | with_reducible exact bi_max _ _ _
  | with_reducible exact bi_min _ _ _)
local macro_rules | `(tactic| mframe) => `(tactic| first
  | with_reducible exact ix_enc0 _ _
  | with_reducible exact ix_enc1 _ _
  | with_reducible exact ix_encM0 _ _
  | with_reducible exact ix_encM1 _ _
  | with_reducible exact ix_encM2 _ _
  | with_reducible exact ix_encM3 _ _
  | with_reducible exact slc_t4 _ _ _ _ _ _ _
  | with_reducible exact add_t42 _ _ _ _ _ _ _
  | with_reducible exact add_t22 _ _ _ _ _
  | with_reducible exact ne_bl _ _ _
  | with_reducible exact pow18 _
  | ((with_reducible apply bi_int_s) <;> mright)
  | ((with_reducible apply slc_to1); mright)
  | ((with_reducible apply slc_from1); mright)
  | ((with_reducible apply bi_tuple_ref); mright)
  | (with_reducible apply ix_lst
     · mright
     · decide
     · exact rfl))
local macro_rules | `(tactic| mconstructor) => `(tactic| first
  | (apply bind_pos <;> exact rfl)
  | (apply bind_kw1 <;> exact rfl)
  | (apply bind_dfl <;> exact rfl))
local macro_rules | `(tactic| mexfalso) => `(tactic| with_reducible assumption)
local macro_rules | `(tactic| mpure_intro) => `(tactic| first
  | with_reducible exact src_str _ _
  | (with_reducible apply src_range1
     omega)
  | with_reducible exact src_tup _ _)
local macro_rules | `(tactic| mleft) => `(tactic| first
  | with_reducible assumption
  | with_reducible exact e_lit
  | ((with_reducible apply e_var); exact rfl)
  | (with_reducible apply e_glob
     first | with_reducible assumption | exact g1 | exact rfl)
  | with_reducible exact e_nil
  | (with_reducible apply e_cons
     · mleft
     · mleft)
  | ((with_reducible apply e_tup); mleft)
  | ((with_reducible apply e_lst); mleft)
  | (with_reducible apply e_bin
     · mleft
     · mleft
     · mframe)
  | ((with_reducible apply e_neg); mleft)
  | ((with_reducible apply e_not); mleft)
  | (with_reducible apply e_cmp
     · mleft
     · mleft
     · mframe
     · mright)
  | (with_reducible apply e_andK
     · mleft
     · first
       | exact andk_f
       | (apply andk_t; mleft)
       | (apply andk_g; intro _; mleft))
  | (with_reducible apply e_orK
     · mleft
     · first
       | exact ork_t
       | (apply ork_f; mleft)
       | (apply ork_g; intro _; mleft))
  | (with_reducible apply e_iteK
     · mleft
     · first
       | (apply itek_t; mleft)
       | (apply itek_f; mleft)
       | (apply itek_g
          · intro _
            mleft
          · intro _
            mleft))
  | (with_reducible apply e_idx
     · mleft
     · mleft
     · mframe
     · first
       | exact gc_same _ _
       | (apply gc_lo <;> mright))
  | (with_reducible apply e_callD
     · mleft
     · mleft
     · exact rfl
     · mconstructor
     · mexfalso
     · first
       | exact gc_same _ _
       | (apply gc_lo <;> mright)
       | exact gc_new _ _)
  | (with_reducible apply e_callb
     · mleft
     · mframe
     · first
       | exact gc_same _ _
       | (apply gc_lo <;> mright)
       | exact gc_new _ _)
  | (with_reducible apply e_chain
     · mleft
     · mleft
     · mframe
     · intro _
       mleft
     · intro _
       mframe)
  | (with_reducible apply e_mapf
     · mleft
     · mpure_intro
     · exact rfl
     · mright
     · intro _ _ _
       mleft)
  | (with_reducible apply e_compf
     · mleft
     · mpure_intro
     · exact rfl
     · mright
     · intro _ _ _
       mleft
     · intro _ _ _ _
       mleft)
  | (with_reducible apply e_slc
     · mleft
     · mleft
     · exact rfl
     · mleft
     · exact rfl
     · mframe)
  | (with_reducible apply e_bmeth
     · mleft
     · exact rfl
     · mleft
     · mframe
     · first
       | exact gc_same _ _
       | (apply gc_lo <;> mright)
       | exact gc_new _ _)
  | (with_reducible apply e_xis
     · exact rfl
     · exact rfl
     · exact rfl))
/- mpure: a call that raises -/
local macro_rules | `(tactic| mstart) => `(tactic| (
  apply e_callDx
  · mleft
  · mleft
  · exact rfl
  · mconstructor
  · mexfalso))
/- mleave: to a value that is told -/
local macro_rules | `(tactic| mleave) => `(tactic| (
  apply ev_to
  · mleft
  · first | exact rfl | (congr 2; done) | simp))
local macro_rules | `(tactic| mframe) => `(tactic| first
  | with_reducible exact slc_tfrom _ _
  | with_reducible exact slc_tto _ _
  | with_reducible exact lzip_tup _ _
  | with_reducible exact ix_pt0 _ _
  | with_reducible exact ix_pt1 _ _
  | with_reducible exact ix_rp0 _ _ _
  | with_reducible exact ix_rp1 _ _ _
  | with_reducible exact ix_rpp0 _ _
  | with_reducible exact ix_rpp1 _ _
  | with_reducible exact ix_rp20 _ _
  | with_reducible exact ix_rp21 _ _
  | fail)
/- one more row of these: an environment written out, an assignment, a choice that is not taken -/
local macro_rules | `(tactic| array_get_dec) => `(tactic| first
  | with_reducible exact set_0
  | (with_reducible apply set_s
     array_get_dec)
  | with_reducible exact wipe_nil
  | (with_reducible apply wipe_cons
     focus array_get_dec
     focus array_get_dec))
local macro_rules | `(tactic| mstop) => `(tactic| first
  | (apply s_asgS
     focus mleft
     focus array_get_dec)
  | (apply s_asgS2
     focus mleft
     focus array_get_dec
     focus array_get_dec)
  | (apply s_asgS3
     focus mleft
     focus array_get_dec
     focus array_get_dec
     focus array_get_dec))
local macro_rules | `(tactic| exists $t) => `(tactic| (
  apply s_noV
  focus mleft
  focus exact $t))
local macro_rules | `(tactic| mexfalso) => `(tactic| first
  | with_reducible assumption
  | (with_reducible apply draw
     · first | assumption | (apply Scr.app; assumption)
     · omega
     · omega
     · omega))
local macro_rules | `(tactic| mframe) => `(tactic| with_reducible assumption)
def itemsD (ns : List Int) (k many : Int) (n : Nat) : List It := (List.range many.toNat).map fun j : Nat => itD ns n (k + 40 * (j : Int))
theorem c30 (ns : List Int) (n d : Nat) (k many : Int) (h : Heap) (sc : Scr ns h) (hk : 0 ≤ k) (hk2 : k < 2 ^ 20) (hn : n ≤ 10) (h0 : 0 ≤ many) (h1 : many ≤ 100) : callD prog (d + n + 5) 30 [.ref 0, .int k, .int many, .int n] h = .ok (.ref h.length) (h ++ [.lst ((itemsD ns k many n).map It.enc)]) := by
  refine f_newlist (F := D30) rfl rfl (s_ret ?_) (los_clo _ _ (clos_map _ It.enc_clo))
  show evE (Cd (d + n + 4)) _ [some (.ref 0), some (.int k), some (.int many), some (.int n), none] h = _
  unfold itemsD
  rw [List.map_map]
  refine e_mapS (f := fun j : Nat => V.int (j : Int)) (vs := [.int many]) (h1 := h) (by mleft) (src_range1 (by omega)) rfl (by rw [LINE_eq, List.length_range]; omega) (by array_get_dec) (fun _ => by array_get_dec) fun j hj l => ?_
  have hj := List.mem_range.mp hj
  have e29 := c29 ns n d (k + 40 * (j : Int)) (h ++ [.lst l]) (sc.app _) (by omega) (by omega)
  have z9 : (40 : Int).natAbs < 2 ^ 60 := by decide
  have zj : ((j : Int)).natAbs < 2 ^ 60 := by omega
  mleft
theorem itemsD_row (ns : List Int) (k many : Int) (n : Nat) (hn : n ≤ 3) (h1 : many ≤ 10) : Row n (itemsD ns k many n) := by
  have all : ∀ x ∈ itemsD ns k many n, x.okB = true ∧ x.dep ≤ n ∧ x.txt.length ≤ 24 * 5 ^ n := by
    intro x hx
    obtain ⟨j, _, rfl⟩ := List.mem_map.mp hx
    exact itD_ok ns n _
  refine ⟨fun x hx => (all x hx).2.1, fun x hx => (all x hx).1, ?_⟩
  have h2 := rowW_le fun x hx => (all x hx).2.2
  have h3 : (itemsD ns k many n).length ≤ 10 := by simp [itemsD]; omega
  have h4 : 5 ^ n ≤ 5 ^ 3 := Nat.pow_le_pow_right (by decide) hn
  have h5 := Nat.mul_le_mul h3 (show 24 * 5 ^ n + 1 ≤ 24 * 5 ^ 3 + 1 by omega)
  omega
abbrev NP : XV := ⟨4, [(18, .int 0), (19, .int 0)]⟩
theorem c24x (d : Nat) (v : V) (h : Heap) (hv : biV .islist [v] h = .ok (.bl false) h) : callD prog (d + 1) 24 [v] h = .exc NP h := by
  refine f_excF (F := D24) (l := []) (env1 := [some v, none]) rfl rfl ?_ rfl
  rw [List.append_nil]
  show evSs (Cd d) _ [some v, none] h = _
  refine s_exc (h1 := h) (c := _) ?_ ?_
  · apply e_or_t (h1 := h)
    mleave
  · exact s_raise2 (vs := [.int 0, .int 0]) (K := K4) (by mleft) rfl rfl rfl rfl
theorem c15x (d : Nat) (v : V) (h : Heap) (hv : callD prog d 24 [v] h = .exc NP h) : callD prog (d + 1) 15 [v] h = .ok (.tup [.int 0, .int 0]) h := by
  refine f_ret (F := D15) rfl rfl ?_
  show evSs (Cd d) _ [some v, none] h = _
  refine s_tri (env1 := [some v, none]) (h1 := h) (x := NP) (K := K4) ?_ rfl rfl rfl ?_
  · exact s_exprx (by mstart)
  · show evSs _ _ [some v, none] h = _
    apply s_ret
    exact e_tup (e_cons rfl (e_cons rfl e_nil))
theorem pls_encs : ∀ (n : Nat) (xs : List It), (∀ x ∈ xs, x.dep ≤ n) → V.pls (It.encs xs) (2 * n + 2) = true ∧ True := by
  intro n
  induction n with
  | zero =>
    intro xs hd
    refine ⟨?_, trivial⟩
    rw [encs_map]
    apply pls_map
    intro x hx
    have := hd x hx
    cases x with
    | pr ys => simp [It.dep] at this
    | _ => rfl
  | succ n ih =>
    intro xs hd
    refine ⟨?_, trivial⟩
    rw [encs_map]
    apply pls_map
    intro x hx
    have := hd x hx
    cases x with
    | pr ys =>
      simp only [It.dep] at this
      have k := (ih ys (deps_mem (n := n) (by omega))).1
      have e : 2 * (n + 1) + 2 = (2 * n + 2) + 1 + 1 := by omega
      rw [e]
      simp only [It.enc, V.pl, V.pls, k, Bool.and_self]
    | _ => rfl

mutual
theorem pl_up : ∀ (v : V) (n m : Nat), v.pl n = true → n ≤ m → v.pl m = true
  | .tup xs, 0, m, h, _ => by simp [V.pl] at h
  | .tup xs, n + 1, 0, _, hm => by omega
  | .tup xs, n + 1, m + 1, h, hm => by
    simp only [V.pl] at h ⊢
    exact pls_up xs n m h (by omega)
  | .non, _, _, _, _ => rfl
  | .bl _, _, _, _, _ => rfl
  | .int _, _, _, _, _ => rfl
  | .str _, _, _, _, _ => rfl
  | .ref _, _, _, h, _ => by cases h
  | .fn _, _, _, h, _ => by cases h
  | .cls _, _, _, h, _ => by cases h
theorem pls_up : ∀ (vs : List V) (n m : Nat), V.pls vs n = true → n ≤ m → V.pls vs m = true
  | [], _, _, _, _ => rfl
  | v :: vs, n, m, h, hm => by
    simp only [V.pls, Bool.and_eq_true] at h ⊢
    exact ⟨pl_up v n m h.1 hm, pls_up vs n m h.2 hm⟩
end
def H0 (ns : List Int) : Heap := [.ro (ns.map V.int)]
theorem scr0 (ns : List Int) (hn : ns.length ≤ 63) : Scr ns (H0 ns) := ⟨rfl, hn⟩
def mid05 : List St := (B16.drop 5).take 7
def tail05 : List St := B16.drop 13
theorem b16_split : B16 = B16.take 5 ++ (mid05 ++ (B16.drop 12).take 1 ++ tail05) := rfl
theorem mid_run : isNx 7 (evSs (Cd 39) mid05 (List.replicate 7 none) []) = true := by decide +kernel
theorem tail_run : retTrue (evSs (Cd 39) tail05 (List.replicate 7 none) []) = true := by decide +kernel
def head05 (ns : List Int) : List It := itemsD ns 0 (drawn ns 300 6) 3
set_option maxHeartbeats 4000000 in
theorem first05 (ns : List Int) (hn : ns.length ≤ 63) : evSs (Cd 39) (B16.take 5) [some (.ref 0), none, none, none, none, none, none] (H0 ns) = .nx [some (.ref 0), some (.ref 1), some (.ref 2), none, none, none, none] (H0 ns ++ [.lst ((head05 ns).map It.enc)] ++ [.lst ((head05 ns).map It.enc)]) := by
  obtain ⟨p1, p2⟩ := drawn_rng ns 300 6 (by decide)
  have sc := scr0 ns hn
  have kr : Row 3 (head05 ns) := itemsD_row ns 0 _ 3 (by decide) (by omega)
  have hl : (head05 ns).length ≤ 10 := by unfold head05 itemsD; simp; omega
  have e30 := c30 ns 3 31 0 (drawn ns 300 6) (H0 ns) sc (by decide) (by decide) (by decide) p1 (by omega)
  change callD prog 39 30 [.ref 0, .int 0, .int (drawn ns 300 6), .int 3] (H0 ns) = .ok (.ref 1) (H0 ns ++ [.lst ((head05 ns).map It.enc)]) at e30
  have plc : V.pls ((head05 ns).map It.enc) 100 = true := by
    rw [← encs_map]
    exact pls_up _ _ 100 (pls_encs 3 (head05 ns) kr.dep).1 (by decide)
  generalize head05 ns = xs at *
  show evSs (Cd 39) _ [some (.ref 0), none, none, none, none, none, none] (H0 ns) = _
  refine s_asg (v := .ref 1) (h1 := H0 ns ++ [.lst (xs.map It.enc)]) ?_ ?_
  · mleft
  show evSs (Cd 39) _ [some (.ref 0), some (.ref 1), none, none, none, none, none] _ = _
  have a1 : (H0 ns ++ [Obj.lst (xs.map It.enc)])[1]? = some (.lst (xs.map It.enc)) := rfl
  have l1 : listAt (H0 ns ++ [Obj.lst (xs.map It.enc)]) 1 = some (xs.map It.enc) := rfl
  refine s_asg (v := .ref 2) (h1 := H0 ns ++ [.lst (xs.map It.enc)] ++ [.lst (xs.map It.enc)]) ?_ ?_
  · mleft
  show evSs (Cd 39) _ [some (.ref 0), some (.ref 1), some (.ref 2), none, none, none, none] _ = _
  have a2 : (H0 ns ++ [Obj.lst (xs.map It.enc)] ++ [Obj.lst (xs.map It.enc)])[1]? = some (.lst (xs.map It.enc)) := rfl
  have l2 : listAt (H0 ns ++ [Obj.lst (xs.map It.enc)] ++ [Obj.lst (xs.map It.enc)]) 1 = some (xs.map It.enc) := rfl
  have l3 : listAt (H0 ns ++ [Obj.lst (xs.map It.enc)] ++ [Obj.lst (xs.map It.enc)]) 2 = some (xs.map It.enc) := rfl
  generalize H0 ns ++ [Obj.lst (xs.map It.enc)] ++ [Obj.lst (xs.map It.enc)] = H at *
  refine s_no (h1 := H) ?_ ?_
  · refine ne_nil_of' (e_none (vs := [.ref 1]) (xs := xs.map It.enc) (st := [(1, .lst (xs.map It.enc))]) (by mleft) (src_lstI _ _ _ _ a2) (stays_1 a2) (by rw [LINE_eq, List.length_map]; omega) fun v hv l => ?_)
    obtain ⟨x, hx, rfl⟩ := List.mem_map.mp hv
    obtain ⟨q1, q2, q3⟩ := row_len kr.len
    have e22 := c22 3 x (kr.dep x hx) (kr.ok x hx) (q1 x hx) 30 (H ++ [.lst l])
    show evE (Cd 39) _ [some (.ref 0), some (.ref 1), some (.ref 2), none, none, some x.enc, none] _ = _
    mleave
  have e24 := c24 3 xs kr 29 1 H a2
  have e28 := c28 3 xs kr 29 1 H a2
  refine s_no (h1 := H) ?_ ?_
  · apply ev_to
    · mleft
    · simp
  obtain ⟨q1, q2, q3⟩ := row_len kr.len
  have e25 := c25 3 xs kr.dep q1 (by omega) 35 1 H a2
  have e31 := c31 3 xs kr.dep 35 (.ref 1) _ H (src_lstI _ _ _ _ a2) (stays_1 a2)
  refine s_no (h1 := H) ?_ ?_
  · have v1 : evE (Cd 39) (.var 1) [some (.ref 0), some (.ref 1), some (.ref 2), none, none, none, none] H = .ok (.ref 1) H := by mleft
    have v2 : evE (Cd 39) (.var 2) [some (.ref 0), some (.ref 1), some (.ref 2), none, none, none, none] H = .ok (.ref 2) H := by mleft
    have ne : evE (Cd 39) (.cmp .ne (.var 1) (.var 2)) [some (.ref 0), some (.ref 1), some (.ref 2), none, none, none, none] H = .ok (.bl false) H :=
      e_cmp v1 v2 (c_ne_lst l2 l3 plc) (Ext.refl _)
    apply e_or_f (h1 := H)
    · apply ev_to
      · mleft
      · simp
    · exact ne
  show evSs (Cd 39) [] _ H = _
  rw [r_snil]
theorem law05 (ns : List Int) (hn : ns.length ≤ 63) : ∃ h', callD prog 40 16 [.ref 0] [.ro (ns.map V.int)] = .ok (.bl true) h' := by
  have key : ∃ h1, evSs (Cd 39) B16 [some (.ref 0), none, none, none, none, none, none] (H0 ns) = .ret (.bl true) h1 := by
    rw [b16_split, evSs_app, first05 ns hn, at_nx, evSs_app, evSs_app]
    generalize (head05 ns).map It.enc = xs
    obtain ⟨env1, l, r1, r2, r3⟩ := rows_nx (d := 39) (n := 7) (ss := mid05) (by decide +kernel) mid_run [some (.ref 0), some (.ref 1), some (.ref 2), none, none, none, none] rfl (H0 ns ++ [.lst xs] ++ [.lst xs])
    rw [r1, at_nx]
    have k1 := r3 1 (by decide +kernel)
    have a1 : listAt (H0 ns ++ [.lst xs] ++ [.lst xs] ++ l) 1 = some xs := by
      apply listAt_app
      rfl
    generalize H0 ns ++ [.lst xs] ++ [.lst xs] ++ l = H at *
    have v1 : evE (Cd 39) (.var 1) env1 H = .ok (.ref 1) H := e_var (by rw [k1]; rfl)
    have c1 := c15x 38 (.tup xs) H (c24x 37 _ _ rfl)
    have c2 := c15x 38 .non H (c24x 37 _ _ rfl)
    have c3 := c15x 38 (.str [100, 117, 112]) H (c24x 37 _ _ rfl)
    have n0 : ∀ H : Heap, cmpV .ne H (.tup [.int 0, .int 0]) (.tup [.int 0, .int 0]) = some false := fun H => c_ne_self rfl
    have s13 : evSs (Cd 39) ((B16.drop 12).take 1) env1 H = .nx env1 H := by
      refine s_no (h1 := H) ?_ (show evSs (Cd 39) [] _ H = _ by rw [r_snil])
      mleave
    rw [s13, at_nx]
    obtain ⟨h1, e⟩ := rows_true (d := 39) (n := 7) (ss := tail05) (by decide +kernel) tail_run env1 r2 H
    exact ⟨_, e⟩
  obtain ⟨h1, e⟩ := key
  rw [callD_of (F := D16) rfl rfl]
  show ∃ h', finish (H0 ns) (evSs (Cd 39) B16 [some (.ref 0), none, none, none, none, none, none] (H0 ns)) = _
  rw [e, finish_ret]
  unfold gcF
  split
  · exact ⟨_, rfl⟩
  · exact ⟨_, rfl⟩
end MP
end

theorem PySem.Challenge.cw_pageloom_k05_items_holds : PySem.Challenge.rw_pageloom_k05_items.Holds :=
  JOIN_k05 MP.law05
