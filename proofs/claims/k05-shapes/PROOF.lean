import PyProof.Rows.All
import Wide.All
import OpenK.AllK
import Wide.FinOn
import HandS.ForMost
import HandS.Wide
import HandS.FStr
import HandS.IsInst
import HandS.Style
import HandS.ForExc
import HandS.OwnEq
import KE.DataEq
import HandS.Words
import HandS.TupAny
import HandS.Text
import KE.KCallOwn
import HandS.RaiseMore
import HandS.WordsDict
import HandS.Iter
import HandS.Comp
import HandS.Small
import HandS.More
import HandS.Star
import HandS.Dict
import HandS.TupSets
import HandS.DictComp
import KE.GoesSet
import HandS.WordsExc
import HandS.Defaults
import KE.KSuper
import HandS.Nested
import HandS.ClsMeth
import HandS.HeadHook2
import HandS.HeadEnd
import HandS.Head2
import PySem.Challenge.RW_ruleshapes_k05_shapes

/-! part RsIR -/
set_option Elab.async false
set_option linter.all false
set_option maxRecDepth 100000
/-! Rs: a small pure language for the programs at hand: data, a store of mutable objects, expressions, statements, what they give. -/
namespace Rs
open PySem L2
noncomputable section

/-- a value: data all the way down, or a place of the store -/
inductive D where
  | non
  | bl (b : Bool)
  | int (i : Int)
  | str (s : Str)
  | tup (xs : List D)
  | lst (xs : List D)
  | scr (xs : List Int)
  | dct (kvs : List (Key × D))
  | ins (c : Nat) (fs : List (Nat × D))
  | loc (n : Nat)
  deriving Inhabited, Repr

/-- a mutable object -/
inductive MO where
  | lst (ds : List D)
  | dct (kvs : List (Key × D))
  | ins (c : Nat) (fs : List (Nat × D))
  | dead
  deriving Inhabited, Repr
abbrev Mu := List MO
abbrev Ev := List (Option D)

/-- an answer: a value, an exception (its class, its fields), or nothing that is said -/
inductive R (α : Type) where
  | ok (a : α) (m : Mu)
  | exc (c : Nat) (fs : List (Nat × D)) (m : Mu)
  | bad
def R.bind {α β : Type} (r : R α) (f : α → Mu → R β) : R β := match r with
  | .ok a m => f a m
  | .exc c fs m => .exc c fs m
  | .bad => .bad
@[simp] theorem R.bind_ok {α β : Type} (a : α) (m : Mu) (f : α → Mu → R β) : (R.ok a m).bind f = f a m := rfl
@[simp] theorem R.bind_exc {α β : Type} (c : Nat) (fs : List (Nat × D)) (m : Mu) (f : α → Mu → R β) : (R.exc c fs m : R α).bind f = .exc c fs m := rfl
@[simp] theorem R.bind_bad {α β : Type} (f : α → Mu → R β) : (R.bad : R α).bind f = .bad := rfl
def R.opt {α : Type} (o : Option α) (m : Mu) : R α := match o with
  | some a => .ok a m
  | none => .bad
@[simp] theorem R.opt_some {α : Type} (a : α) (m : Mu) : R.opt (some a) m = .ok a m := rfl
@[simp] theorem R.opt_none {α : Type} (m : Mu) : R.opt (none : Option α) m = .bad := rfl

/-- what a class is: its classes above (itself first), its __init__, its methods, how its instances are compared (a group, the leading fields, the function), whether its instances are data, the fields of an exception -/
structure Cls where
  mro : List Nat
  flds : List Nat
  ini : Option Nat
  mets : List (Nat × Nat)
  eqg : Option (Nat × List Nat × Nat)
  fin : Bool
  exf : Option (List Nat)
  deriving Inhabited, Repr
abbrev Tab := List Cls

/-! ### ==; nothing is said of places, of what has no == of its own, of an instance on the right alone -/
/-- the first fields are these -/
def pre (n : List Nat) (fs : List (Nat × D)) : Bool := (fs.map (·.1)).take n.length == n
mutual
def eqD (T : Tab) : D → D → Option Bool
  | .ins c fs, d => (match (T[c]?).bind Cls.eqg with
    | some (g, n, _) => (match d with
      | .ins c' gs => (match T[c']? with
        | some q => (match q.eqg with
          | some (g', _, _) => if g = g' then (if pre n fs && pre n gs then eqF T n fs gs else none) else some false
          | none => none)
        | none => none)
      | .loc _ => none
      | .dct _ => none
      | .scr _ => none
      | _ => some false)
    | none => none)
  | .tup xs, d => (match d with
    | .tup ys => eqL T xs ys
    | .ins _ _ => none
    | .loc _ => none
    | .dct _ => none
    | .scr _ => none
    | _ => some false)
  | .lst xs, d => (match d with
    | .lst ys => if xs.length = ys.length then eqL T xs ys else some false
    | .ins _ _ => none
    | .loc _ => none
    | .dct _ => none
    | .scr _ => none
    | _ => some false)
  | .non, d => (match d with
    | .non => some true
    | .bl _ => some false
    | .int _ => some false
    | .str _ => some false
    | .tup _ => some false
    | .lst _ => some false
    | _ => none)
  | .bl a, d => (match d with
    | .non => some false
    | .bl b => some (a == b)
    | .int b => some ((if a then 1 else 0) == b)
    | .str _ => some false
    | .tup _ => some false
    | .lst _ => some false
    | _ => none)
  | .int a, d => (match d with
    | .non => some false
    | .bl b => some (a == (if b then 1 else 0))
    | .int b => some (a == b)
    | .str _ => some false
    | .tup _ => some false
    | .lst _ => some false
    | _ => none)
  | .str a, d => (match d with
    | .non => some false
    | .bl _ => some false
    | .int _ => some false
    | .str b => some (decide (a = b))
    | .tup _ => some false
    | .lst _ => some false
    | _ => none)
  | _, _ => none
def eqL (T : Tab) : List D → List D → Option Bool
  | [], [] => some true
  | x :: xs, y :: ys => (match eqD T x y with
    | some true => eqL T xs ys
    | r => r)
  | _, _ => some false
def eqF (T : Tab) : List Nat → List (Nat × D) → List (Nat × D) → Option Bool
  | [], _, _ => some true
  | n :: ns, (f, x) :: xs, (f', y) :: ys => if f = n ∧ f' = n then (match eqD T x y with
    | some true => eqF T ns xs ys
    | r => r) else none
  | _ :: _, _, _ => none
end
/-! how deep tuples, lists and instances stand in one another; a place has no depth that is said -/
mutual
def dep : D → Option Nat
  | .tup xs => (depL xs).map (· + 1)
  | .lst xs => (depL xs).map (· + 1)
  | .ins _ fs => (depF fs).map (· + 3)
  | .loc _ => none
  | .dct _ => none
  | .scr _ => none
  | _ => some 0
def depL : List D → Option Nat
  | [] => some 0
  | x :: xs => match dep x, depL xs with
    | some a, some b => some (max a b)
    | _, _ => none
def depF : List (Nat × D) → Option Nat
  | [] => some 0
  | (_, x) :: xs => match dep x, depF xs with
    | some a, some b => some (max a b)
    | _, _ => none
end

/-- an object of the store, read as it stands -/
def seen (o : Option MO) (n : Nat) : D := match o with
  | some (.lst ds) => .lst ds
  | some (.dct kvs) => .dct kvs
  | some (.ins c fs) => .ins c fs
  | _ => .loc n
def look (m : Mu) : D → D
  | .loc n => seen m[n]? n
  | d => d

/-- the largest length of a text, a list -/
@[irreducible] def line : Nat := Classical.choose (p := fun n => n = 16777216) ⟨_, rfl⟩
theorem line_val : line = 16777216 := by unfold line; exact Classical.choose_spec (p := fun n => n = 16777216) ⟨_, rfl⟩
@[irreducible] def big : Int := Classical.choose (p := fun n : Int => n = 2 ^ 62) ⟨_, rfl⟩
theorem big_val : big = 2 ^ 62 := by unfold big; exact Classical.choose_spec (p := fun n : Int => n = 2 ^ 62) ⟨_, rfl⟩
def keyD : D → Option Key
  | .int i => some (.inl i)
  | .str s => some (.inr s)
  | _ => none
def valD (kvs : List (Key × D)) (k : Key) : Option D := (kvs.find? fun kv => decide (kv.1 = k)).map (·.2)
def putD (kvs : List (Key × D)) (k : Key) (v : D) : List (Key × D) :=
  if kvs.any (fun kv => decide (kv.1 = k)) then kvs.map fun kv => if kv.1 = k then (kv.1, v) else kv else kvs ++ [(k, v)]
def putA (f : Nat) (v : D) : List (Nat × D) → List (Nat × D)
  | [] => [(f, v)]
  | (g, x) :: r => if g = f then (f, v) :: r else (g, x) :: putA f v r

/-! ### operators -/
def binD (op : Operator) (a b : D) : Option D := match op, a, b with
  | .Add, .int i, .int j => some (.int (i + j))
  | .Sub, .int i, .int j => some (.int (i - j))
  | .Mult, .int i, .int j => if i.natAbs.log2 + j.natAbs.log2 < 1000000 then some (.int (i * j)) else none
  | .FloorDiv, .int i, .int j => if 0 < j ∧ j.natAbs.log2 < 9000 then some (.int (i / j)) else none
  | .Mod, .int i, .int j => if 0 < j then some (.int (i % j)) else none
  | .Pow, .int i, .int j => if 0 ≤ j ∧ j ≤ 1000000 ∧ i.natAbs < 2 ^ 64 then some (.int (i ^ j.toNat)) else none
  | .Add, .str s, .str t => if s.length + t.length ≤ line then some (.str (s ++ t)) else none
  | .Add, .lst xs, .lst ys => if xs.length + ys.length ≤ line then some (.lst (xs ++ ys)) else none
  | .Add, .tup (x :: xs), .tup ys => if (x :: xs).length + ys.length ≤ line then some (.tup ((x :: xs) ++ ys)) else none
  | _, _, _ => none
def strLt (s t : Str) : Bool := decide (s.cps.toList < t.cps.toList)
/-- is one sign, a text, in a text -/
def strIn (s t : Str) : Bool := !(Builtin.Str.occurrences t s 0 t.length 1).isEmpty
def room (k : Nat) (a b : D) : Bool := match dep a, dep b with
  | some i, some j => decide (i ≤ k ∧ j ≤ k)
  | _, _ => false
/-! no instance, no place, no dict within -/
mutual
def plainD : D → Bool
  | .non => true
  | .bl _ => true
  | .int _ => true
  | .str _ => true
  | .tup xs => plainL xs
  | .lst xs => plainL xs
  | _ => false
def plainL : List D → Bool
  | [] => true
  | x :: xs => plainD x && plainL xs
end
/-- a != b: of plain data; of lists of unlike lengths -/
def neO (T : Tab) (k : Nat) (a b : D) : Option Bool := if room k a b && plainD a && plainD b then (eqD T a b).map not else match a, b with
  | .lst xs, .lst ys => if xs.length = ys.length then none else some true
  | _, _ => none
/-- x in xs: item by item, item == x; plain data -/
def anyD (T : Tab) (a : D) (xs : List D) : Bool := xs.any fun x => decide (eqD T x a = some true)
def inD (T : Tab) (k : Nat) (a b : D) : Option Bool := match b with
  | .lst xs => if room k a b && plainD a && plainL xs then some (anyD T a xs) else none
  | .tup xs => if room k a b && plainD a && plainL xs then some (anyD T a xs) else none
  | .str t => (match a with
    | .str s => some (strIn s t)
    | _ => none)
  | .dct kvs => (match keyD a with
    | some q => some (valD kvs q).isSome
    | none => none)
  | _ => none
def isLoc : D → Bool
  | .loc _ => true
  | _ => false
/-- a == b: of data; of objects of the store that are plain -/
def eqO (T : Tab) (k : Nat) (m : Mu) (x y : D) : Option Bool :=
  if room k (look m x) (look m y) && ((!isLoc x && !isLoc y) || (plainD (look m x) && plainD (look m y))) then eqD T (look m x) (look m y) else none
def ordD (op : CmpOp) (a b : D) : Option Bool := match op with
  | .Lt => (match a, b with
    | .int i, .int j => some (decide (i < j))
    | .str s, .str t => some (strLt s t)
    | _, _ => none)
  | .LtE => (match a, b with
    | .int i, .int j => some (decide (i ≤ j))
    | _, _ => none)
  | .Gt => (match a, b with
    | .int i, .int j => some (decide (j < i))
    | .str s, .str t => some (strLt t s)
    | _, _ => none)
  | .GtE => (match a, b with
    | .int i, .int j => some (decide (j ≤ i))
    | _, _ => none)
  | _ => none
def cmpD (T : Tab) (k : Nat) (op : CmpOp) (m : Mu) (x y : D) : Option Bool := match op with
  | .Eq => eqO T k m x y
  | .NotEq => neO T k (look m x) (look m y)
  | .In => inD T k (look m x) (look m y)
  | .NotIn => (inD T k (look m x) (look m y)).map not
  | op => ordD op (look m x) (look m y)
/-- a place of a list, a tuple, a text; a key of a dict -/
def idxD (a b : D) : Option D := match a, b with
  | .lst xs, .int i => atI xs i
  | .tup xs, .int i => atI xs i
  | .scr xs, .int i => (atI xs i).map .int
  | .str s, .int i => if s.length ≤ line then (atI s.cps.toList i).map fun c => .str ⟨#[c]⟩ else none
  | .dct kvs, y => (keyD y).bind (valD kvs)
  | _, _ => none
def cutL {α : Type} (xs : List α) (lo hi : Option Int) : List α := (xs.drop (HT.sIx xs.length 0 lo)).take (HT.sIx xs.length xs.length hi - HT.sIx xs.length 0 lo)
def intO : Option D → Option (Option Int)
  | none => some none
  | some (.int i) => some (some i)
  | _ => none
def slcD (a : D) (lo hi : Option Int) : Option D := match a with
  | .lst xs => some (.lst (cutL xs lo hi))
  | .tup xs => some (.tup (cutL xs lo hi))
  | .scr xs => some (.lst ((cutL xs lo hi).map .int))
  | .str s => if s.length ≤ line then some (.str ⟨(cutL s.cps.toList lo hi).toArray⟩) else none
  | _ => none

/-! ### built-in functions -/
inductive Bl where
  | int | tuple | sum | max | min | max2 | min2 | all | any | abs
  deriving Repr
def intsD : List D → Option (List Int)
  | [] => some []
  | .int i :: r => (intsD r).map (i :: ·)
  | _ => none
def boolsD : List D → Option (List Bool)
  | [] => some []
  | .bl b :: r => (boolsD r).map (b :: ·)
  | _ => none
def bltD (b : Bl) (as : List D) : Option D := match b, as with
  | .int, [.int i] => some (.int i)
  | .int, [.bl k] => some (.int (if k then 1 else 0))
  | .tuple, [.lst xs] => some (.tup xs)
  | .tuple, [.tup xs] => some (.tup xs)
  | .sum, [.lst xs] => (intsD xs).map fun ns => .int ns.sum
  | .max, [.lst xs] => (intsD xs).bind fun ns => ns.max?.map .int
  | .min, [.lst xs] => (intsD xs).bind fun ns => ns.min?.map .int
  | .max2, [.int i, .int j] => some (.int (if j > i then j else i))
  | .min2, [.int i, .int j] => some (.int (if j < i then j else i))
  | .all, [.lst xs] => (boolsD xs).map fun bs => .bl (bs.all id)
  | .any, [.lst xs] => (boolsD xs).map fun bs => .bl (bs.any id)
  | .abs, [.int i] => some (.int (if i < 0 then -i else i))
  | _, _ => none
/-- what isinstance asks: a class of one's own, a built-in one -/
inductive Ct where
  | own (c : Nat) | bool | int | str | tuple | list
  deriving Repr, DecidableEq
def isiD (T : Tab) (d : D) (c : Ct) : Option Bool := match d with
  | .ins k _ => (T[k]?).bind fun q => if q.exf.isNone then (match c with
    | .own c => some (q.mro.contains c)
    | _ => some false) else none
  | .bl _ => some (c == .bool || c == .int)
  | .int _ => some (c == .int)
  | .str _ => some (c == .str)
  | .tup _ => some (c == .tuple)
  | .lst _ => some (c == .list)
  | .non => some false
  | _ => none
/-- len of what is no instance -/
@[irreducible] def lenG (n : Int) (m : Mu) : R D := if 0 ≤ n ∧ n < big then .ok (.int n) m else .bad
def lenD : D → Option Nat
  | .lst xs => some xs.length
  | .tup xs => some xs.length
  | .scr xs => some xs.length
  | .str s => if s.length ≤ line then some s.length else none
  | .dct kvs => some kvs.length
  | _ => none
/-- is it true -/
def truD : D → Option Bool
  | .non => some false
  | .bl b => some b
  | .int i => some (i != 0)
  | .str s => if s.length ≤ line then some ((s.length : Int) != 0) else none
  | .lst xs => some (!xs.isEmpty)
  | .tup xs => some (!xs.isEmpty)
  | .scr xs => some (!xs.isEmpty)
  | .dct kvs => some (!kvs.isEmpty)
  | _ => none
/-- the text of an int, of a text -/
def strD : D → Option Str
  | .str s => if s.length ≤ line then some s else none
  | .int i => if i.natAbs.log2 < 1920 then some (toString i) else none
  | _ => none
/-! ### methods of built-in types that change nothing -/
inductive Bm where
  | join | index | get | startswith | split
  deriving Repr
def bmTy (m : Bm) (a : D) : Bool := match m, a with
  | .join, .str _ => true
  | .startswith, .str _ => true
  | .split, .str _ => true
  | .index, .lst _ => true
  | .index, .tup _ => true
  | .get, .dct _ => true
  | _, _ => false
def strsD : List D → Option (List Str)
  | [] => some []
  | .str s :: r => (strsD r).map (s :: ·)
  | _ => none
def joinLen (sep : Str) (ss : List Str) : Nat := (ss.map (·.length)).sum + ss.length * sep.length
def bmD (m : Bm) (a : D) (as : List D) : Option D := match m, a, as with
  | .join, .str sep, [.lst xs] => (strsD xs).bind fun ss => if joinLen sep ss ≤ line then some (.str (Txt.join sep ss)) else none
  | .join, .str sep, [.tup xs] => (strsD xs).bind fun ss => if joinLen sep ss ≤ line then some (.str (Txt.join sep ss)) else none
  | _, _, _ => none

/-! ### sets of ints and texts, sorted -/
def keysD : List D → Option (List Key)
  | [] => some []
  | x :: xs => (match keyD x, keysD xs with
    | some k, some ks => some (k :: ks)
    | _, _ => none)
def hasK (k : Key) (ks : List Key) : Bool := ks.any fun q => decide (q = k)
def dedK : List Key → List Key
  | [] => []
  | k :: ks => if hasK k (dedK ks) then dedK ks else k :: dedK ks
def sortI (ns : List Int) : List Int := ns.mergeSort fun a b => decide (a ≤ b)
def sortS (ss : List Str) : List Str := ss.mergeSort fun a b => !PySem.Spec.ltCps b.cps.toList a.cps.toList
def keyToD : Key → D
  | .inl i => .int i
  | .inr s => .str s
/-- sorted of ints, of texts; below 64 -/
def srtL (xs : List D) : Option (List D) := if xs.length < 64 then (match intsD xs with
    | some ns => some ((sortI ns).map .int)
    | none => (match strsD xs with
      | some ss => some ((sortS ss).map .str)
      | none => none)) else none
def srtD : D → Option (List D)
  | .lst xs => srtL xs
  | .dct kvs => if kvs.length < 64 then (strsD (kvs.map fun kv => keyToD kv.1)).map fun ss => (sortS ss).map .str else none
  | _ => none
def slnD : D → Option Nat
  | .lst xs => if xs.length < 4000 then (keysD xs).map fun ks => (dedK ks).length else none
  | _ => none
def sstD : D → Option (List D)
  | .lst xs => if xs.length < 64 then (keysD xs).bind fun ks => srtL ((dedK ks).map keyToD) else none
  | _ => none
def ksD : D → Option (List Key)
  | .lst xs => if xs.length < 4000 then keysD xs else none
  | _ => none
def enmL (xs : List D) : List D := xs.zipIdx.map fun p => .tup [.int (p.2 : Int), p.1]

/-! ### the language -/
mutual
inductive IE where
  | var (i : Nat)
  | cst (d : D)
  | bin (op : Operator) (a b : IE)
  | neg (a : IE)
  | cmp (op : CmpOp) (a b : IE)
  | chn (op op2 : CmpOp) (a b c : IE)
  | isn (a : IE) (pos : Bool)
  | and (a b : IE)
  | or (a b : IE)
  | not (a : IE)
  | tru (a : IE)
  | ife (c a b : IE)
  | att (a : IE) (f : Nat)
  | idx (a b : IE)
  | slc (a : IE) (lo hi : IO)
  | tup (es : IEs)
  | fz (f : IF)
  | mk (f : IF)
  | call (f : Nat) (as : IEs)
  | new (c : Nat) (as : IEs)
  | met (a : IE) (m : Nat) (as : IEs)
  | blt (b : Bl) (as : IEs)
  | bmt (m : Bm) (a : IE) (as : IEs)
  | len (a : IE) (m : Nat)
  | str (a : IE) (m : Nat)
  | isi (a : IE) (c : Ct)
  | frz (a : IE)
  | fst (es : IEs)
  | fmt (a : IE)
  | sln (a : IE)
  | sdj (a b : IE)
inductive IO where
  | no
  | yes (e : IE)
inductive IEs where
  | nil
  | cons (e : IE) (es : IEs)
inductive IF where
  | lst (es : IEs)
  | cmp (elt : IE) (t : IT) (s : II) (c : IO) (own : List Nat)
  | lof (a : IE)
  | dct (ks : List Key) (vs : IEs)
  | lsx (es : IEs) (a : IE)
  | dtp (a : IE)
  | srt (a : IE)
  | sst (a : IE)
  | dcm (kk vv : IE) (t : IT) (s : II) (own : List Nat)
inductive II where
  | seq (a : IE)
  | rng (a : IE)
  | rng2 (a b : IE)
  | enm (a : IE)
inductive IT where
  | nm (i : Nat)
  | tp (ts : ITs)
inductive ITs where
  | nil
  | cons (t : IT) (ts : ITs)
end
inductive Mm where
  | append | extend
  deriving Repr
mutual
inductive IS where
  | asg (t : IT) (e : IE)
  | par (i j : Nat) (a b : IE)
  | sta (o : IE) (f : Nat) (e : IE)
  | sti (o i e : IE)
  | aug (i : Nat) (op : Operator) (e : IE)
  | exp (e : IE)
  | mut (m : Mm) (o : IE) (a : IE)
  | ret (e : IE)
  | ifs (c : IE) (a b : ISs)
  | for_ (t : IT) (s : II) (b : ISs)
  | rai (c : Nat) (as : IEs)
  | sup (c f : Nat) (as : IEs)
  | pas
  | con
  | brk
  | pr3 (i j l : Nat) (a b c : IE)
  | dea
inductive ISs where
  | nil
  | cons (s : IS) (ss : ISs)
end
/-! ### what they give: T the classes, k the room that is left for ==, F the functions -/
inductive Fl where
  | nx (r : Ev)
  | rt (d : D)
  | ct (r : Ev)
  | bk (r : Ev)
mutual
def bindT : IT → D → Ev → Option Ev
  | .nm i, d, r => if i < r.length then some (r.set i (some d)) else none
  | .tp ts, d, r => (match d with
    | .tup xs => bindTs ts xs r
    | _ => none)
def bindTs : ITs → List D → Ev → Option Ev
  | .nil, [], r => some r
  | .cons t ts, x :: xs, r => (bindT t x r).bind (bindTs ts xs)
  | _, _, _ => none
end
def wipeE (r : Ev) : List Nat → Ev
  | [] => r
  | v :: vs => (wipeE r vs).set v none
/-- the items of what is walked -/
def itemsD : D → Option (List D)
  | .lst xs => some xs
  | .tup xs => some xs
  | .str s => some (s.cps.toList.map fun c => .str ⟨#[c]⟩)
  | _ => none
@[irreducible] def rangeD (lo hi : Int) : Option (List D) :=
  if -big ≤ lo ∧ lo < big ∧ -big ≤ hi ∧ hi < big then some ((List.range (hi - lo).toNat).map fun (i : Nat) => D.int (lo + (i : Int))) else none
/-- what is walked: items, or a list of the store, of a length that stays -/
inductive Sc where
  | its (ds : List D)
  | plc (n len : Nat)
def Sc.len : Sc → Nat
  | .its ds => ds.length
  | .plc _ len => len
def Sc.now (sc : Sc) (m : Mu) : Option (List D) := match sc with
  | .its ds => some ds
  | .plc n len => (match m[n]? with
    | some (.lst ds) => if ds.length = len then some ds else none
    | _ => none)
/-- a comprehension's turns: f tells for an item whether it is kept, and what is laid for it; nothing may be raised in it -/
def turnsC (f : D → Mu → R (Option D)) (sc : Sc) : Nat → Nat → Mu → R (List D)
  | 0, _, m => (match sc.now m with
    | some _ => .ok [] m
    | none => .bad)
  | t + 1, i, m => (match (sc.now m).bind (fun ds => ds[i]?) with
    | some x => (match f x m with
      | .ok o m1 => (match turnsC f sc t (i + 1) m1 with
        | .ok ds m2 => .ok (match o with
          | some d => d :: ds
          | none => ds) m2
        | _ => .bad)
      | _ => .bad)
    | none => .bad)
/-- a for's turns -/
def turnsS (f : D → Ev → Mu → R Fl) (sc : Sc) : Nat → Nat → Ev → Mu → R Fl
  | 0, _, r, m => (match sc.now m with
    | some _ => .ok (.nx r) m
    | none => .bad)
  | t + 1, i, r, m => (match (sc.now m).bind (fun ds => ds[i]?) with
    | some x => (f x r m).bind fun fl m => (match fl with
      | .nx r => turnsS f sc t (i + 1) r m
      | .ct r => turnsS f sc t (i + 1) r m
      | .bk r => .ok (.nx r) m
      | .rt d => .ok (.rt d) m)
    | none => .bad)
/-- what is laid into the store, or stands as data -/
def layM (mo : MO) (m : Mu) : R D := .ok (.loc m.length) (m ++ [mo])
def layZ (mo : MO) (m : Mu) : R D := match mo with
  | .lst ds => .ok (.lst ds) m
  | .dct kvs => .ok (.dct kvs) m
  | .ins c fs => .ok (.ins c fs) m
  | .dead => .bad
def frzD (d : D) (m : Mu) : R D := match d with
  | .loc n => (match m[n]? with
    | some (.lst ds) => .ok (.lst ds) (m.set n .dead)
    | some (.dct kvs) => .ok (.dct kvs) (m.set n .dead)
    | some (.ins c fs) => .ok (.ins c fs) (m.set n .dead)
    | _ => .bad)
  | d => .ok d m
def clsOf (m : Mu) (d : D) : Option Nat := match look m d with
  | .ins c _ => some c
  | _ => none
def attD (T : Tab) (m : Mu) (d : D) (f : Nat) : Option D := match look m d with
  | .ins c fs => (match T[c]? with
    | some q => if q.exf.isNone && q.flds.contains f then fs.lookup f else none
    | none => none)
  | _ => none
def metD (T : Tab) (m : Mu) (d : D) (f : Nat) : Option Nat := match look m d with
  | .ins c fs => (match T[c]? with
    | some q => if q.exf.isNone && (fs.lookup f).isNone then q.mets.lookup f else none
    | none => none)
  | _ => none
/-- C(..): the new instance, its __init__, then data or a place -/
def newD (T : Tab) (F : Nat → List D → Mu → R D) (c : Nat) (as : List D) (m : Mu) : R D :=
  match T[c]? with
  | some q => (match (if q.exf.isNone then q.ini else none) with
    | some f => (match F f (.loc m.length :: as) (m ++ [.ins c []]) with
      | .ok .non m1 => if q.fin then frzD (.loc m.length) m1 else .ok (.loc m.length) m1
      | .ok _ _ => .bad
      | .exc c fs m => .exc c fs m
      | .bad => .bad)
    | none => .bad)
  | none => .bad
def mutD (mm : Mm) (o a : D) (m : Mu) : Option Mu := match o with
  | .loc n => (match m[n]? with
    | some (.lst ds) => (match mm with
      | .append => if ds.length < line then some (m.set n (.lst (ds ++ [a]))) else none
      | .extend => (match look m a with
        | .lst xs => if ds.length + xs.length ≤ line then some (m.set n (.lst (ds ++ xs))) else none
        | _ => none))
    | _ => none)
  | _ => none
def lstAt (m : Mu) (o : D) : Bool := match o with
  | .loc n => (match m[n]? with
    | some (.lst _) => true
    | _ => false)
  | _ => false
def augD (op : Operator) (a b : D) : Option D := match op, a, b with
  | .Add, .int i, .int j => some (.int (i + j))
  | .Sub, .int i, .int j => some (.int (i - j))
  | .Add, .str s, .str t => if s.length + t.length ≤ line then some (.str (s ++ t)) else none
  | _, _, _ => none
/-- o[i] = d -/
def stiD (o i d : D) (m : Mu) : Option Mu := match o with
  | .loc n => (match m[n]?, i with
    | some (.lst ds), .int k => (ixN ds.length k).map fun j => m.set n (.lst (ds.set j d))
    | some (.dct kvs), y => (keyD y).bind fun q => if kvs.length < line then some (m.set n (.dct (putD kvs q d))) else none
    | _, _ => none)
  | _ => none
/-- o.f = d -/
def staD (T : Tab) (o : D) (f : Nat) (d : D) (m : Mu) : Option Mu := match o with
  | .loc n => (match m[n]? with
    | some (.ins c fs) => (match T[c]? with
      | some q => if q.exf.isNone && q.flds.contains f && decide (fs.length < 900) then some (m.set n (.ins c (putA f d fs))) else none
      | none => none)
    | _ => none)
  | _ => none
def mergeD (kvs more : List (Key × D)) : List (Key × D) := more.foldl (fun acc kv => putD acc kv.1 kv.2) kvs
/-- what stands behind a star, behind the rest -/
def starR (x : D) (ds : List D) (m : Mu) : R (List D) := match look m x with
  | .lst ys => .ok (ds ++ ys) m
  | .tup ys => .ok (ds ++ ys) m
  | _ => .bad
def pairD : D → Option (Key × D)
  | .tup [x, y] => (keyD x).map fun q => (q, y)
  | _ => none
def pairsD : List D → Option (List (Key × D))
  | [] => some []
  | x :: xs => (match pairD x, pairsD xs with
    | some kv, some kvs => some (kv :: kvs)
    | _, _ => none)
section
variable (T : Tab) (k : Nat) (F : Nat → List D → Mu → R D)
mutual
def E : IE → Ev → Mu → R D
  | .var i, r, m => (match r[i]? with
    | some (some d) => .ok d m
    | _ => .bad)
  | .cst d, _, m => .ok d m
  | .bin op a b, r, m => (E a r m).bind fun x m => (E b r m).bind fun y m => .opt (binD op (look m x) (look m y)) m
  | .neg a, r, m => (E a r m).bind fun x m => (match x with
    | .int i => .ok (.int (-i)) m
    | _ => .bad)
  | .cmp op a b, r, m => (E a r m).bind fun x m => (E b r m).bind fun y m => .opt ((cmpD T k op m x y).map .bl) m
  | .chn op op2 a b c, r, m => (E a r m).bind fun x m => (E b r m).bind fun y m => (match cmpD T k op m x y with
    | some true => (E c r m).bind fun z m => .opt ((cmpD T k op2 m y z).map .bl) m
    | some false => .ok (.bl false) m
    | none => .bad)
  | .isn a pos, r, m => (E a r m).bind fun x m => .ok (.bl (match x with
    | .non => pos
    | _ => !pos)) m
  | .and a b, r, m => (E a r m).bind fun x m => (match x with
    | .bl true => (E b r m).bind fun y m => (match y with
      | .bl c => .ok (.bl c) m
      | _ => .bad)
    | .bl false => .ok (.bl false) m
    | _ => .bad)
  | .or a b, r, m => (E a r m).bind fun x m => (match x with
    | .bl false => (E b r m).bind fun y m => (match y with
      | .bl c => .ok (.bl c) m
      | _ => .bad)
    | .bl true => .ok (.bl true) m
    | _ => .bad)
  | .not a, r, m => (E a r m).bind fun x m => (match x with
    | .bl b => .ok (.bl (!b)) m
    | _ => .bad)
  | .tru a, r, m => (E a r m).bind fun x m => .opt ((truD (look m x)).map .bl) m
  | .ife c a b, r, m => (E c r m).bind fun x m => (match x with
    | .bl true => E a r m
    | .bl false => E b r m
    | _ => .bad)
  | .att a f, r, m => (E a r m).bind fun x m => .opt (attD T m x f) m
  | .idx a b, r, m => (E a r m).bind fun x m => (E b r m).bind fun y m => .opt (idxD (look m x) y) m
  | .slc a lo hi, r, m => (E a r m).bind fun x m => (Eo lo r m).bind fun l m => (Eo hi r m).bind fun h m => .opt (slcD (look m x) l h) m
  | .tup es, r, m => (Es es r m).bind fun ds m => if ds.length ≤ line then .ok (.tup ds) m else .bad
  | .fz f, r, m => (EF f r m).bind fun mo m => layZ mo m
  | .mk f, r, m => (EF f r m).bind fun mo m => layM mo m
  | .call f as, r, m => (Es as r m).bind fun ds m => F f ds m
  | .new c as, r, m => (Es as r m).bind fun ds m => newD T F c ds m
  | .met a g as, r, m => (E a r m).bind fun x m => (match metD T m x g with
    | some f => (Es as r m).bind fun ds m => F f (x :: ds) m
    | none => .bad)
  | .blt b as, r, m => (Es as r m).bind fun ds m => .opt (bltD b (ds.map (look m))) m
  | .bmt b a as, r, m => (E a r m).bind fun x m => if bmTy b (look m x) then (Es as r m).bind fun ds m => .opt (bmD b (look m x) (ds.map (look m))) m else .bad
  | .len a g, r, m => (E a r m).bind fun x m => (match metD T m x g with
    | some f => (match F f [x] m with
      | .ok (.int n) m1 => lenG n m1
      | .exc c fs m => .exc c fs m
      | _ => .bad)
    | none => .opt ((lenD (look m x)).map fun (n : Nat) => D.int (n : Int)) m)
  | .str a g, r, m => (E a r m).bind fun x m => (match metD T m x g with
    | some f => (match F f [x] m with
      | .ok (.str s) m1 => .ok (.str s) m1
      | .exc c fs m => .exc c fs m
      | _ => .bad)
    | none => .opt ((strD x).map .str) m)
  | .isi a c, r, m => (E a r m).bind fun x m => .opt ((isiD T (look m x) c).map .bl) m
  | .frz a, r, m => (E a r m).bind fun x m => frzD x m
  | .fst es, r, m => (Ej es Str.empty r m).bind fun z m => .ok (.str z) m
  | .fmt a, r, m => (E a r m).bind fun x m => .opt ((strD x).map .str) m
  | .sln a, r, m => (E a r m).bind fun x m => .opt ((slnD (look m x)).map fun (n : Nat) => D.int (n : Int)) m
  | .sdj a b, r, m => (E a r m).bind fun x m => (match ksD (look m x) with
    | some ks => (E b r m).bind fun y m => (match ksD (look m y) with
      | some ls => .ok (.bl (ks.all fun k => !hasK k ls)) m
      | none => .bad)
    | none => .bad)
def Eo : IO → Ev → Mu → R (Option Int)
  | .no, _, m => .ok none m
  | .yes e, r, m => (E e r m).bind fun x m => (match x with
    | .int i => .ok (some i) m
    | _ => .bad)
def Es : IEs → Ev → Mu → R (List D)
  | .nil, _, m => .ok [] m
  | .cons e es, r, m => (E e r m).bind fun d m => (Es es r m).bind fun ds m => .ok (d :: ds) m
/-- the parts of an f-string, one behind the other -/
def Ej : IEs → Str → Ev → Mu → R Str
  | .nil, acc, _, m => .ok acc m
  | .cons e es, acc, r, m => (E e r m).bind fun d m => (match d with
    | .str y => if (acc ++ y).length ≤ line then Ej es (acc ++ y) r m else .bad
    | _ => .bad)
/-- a condition, or none -/
def Eb : IO → Ev → Mu → R Bool
  | .no, _, m => .ok true m
  | .yes e, r, m => (E e r m).bind fun d m => (match d with
    | .bl b => .ok b m
    | _ => .bad)
def EF : IF → Ev → Mu → R MO
  | .lst es, r, m => (Es es r m).bind fun ds m => if ds.length ≤ line then .ok (.lst ds) m else .bad
  | .cmp elt t s c own, r, m => (EI s r m).bind fun sc m => (turnsC (fun x m => match bindT t x (wipeE r own) with
    | some r1 => (Eb c r1 m).bind fun b m => (match b with
      | true => (E elt r1 m).bind fun d m => .ok (some d) m
      | false => .ok none m)
    | none => .bad) sc sc.len 0 m).bind fun ds m => if ds.length ≤ line then .ok (.lst ds) m else .bad
  | .lof a, r, m => (E a r m).bind fun x m => (match look m x with
    | .lst xs => .ok (.lst xs) m
    | .tup xs => .ok (.lst xs) m
    | _ => .bad)
  | .lsx es a, r, m => ((Es es r m).bind fun ds m => (E a r m).bind fun x m => starR x ds m).bind fun ds m => if ds.length ≤ line then .ok (.lst ds) m else .bad
  | .dtp a, r, m => (E a r m).bind fun x m => (match look m x with
    | .lst xs => (match pairsD xs with
      | some kvs => .ok (.dct (mergeD [] kvs)) m
      | none => .bad)
    | _ => .bad)
  | .srt a, r, m => (E a r m).bind fun x m => .opt ((srtD (look m x)).map .lst) m
  | .sst a, r, m => (E a r m).bind fun x m => .opt ((sstD (look m x)).map .lst) m
  | .dcm kk vv t s own, r, m => (EI s r m).bind fun sc m => (turnsC (fun x m => match bindT t x (wipeE r own) with
    | some r1 => (E kk r1 m).bind fun x m => (E vv r1 m).bind fun y m => .ok (some (.tup [x, y])) m
    | none => .bad) sc sc.len 0 m).bind fun ds m => if ds.length ≤ line then (match pairsD ds with
      | some kvs => .ok (.dct (mergeD [] kvs)) m
      | none => .bad) else .bad
  | .dct ks vs, r, m => (Es vs r m).bind fun vd m => if ks.length = vd.length ∧ ks.length ≤ 15 then .ok (.dct (mergeD [] (ks.zip vd))) m else .bad
def EI : II → Ev → Mu → R Sc
  | .seq a, r, m => (E a r m).bind fun x m => (match x with
    | .loc n => (match m[n]? with
      | some (.lst ds) => .ok (.plc n ds.length) m
      | _ => .bad)
    | x => .opt ((itemsD x).map .its) m)
  | .rng a, r, m => (E a r m).bind fun x m => (match x with
    | .int j => .opt ((rangeD 0 j).map .its) m
    | _ => .bad)
  | .rng2 a b, r, m => (E a r m).bind fun x m => (E b r m).bind fun y m => (match x, y with
    | .int i, .int j => .opt ((rangeD i j).map .its) m
    | _, _ => .bad)
  | .enm a, r, m => (E a r m).bind fun x m => (match x with
    | .lst xs => .ok (.its (enmL xs)) m
    | _ => .bad)
end
mutual
def S : IS → Ev → Mu → R Fl
  | .asg t e, r, m => (E T k F e r m).bind fun d m => .opt ((bindT t d r).map .nx) m
  | .par i j a b, r, m => (E T k F a r m).bind fun x m => (E T k F b r m).bind fun y m => if i < r.length ∧ j < r.length then .ok (.nx ((r.set i (some x)).set j (some y))) m else .bad
  | .sta o f e, r, m => (E T k F e r m).bind fun d m => (E T k F o r m).bind fun x m => (match staD T x f d m with
    | some m => .ok (.nx r) m
    | none => .bad)
  | .sti o i e, r, m => (E T k F e r m).bind fun d m => (E T k F o r m).bind fun x m => (E T k F i r m).bind fun y m => (match stiD x y d m with
    | some m => .ok (.nx r) m
    | none => .bad)
  | .aug i op e, r, m => (match r[i]? with
    | some (some x) => (E T k F e r m).bind fun y m => .opt ((augD op x y).map fun d => .nx (r.set i (some d))) m
    | _ => .bad)
  | .exp e, r, m => (E T k F e r m).bind fun _ m => .ok (.nx r) m
  | .mut mm o a, r, m => (E T k F o r m).bind fun x m => if lstAt m x then (E T k F a r m).bind fun y m => (match mutD mm x y m with
    | some m => .ok (.nx r) m
    | none => .bad) else .bad
  | .ret e, r, m => (E T k F e r m).bind fun d m => .ok (.rt d) m
  | .ifs c a b, r, m => (E T k F c r m).bind fun x m => (match x with
    | .bl true => Ss a r m
    | .bl false => Ss b r m
    | _ => .bad)
  | .for_ t s b, r, m => (EI T k F s r m).bind fun sc m => turnsS (fun x r m => match bindT t x r with
    | some r1 => Ss b r1 m
    | none => .bad) sc sc.len 0 r m
  | .rai c as, r, m => (Es T k F as r m).bind fun ds m => (match (T[c]?).bind Cls.exf with
    | some fs => if fs.length = ds.length then .exc c (fs.zip ds) m else .bad
    | none => .bad)
  | .sup c f as, r, m => (match r[0]? with
    | some (some x) => if clsOf m x = some c then (Es T k F as r m).bind fun ds m => (F f (x :: ds) m).bind fun _ m => .ok (.nx r) m else .bad
    | _ => .bad)
  | .pas, r, m => .ok (.nx r) m
  | .con, r, m => .ok (.ct r) m
  | .brk, r, m => .ok (.bk r) m
  | .pr3 i j l a b c, r, m => (E T k F a r m).bind fun x m => (E T k F b r m).bind fun y m => (E T k F c r m).bind fun z m => if i < r.length ∧ j < r.length ∧ l < r.length then .ok (.nx (((r.set i (some x)).set j (some y)).set l (some z))) m else .bad
  | .dea, _, _ => .bad
def Ss : ISs → Ev → Mu → R Fl
  | .nil, r, m => .ok (.nx r) m
  | .cons s ss, r, m => (S s r m).bind fun fl m => (match fl with
    | .nx r => Ss ss r m
    | fl => .ok fl m)
end
end
/-- a function: how many arguments, how many names, its body -/
structure Fn where
  ar : Nat
  nn : Nat
  body : ISs
abbrev Fns := List Fn
def run (T : Tab) (P : Fns) : Nat → Nat → List D → Mu → R D
  | 0, _, _, _ => .bad
  | k + 1, f, ds, m => (match P[f]? with
    | some q => if ds.length = q.ar then (Ss T k (run T P k) q.body (ds.map some ++ List.replicate (q.nn - ds.length) none) m).bind fun fl m => (match fl with
      | .nx _ => .ok .non m
      | .rt d => .ok d m
      | _ => .bad) else .bad
    | none => .bad)
end
end Rs

/-! part RsRep -/
set_option Elab.async false
set_option linter.all false
set_option maxRecDepth 100000
namespace Rs
open PySem L2

/-- where the classes stand, what the names of attributes are -/
structure Gm where
  K : PySem.W.Frag
  C : Nat → Addr
  nm : Nat → Str

/-! ### what stands for what: G the part of the heap that does not change any more, la where the places of the store are -/
mutual
inductive Rep (g : Gm) (G : Hp) (la : List Addr) : D → V → Prop
  | non : Rep g G la .non .non
  | bl (b : Bool) : Rep g G la (.bl b) (.bl b)
  | int (i : Int) : Rep g G la (.int i) (.int i)
  | str (s : Str) : Rep g G la (.str s) (.str s)
  | tup {a : Addr} {vs : List V} {ds : List D} : SqT g.K G a vs → RepL g G la ds vs → Rep g G la (.tup ds) (.ref a)
  | lst {a : Addr} {vs : List V} {ds : List D} : G a = some (.lst vs) → RepL g G la ds vs → Rep g G la (.lst ds) (.ref a)
  | scr {a : Addr} {ns : List Int} : SqL g.K G a (ns.map V.int) → Rep g G la (.scr ns) (.ref a)
  | dct {a : Addr} {kvs : List (Key × D)} {kws : List (Key × V)} : G a = some (.dK kws) → kws.map (·.1) = kvs.map (·.1) → RepL g G la (kvs.map (·.2)) (kws.map (·.2)) → Rep g G la (.dct kvs) (.ref a)
  | ins {c : Nat} {a dx : Addr} {fs : List (Nat × D)} {fvs : List (Str × V)} : G a = some (.ins (g.C c) dx fvs) → fvs.map (·.1) = fs.map (fun p => g.nm p.1) → RepL g G la (fs.map (·.2)) (fvs.map (·.2)) → Rep g G la (.ins c fs) (.ref a)
  | loc {n : Nat} {a : Addr} : la[n]? = some a → Rep g G la (.loc n) (.ref a)
inductive RepL (g : Gm) (G : Hp) (la : List Addr) : List D → List V → Prop
  | nil : RepL g G la [] []
  | cons {d : D} {v : V} {ds : List D} {vs : List V} : Rep g G la d v → RepL g G la ds vs → RepL g G la (d :: ds) (v :: vs)
end
theorem sqT_up {K : PySem.W.Frag} {G G' : Hp} {a : Addr} {xs : List V} (e : ∀ a o, G a = some o → G' a = some o) (h : SqT K G a xs) : SqT K G' a xs :=
  h.elim (fun h => .inl (h.elim (fun h => .inl (e _ _ h)) fun ⟨o, h⟩ => .inr ⟨o, e _ _ h⟩)) fun h => .inr h
theorem sqL_up {K : PySem.W.Frag} {G G' : Hp} {a : Addr} {xs : List V} (e : ∀ a o, G a = some o → G' a = some o) (h : SqL K G a xs) : SqL K G' a xs :=
  h.elim (fun h => .inl (h.elim (fun h => .inl (e _ _ h)) fun ⟨o, h⟩ => .inr ⟨o, e _ _ h⟩)) fun h => .inr h
section
variable {g : Gm} {G G' : Hp} {la la' : List Addr}
mutual
theorem Rep.up {d : D} {v : V} (e : ∀ a o, G a = some o → G' a = some o) (l : ∀ (n : Nat) (a : Addr), la[n]? = some a → la'[n]? = some a) : Rep g G la d v → Rep g G' la' d v
  | .non => .non
  | .bl b => .bl b
  | .int i => .int i
  | .str s => .str s
  | .tup h r => .tup (sqT_up e h) (r.up e l)
  | .lst h r => .lst (e _ _ h) (r.up e l)
  | .scr h => .scr (sqL_up e h)
  | .dct h k r => .dct (e _ _ h) k (r.up e l)
  | .ins h k r => .ins (e _ _ h) k (r.up e l)
  | .loc h => .loc (l _ _ h)
theorem RepL.up {ds : List D} {vs : List V} (e : ∀ a o, G a = some o → G' a = some o) (l : ∀ (n : Nat) (a : Addr), la[n]? = some a → la'[n]? = some a) : RepL g G la ds vs → RepL g G' la' ds vs
  | .nil => .nil
  | .cons h r => .cons (h.up e l) (r.up e l)
end
theorem RepL.length {ds : List D} {vs : List V} : RepL g G la ds vs → ds.length = vs.length
  | .nil => rfl
  | .cons _ r => by rw [List.length_cons, List.length_cons, r.length]
theorem RepL.get : ∀ {ds : List D} {vs : List V} {i : Nat} {d : D}, RepL g G la ds vs → ds[i]? = some d → ∃ v, vs[i]? = some v ∧ Rep g G la d v
  | _, _, _, _, .nil, h => by simp at h
  | _, _, 0, _, .cons h _, e => by simp at e; subst e; exact ⟨_, rfl, h⟩
  | _, _, i + 1, _, .cons _ r, e => by
    obtain ⟨v, h1, h2⟩ := RepL.get (i := i) r (by simpa using e)
    exact ⟨v, by simpa using h1, h2⟩
theorem RepL.app : ∀ {ds es : List D} {vs ws : List V}, RepL g G la ds vs → RepL g G la es ws → RepL g G la (ds ++ es) (vs ++ ws)
  | _, _, _, _, .nil, s => s
  | _, _, _, _, .cons h r, s => .cons h (r.app s)
theorem RepL.drop : ∀ {ds : List D} {vs : List V} (n : Nat), RepL g G la ds vs → RepL g G la (ds.drop n) (vs.drop n)
  | _, _, 0, r => r
  | _, _, _ + 1, .nil => .nil
  | _, _, n + 1, .cons _ r => RepL.drop n r
theorem RepL.take : ∀ {ds : List D} {vs : List V} (n : Nat), RepL g G la ds vs → RepL g G la (ds.take n) (vs.take n)
  | _, _, 0, _ => .nil
  | _, _, _ + 1, .nil => .nil
  | _, _, n + 1, .cons h r => .cons h (RepL.take n r)
theorem RepL.set : ∀ {ds : List D} {vs : List V} {d : D} {v : V} (n : Nat), Rep g G la d v → RepL g G la ds vs → RepL g G la (ds.set n d) (vs.set n v)
  | _, _, _, _, _, _, .nil => .nil
  | _, _, _, _, 0, h, .cons _ r => .cons h r
  | _, _, _, _, n + 1, h, .cons q r => .cons q (RepL.set n h r)
theorem RepL.one {d : D} {v : V} (h : Rep g G la d v) : RepL g G la [d] [v] := .cons h .nil
end

/-- a state of the two worlds -/
structure Wd where
  G : Hp
  H : Hp
  la : List Addr
  mu : Mu
/-- a mutable object stands at a -/
def MRep (g : Gm) (w : Wd) (a : Addr) : MO → Prop
  | .lst ds => ∃ vs, w.H a = some (.lst vs) ∧ RepL g w.G w.la ds vs
  | .dct kvs => ∃ kws : List (Key × V), w.H a = some (.dK kws) ∧ kws.map (·.1) = kvs.map (·.1) ∧ RepL g w.G w.la (kvs.map (·.2)) (kws.map (·.2))
  | .ins c fs => ∃ (dx : Addr) (fvs : List (Str × V)), w.H a = some (.ins (g.C c) dx fvs) ∧ fvs.map (·.1) = fs.map (fun p => g.nm p.1) ∧ RepL g w.G w.la (fs.map (·.2)) (fvs.map (·.2))
  | .dead => True
structure Ok (g : Gm) (w : Wd) : Prop where
  sub : ∀ a o, w.G a = some o → w.H a = some o
  len : w.la.length = w.mu.length
  nd : w.la.Nodup
  liv : ∀ (n : Nat) (a : Addr) (mo : MO), w.la[n]? = some a → w.mu[n]? = some mo → MRep g w a mo
  sep : ∀ (n : Nat) (a : Addr), w.la[n]? = some a → w.G a ≠ none → w.mu[n]? = some .dead
  inH : ∀ a, a ∈ w.la → w.H a ≠ none
/-- from here to there: data stays, what is foreign stays, new is new -/
structure Grow (w w' : Wd) : Prop where
  G : ∀ a o, w.G a = some o → w'.G a = some o
  la : ∀ (n : Nat) (a : Addr), w.la[n]? = some a → w'.la[n]? = some a
  newG : ∀ b, w'.G b ≠ none → w.G b ≠ none ∨ b ∈ w.la ∨ w.H b = none
  newL : ∀ b, b ∈ w'.la → b ∈ w.la ∨ w.H b = none
  keep : ∀ b o, w.H b = some o → w.G b = none → b ∉ w.la → w'.H b = some o
  there : ∀ b, w'.H b = none → w.H b = none
theorem Grow.refl (w : Wd) : Grow w w := ⟨fun _ _ h => h, fun _ _ h => h, fun _ h => .inl h, fun _ h => .inl h, fun _ _ h _ _ => h, fun _ h => h⟩
theorem Grow.trans {w w1 w2 : Wd} (a : Grow w w1) (b : Grow w1 w2) : Grow w w2 where
  G := fun c o h => b.G c o (a.G c o h)
  la := fun n c h => b.la n c (a.la n c h)
  newG := fun c h => by
    rcases b.newG c h with h | h | h
    · exact a.newG c h
    · exact .inr (a.newL c h)
    · exact .inr (.inr (a.there c h))
  newL := fun c h => by
    rcases b.newL c h with h | h
    · exact a.newL c h
    · exact .inr (a.there c h)
  keep := fun c o h hg hl => by
    have h1 := a.keep c o h hg hl
    refine b.keep c o h1 ?_ ?_
    · cases q : w1.G c with
      | none => rfl
      | some o' =>
        rcases a.newG c (by rw [q]; exact fun z => nomatch z) with z | z | z
        · exact absurd hg z
        · exact absurd z hl
        · rw [h] at z
          cases z
    · intro hm
      rcases a.newL c hm with z | z
      · exact hl z
      · rw [h] at z
        cases z
  there := fun c h => a.there c (b.there c h)
section
variable {g : Gm} {w w' : Wd}
theorem Rep.grow {d : D} {v : V} (h : Rep g w.G w.la d v) (e : Grow w w') : Rep g w'.G w'.la d v := h.up e.G e.la
theorem RepL.grow {ds : List D} {vs : List V} (h : RepL g w.G w.la ds vs) (e : Grow w w') : RepL g w'.G w'.la ds vs := h.up e.G e.la
theorem MRep.up {a : Addr} {mo : MO} (h : MRep g w a mo) (e : Grow w w') (k : w'.H a = w.H a) : MRep g w' a mo := by
  cases mo with
  | lst ds =>
    obtain ⟨vs, h1, h2⟩ := h
    exact ⟨vs, k.trans h1, h2.grow e⟩
  | dct kvs =>
    obtain ⟨kws, h1, h2, h3⟩ := h
    exact ⟨kws, k.trans h1, h2, h3.grow e⟩
  | ins c fs =>
    obtain ⟨dx, fvs, h1, h2, h3⟩ := h
    exact ⟨dx, fvs, k.trans h1, h2, h3.grow e⟩
  | dead => trivial
theorem Ok.fresh {p : Addr} (ok : Ok g w) (h : w.H p = none) : w.G p = none ∧ p ∉ w.la := by
  refine ⟨?_, fun hm => ok.inH p hm h⟩
  cases q : w.G p with
  | none => rfl
  | some o =>
    have z := ok.sub p o q
    rw [h] at z
    cases z
/-- a new foreign object -/
theorem Grow.alien {p : Addr} {o : HO} (h : w.H p = none) : Grow w { w with H := upd w.H p o } where
  G := fun _ _ h => h
  la := fun _ _ h => h
  newG := fun _ h => .inl h
  newL := fun _ h => .inl h
  keep := fun b u e _ _ => by
    show upd w.H p o b = some u
    rw [upd_ne (ne_of_none e h)]
    exact e
  there := fun b e => by
    by_cases hb : b = p
    · rw [hb]
      exact h
    · exact (upd_ne hb).symm.trans e
theorem Ok.alien {p : Addr} {o : HO} (ok : Ok g w) (h : w.H p = none) : Ok g { w with H := upd w.H p o } where
  sub := fun a u e => by
    show upd w.H p o a = some u
    rw [upd_ne (ne_of_none (ok.sub a u e) h)]
    exact ok.sub a u e
  len := ok.len
  nd := ok.nd
  liv := fun n a mo e1 e2 => (ok.liv n a mo e1 e2).up (Grow.alien h) (upd_ne fun z => (ok.fresh h).2 (z ▸ List.mem_of_getElem? e1))
  sep := ok.sep
  inH := fun a ha e => by
    have hp : a ≠ p := fun z => (ok.fresh h).2 (z ▸ ha)
    exact ok.inH a ha ((upd_ne hp).symm.trans e)
/-- an object that is new since w' and foreign becomes data -/
theorem Grow.data {p : Addr} {o : HO} (hg : Grow w' w) (h : w.H p = some o) (hG : w.G p = none) (h0 : w'.H p = none) : Grow w' { w with G := upd w.G p o } where
  G := fun a u e => by
    have z := hg.G a u e
    show upd w.G p o a = some u
    rw [upd_ne (fun q => by rw [q, hG] at z; cases z)]
    exact z
  la := hg.la
  newG := fun b e => by
    by_cases hb : b = p
    · exact .inr (.inr (hb ▸ h0))
    · refine hg.newG b fun z => e ?_
      show upd w.G p o b = none
      rw [upd_ne hb]
      exact z
  newL := hg.newL
  keep := hg.keep
  there := hg.there
theorem gup {p : Addr} {o : HO} (hG : w.G p = none) : ∀ a u, w.G a = some u → upd w.G p o a = some u := fun a u z => by
  rw [upd_ne (fun q => by rw [q, hG] at z; cases z)]
  exact z
theorem MRep.ups {a : Addr} {mo : MO} {w1 : Wd} (h : MRep g w a mo) (e : ∀ a o, w.G a = some o → w1.G a = some o) (l : ∀ (n : Nat) (a : Addr), w.la[n]? = some a → w1.la[n]? = some a) (k : w1.H a = w.H a) : MRep g w1 a mo := by
  cases mo with
  | lst ds =>
    obtain ⟨vs, h1, h2⟩ := h
    exact ⟨vs, k.trans h1, h2.up e l⟩
  | dct kvs =>
    obtain ⟨kws, h1, h2, h3⟩ := h
    exact ⟨kws, k.trans h1, h2, h3.up e l⟩
  | ins c fs =>
    obtain ⟨dx, fvs, h1, h2, h3⟩ := h
    exact ⟨dx, fvs, k.trans h1, h2, h3.up e l⟩
  | dead => trivial
theorem Ok.data {p : Addr} {o : HO} (ok : Ok g w) (h : w.H p = some o) (hG : w.G p = none) (hl : p ∉ w.la) : Ok g { w with G := upd w.G p o } where
  sub := fun a u e => by
    have e : upd w.G p o a = some u := e
    by_cases ha : a = p
    · subst ha
      rw [upd_same] at e
      rw [← e]
      exact h
    · rw [upd_ne ha] at e
      exact ok.sub a u e
  len := ok.len
  nd := ok.nd
  liv := fun n a mo e1 e2 => (ok.liv n a mo e1 e2).ups (gup hG) (fun _ _ z => z) rfl
  sep := fun n a e1 e2 => ok.sep n a e1 fun z => e2 (by
    have hne : a ≠ p := fun q => hl (q ▸ List.mem_of_getElem? e1)
    show upd w.G p o a = none
    rw [upd_ne hne]
    exact z)
  inH := ok.inH
/-- .. becomes a place -/
theorem app_get {α : Type} {l : List α} {x : α} {n : Nat} {a : α} (h : l[n]? = some a) : (l ++ [x])[n]? = some a := by
  rw [List.getElem?_append_left (List.getElem?_eq_some_iff.mp h).1]
  exact h
theorem Grow.place {p : Addr} {mo : MO} (hg : Grow w' w) (h0 : w'.H p = none) : Grow w' { w with la := w.la ++ [p], mu := w.mu ++ [mo] } where
  G := hg.G
  la := fun n a e => app_get (hg.la n a e)
  newG := hg.newG
  newL := fun b hb => by
    rcases List.mem_append.mp hb with hb | hb
    · exact hg.newL b hb
    · exact .inr (by rw [List.mem_singleton.mp hb]; exact h0)
  keep := hg.keep
  there := hg.there
theorem Ok.place {p : Addr} {mo : MO} (ok : Ok g w) (hp : w.H p ≠ none) (hG : w.G p = none) (hl : p ∉ w.la) (hm : MRep g w p mo) : Ok g { w with la := w.la ++ [p], mu := w.mu ++ [mo] } where
  sub := ok.sub
  len := by
    show (w.la ++ [p]).length = (w.mu ++ [mo]).length
    rw [List.length_append, List.length_append, ok.len]
    rfl
  nd := by
    show (w.la ++ [p]).Nodup
    rw [List.nodup_append]
    refine ⟨ok.nd, List.nodup_cons.mpr ⟨by simp, List.nodup_nil⟩, fun a ha b hb => ?_⟩
    rw [List.mem_singleton.mp hb]
    exact fun z => hl (z ▸ ha)
  liv := fun n a mo' e1 e2 => by
    have e1 : (w.la ++ [p])[n]? = some a := e1
    have e2 : (w.mu ++ [mo])[n]? = some mo' := e2
    have up : ∀ {a : Addr} {mo : MO}, MRep g w a mo → MRep g { w with la := w.la ++ [p], mu := w.mu ++ [mo] } a mo := fun h => h.ups (fun _ _ z => z) (fun _ _ z => app_get z) rfl
    by_cases hn : n < w.la.length
    · rw [List.getElem?_append_left hn] at e1
      rw [List.getElem?_append_left (ok.len ▸ hn)] at e2
      exact (ok.liv n a mo' e1 e2).ups (fun _ _ z => z) (fun _ _ z => app_get z) rfl
    · have h1 := Nat.le_of_not_lt hn
      rw [List.getElem?_append_right h1] at e1
      rw [List.getElem?_append_right (ok.len ▸ h1), ← ok.len] at e2
      cases hk : n - w.la.length with
      | zero =>
        rw [hk] at e1 e2
        cases e1
        cases e2
        exact hm.ups (fun _ _ z => z) (fun _ _ z => app_get z) rfl
      | succ j =>
        rw [hk] at e1
        cases e1
  sep := fun n a e1 e2 => by
    have e1 : (w.la ++ [p])[n]? = some a := e1
    by_cases hn : n < w.la.length
    · rw [List.getElem?_append_left hn] at e1
      exact app_get (ok.sep n a e1 e2)
    · rw [List.getElem?_append_right (Nat.le_of_not_lt hn)] at e1
      have ha : a = p := by
        have z := List.mem_of_getElem? e1
        exact List.mem_singleton.mp z
      exact absurd hG (ha ▸ e2)
  inH := fun a ha => by
    rcases List.mem_append.mp ha with ha | ha
    · exact ok.inH a ha
    · rw [List.mem_singleton.mp ha]
      exact hp
/-- a place is written -/
theorem nd_at {l : List Addr} (hN : l.Nodup) {i j : Nat} {x : Addr} (a : l[i]? = some x) (b : l[j]? = some x) : i = j := by
  obtain ⟨h1, e1⟩ := List.getElem?_eq_some_iff.mp a
  obtain ⟨h2, e2⟩ := List.getElem?_eq_some_iff.mp b
  exact (List.getElem_inj hN).mp (e1.trans e2.symm)
theorem Grow.write {a : Addr} {n : Nat} {o : HO} {mo : MO} (hl : w.la[n]? = some a) : Grow w { w with H := upd w.H a o, mu := w.mu.set n mo } where
  G := fun _ _ h => h
  la := fun _ _ h => h
  newG := fun _ h => .inl h
  newL := fun _ h => .inl h
  keep := fun b u e _ hb => by
    have hne : b ≠ a := fun z => hb (z ▸ List.mem_of_getElem? hl)
    show upd w.H a o b = some u
    rw [upd_ne hne]
    exact e
  there := fun b e => by
    have e : upd w.H a o b = none := e
    by_cases hb : b = a
    · rw [hb, upd_same] at e
      cases e
    · rw [upd_ne hb] at e
      exact e
theorem Ok.write {a : Addr} {n : Nat} {o : HO} {mo mo0 : MO} (ok : Ok g w) (hl : w.la[n]? = some a) (h0 : w.mu[n]? = some mo0) (hd : mo0 ≠ .dead) (hm : MRep g { w with H := upd w.H a o, mu := w.mu.set n mo } a mo) : Ok g { w with H := upd w.H a o, mu := w.mu.set n mo } where
  sub := fun b u e => by
    show upd w.H a o b = some u
    have hb : b ≠ a := fun z => by
      have q := ok.sep n a hl (by rw [← z, show w.G b = some u from e]; exact fun q => nomatch q)
      rw [h0] at q
      exact hd (Option.some.inj q)
    rw [upd_ne hb]
    exact ok.sub b u e
  len := by
    show w.la.length = (w.mu.set n mo).length
    rw [List.length_set]
    exact ok.len
  nd := ok.nd
  liv := fun j b mo' e1 e2 => by
    have e2 : (w.mu.set n mo)[j]? = some mo' := e2
    by_cases hj : n = j
    · subst hj
      have z : a = b := Option.some.inj (hl.symm.trans e1)
      subst z
      rw [List.getElem?_set_self (List.getElem?_eq_some_iff.mp h0).1] at e2
      cases e2
      exact hm
    · rw [List.getElem?_set_ne hj] at e2
      refine (ok.liv j b mo' e1 e2).ups (fun _ _ z => z) (fun _ _ z => z) ?_
      show upd w.H a o b = w.H b
      exact upd_ne fun z => hj (nd_at ok.nd hl (z ▸ e1))
  sep := fun j b e1 e2 => by
    show (w.mu.set n mo)[j]? = some .dead
    have z := ok.sep j b e1 e2
    by_cases hj : n = j
    · subst hj
      rw [h0] at z
      exact absurd (Option.some.inj z) hd
    · rw [List.getElem?_set_ne hj]
      exact z
  inH := fun b hb e => by
    have e : upd w.H a o b = none := e
    by_cases hba : b = a
    · rw [hba, upd_same] at e
      cases e
    · rw [upd_ne hba] at e
      exact ok.inH b hb e
/-- a place becomes data -/
theorem Grow.freeze {a : Addr} {n : Nat} {o : HO} (hl : w.la[n]? = some a) (hG : w.G a = none) : Grow w { w with G := upd w.G a o, mu := w.mu.set n .dead } where
  G := gup hG
  la := fun _ _ h => h
  newG := fun b e => by
    by_cases hb : b = a
    · exact .inr (.inl (hb ▸ List.mem_of_getElem? hl))
    · refine .inl fun z => e ?_
      show upd w.G a o b = none
      rw [upd_ne hb]
      exact z
  newL := fun _ h => .inl h
  keep := fun _ _ h _ _ => h
  there := fun _ h => h
theorem Ok.freeze {a : Addr} {n : Nat} {o : HO} (ok : Ok g w) (hl : w.la[n]? = some a) (hG : w.G a = none) (hH : w.H a = some o) : Ok g { w with G := upd w.G a o, mu := w.mu.set n .dead } where
  sub := fun b u e => by
    have e : upd w.G a o b = some u := e
    by_cases hb : b = a
    · subst hb
      rw [upd_same] at e
      rw [← e]
      exact hH
    · rw [upd_ne hb] at e
      exact ok.sub b u e
  len := by
    show w.la.length = (w.mu.set n .dead).length
    rw [List.length_set]
    exact ok.len
  nd := ok.nd
  liv := fun j b mo' e1 e2 => by
    have e2 : (w.mu.set n .dead)[j]? = some mo' := e2
    by_cases hj : n = j
    · subst hj
      have h1 : n < w.mu.length := by
        rw [← ok.len]
        exact (List.getElem?_eq_some_iff.mp hl).1
      rw [List.getElem?_set_self h1] at e2
      cases e2
      trivial
    · rw [List.getElem?_set_ne hj] at e2
      exact (ok.liv j b mo' e1 e2).ups (gup hG) (fun _ _ z => z) rfl
  sep := fun j b e1 e2 => by
    show (w.mu.set n .dead)[j]? = some .dead
    by_cases hj : n = j
    · subst hj
      have h1 : n < w.mu.length := by
        rw [← ok.len]
        exact (List.getElem?_eq_some_iff.mp hl).1
      rw [List.getElem?_set_self h1]
    · rw [List.getElem?_set_ne hj]
      have hne : b ≠ a := fun q => hj (nd_at ok.nd hl (q ▸ e1))
      refine ok.sep j b e1 fun z => e2 ?_
      show upd w.G a o b = none
      rw [upd_ne hne]
      exact z
  inH := ok.inH
theorem Ok.unG {a : Addr} {n : Nat} {mo : MO} (ok : Ok g w) (hl : w.la[n]? = some a) (h0 : w.mu[n]? = some mo) (hd : mo ≠ .dead) : w.G a = none := by
  cases q : w.G a with
  | none => rfl
  | some o =>
    have z := ok.sep n a hl (by rw [q]; exact fun q => nomatch q)
    rw [h0] at z
    exact absurd (Option.some.inj z) hd
end

/-! ### what an answer of the pure side promises -/
/-- an exception: its class, its own dict -/
def ExcR (g : Gm) (w : Wd) (c : Nat) (fs : List (Nat × D)) (cls : Value) (d : Option Addr) : Prop :=
  cls = .ref (g.C c) ∧ ((fs = [] ∧ d = none) ∨ ∃ (dx : Addr) (fvs : List (Str × V)), d = some dx ∧ w.H dx = some (.xd fvs) ∧ fvs.map (·.1) = fs.map (fun p => g.nm p.1) ∧ RepL g w.G w.la (fs.map (·.2)) (fvs.map (·.2)))
abbrev WR := Nat → List (Nat × D) → Wd → Prop
def Sat {α : Type} (g : Gm) (w : Wd) (W : WR) (r : R α) (P : α → Wd → Prop) : Prop := match r with
  | .ok a m => ∀ w', w'.mu = m → Grow w w' → Ok g w' → P a w'
  | .exc c fs m => ∀ w', w'.mu = m → Grow w w' → Ok g w' → W c fs w'
  | .bad => False
section
variable {g : Gm} {w : Wd} {W : WR} {α β : Type}
theorem Sat.imp {r : R α} {P P' : α → Wd → Prop} (h : Sat g w W r P) (f : ∀ a w', Grow w w' → Ok g w' → P a w' → P' a w') : Sat g w W r P' := by
  cases r with
  | ok a m => exact fun w' e gr ok => f a w' gr ok (h w' e gr ok)
  | exc c fs m => exact h
  | bad => exact h
theorem Sat.bind {r : R α} {k : α → Mu → R β} {P : β → Wd → Prop} (h : Sat g w W (r.bind k) P) : Sat g w W r (fun a w1 => Sat g w1 W (k a w1.mu) P) := by
  cases r with
  | ok a m =>
    intro w1 e gr ok
    have h : Sat g w W (k a m) P := h
    rw [e]
    cases q : k a m with
    | ok b m2 =>
      rw [q] at h
      exact fun w' e' gr' ok' => h w' e' (gr.trans gr') ok'
    | exc c fs m2 =>
      rw [q] at h
      exact fun w' e' gr' ok' => h w' e' (gr.trans gr') ok'
    | bad =>
      rw [q] at h
      exact h
  | exc c fs m => exact h
  | bad => exact h
theorem Sat.up {w0 : Wd} {r : R α} {P : α → Wd → Prop} (h : Sat g w0 W r P) (e : Grow w0 w) : Sat g w W r P := by
  cases r with
  | ok a m => exact fun w' q gr ok => h w' q (e.trans gr) ok
  | exc c fs m => exact fun w' q gr ok => h w' q (e.trans gr) ok
  | bad => exact h
/-- an answer that is there -/
theorem Sat.now {a : α} {P : α → Wd → Prop} (h : Sat g w W (.ok a w.mu) P) (ok : Ok g w) : P a w := h w rfl (Grow.refl w) ok
theorem Sat.opt {o : Option α} {P : α → Wd → Prop} (h : Sat g w W (R.opt o w.mu) P) (ok : Ok g w) : ∃ a, o = some a ∧ P a w := by
  cases o with
  | some a => exact ⟨a, rfl, h.now ok⟩
  | none => exact h.elim
end
end Rs

/-! part RsOp -/
set_option Elab.async false
set_option linter.all false
set_option maxRecDepth 100000
namespace Rs
open PySem L2

section
variable {g : Gm} {w : Wd} {d : D} {v : V}
theorem line_eq : line = sizeLine := by rw [sizeLine_eq, line_val]
theorem lookLoc {n : Nat} {d : D} (e : look w.mu (.loc n) = d) : (∃ ds, w.mu[n]? = some (.lst ds) ∧ d = .lst ds) ∨ (∃ kvs, w.mu[n]? = some (.dct kvs) ∧ d = .dct kvs) ∨ (∃ c fs, w.mu[n]? = some (.ins c fs) ∧ d = .ins c fs) ∨ d = .loc n := by
  have e : seen w.mu[n]? n = d := e
  cases q : w.mu[n]? with
  | none =>
    rw [q] at e
    exact .inr (.inr (.inr e.symm))
  | some mo =>
    rw [q] at e
    cases mo with
    | lst ds => exact .inl ⟨ds, rfl, e.symm⟩
    | dct kvs => exact .inr (.inl ⟨kvs, rfl, e.symm⟩)
    | ins c fs => exact .inr (.inr (.inl ⟨c, fs, rfl, e.symm⟩))
    | dead => exact .inr (.inr (.inr e.symm))
theorem repI {i : Int} (h : Rep g w.G w.la d v) (e : look w.mu d = .int i) : v = .int i ∧ d = .int i := by
  cases h with
  | loc h =>
    rcases lookLoc e with ⟨_, _, h2⟩ | ⟨_, _, h2⟩ | ⟨_, _, _, h2⟩ | h2
    all_goals cases h2
  | int j => cases e; exact ⟨rfl, rfl⟩
  | _ => cases e
theorem repB {b : Bool} (h : Rep g w.G w.la d v) (e : look w.mu d = .bl b) : v = .bl b ∧ d = .bl b := by
  cases h with
  | loc h =>
    rcases lookLoc e with ⟨_, _, h2⟩ | ⟨_, _, h2⟩ | ⟨_, _, _, h2⟩ | h2
    all_goals cases h2
  | bl j => cases e; exact ⟨rfl, rfl⟩
  | _ => cases e
theorem repS {s : Str} (h : Rep g w.G w.la d v) (e : look w.mu d = .str s) : v = .str s ∧ d = .str s := by
  cases h with
  | loc h =>
    rcases lookLoc e with ⟨_, _, h2⟩ | ⟨_, _, h2⟩ | ⟨_, _, _, h2⟩ | h2
    all_goals cases h2
  | str j => cases e; exact ⟨rfl, rfl⟩
  | _ => cases e
theorem repN (h : Rep g w.G w.la d v) (e : look w.mu d = .non) : v = .non ∧ d = .non := by
  cases h with
  | loc h =>
    rcases lookLoc e with ⟨_, _, h2⟩ | ⟨_, _, h2⟩ | ⟨_, _, _, h2⟩ | h2
    all_goals cases h2
  | non => cases e; exact ⟨rfl, rfl⟩
  | _ => cases e
theorem repL {ds : List D} (ok : Ok g w) (h : Rep g w.G w.la d v) (e : look w.mu d = .lst ds) : ∃ a vs, v = .ref a ∧ w.H a = some (.lst vs) ∧ RepL g w.G w.la ds vs := by
  cases h with
  | loc h =>
    rcases lookLoc e with ⟨ds', h1, h2⟩ | ⟨_, _, h2⟩ | ⟨_, _, _, h2⟩ | h2
    · cases h2
      obtain ⟨vs, q1, q2⟩ := ok.liv _ _ _ h h1
      exact ⟨_, vs, rfl, q1, q2⟩
    all_goals cases h2
  | lst h r =>
    cases e
    exact ⟨_, _, rfl, ok.sub _ _ h, r⟩
  | _ => cases e
theorem repT {ds : List D} (ok : Ok g w) (h : Rep g w.G w.la d v) (e : look w.mu d = .tup ds) : ∃ a vs, v = .ref a ∧ SqT g.K w.H a vs ∧ RepL g w.G w.la ds vs := by
  cases h with
  | loc h =>
    rcases lookLoc e with ⟨_, _, h2⟩ | ⟨_, _, h2⟩ | ⟨_, _, _, h2⟩ | h2
    all_goals cases h2
  | tup h r =>
    cases e
    exact ⟨_, _, rfl, sqT_up ok.sub h, r⟩
  | _ => cases e
theorem repR {ns : List Int} (ok : Ok g w) (h : Rep g w.G w.la d v) (e : look w.mu d = .scr ns) : ∃ a, v = .ref a ∧ SqL g.K w.H a (ns.map V.int) := by
  cases h with
  | loc h =>
    rcases lookLoc e with ⟨_, _, h2⟩ | ⟨_, _, h2⟩ | ⟨_, _, _, h2⟩ | h2
    all_goals cases h2
  | scr h =>
    cases e
    exact ⟨_, rfl, sqL_up ok.sub h⟩
  | _ => cases e
theorem repD {kvs : List (Key × D)} (ok : Ok g w) (h : Rep g w.G w.la d v) (e : look w.mu d = .dct kvs) : ∃ a kws, v = .ref a ∧ w.H a = some (.dK kws) ∧ kws.map (·.1) = kvs.map (·.1) ∧ RepL g w.G w.la (kvs.map (·.2)) (kws.map (·.2)) := by
  cases h with
  | loc h =>
    rcases lookLoc e with ⟨_, _, h2⟩ | ⟨ds', h1, h2⟩ | ⟨_, _, _, h2⟩ | h2
    · cases h2
    · cases h2
      obtain ⟨vs, q1, q2, q3⟩ := ok.liv _ _ _ h h1
      exact ⟨_, vs, rfl, q1, q2, q3⟩
    all_goals cases h2
  | dct h k r =>
    cases e
    exact ⟨_, _, rfl, ok.sub _ _ h, k, r⟩
  | _ => cases e
theorem repX {c : Nat} {fs : List (Nat × D)} (ok : Ok g w) (h : Rep g w.G w.la d v) (e : look w.mu d = .ins c fs) : ∃ a dx fvs, v = .ref a ∧ w.H a = some (.ins (g.C c) dx fvs) ∧ fvs.map (·.1) = fs.map (fun p => g.nm p.1) ∧ RepL g w.G w.la (fs.map (·.2)) (fvs.map (·.2)) := by
  cases h with
  | loc h =>
    rcases lookLoc e with ⟨_, _, h2⟩ | ⟨_, _, h2⟩ | ⟨_, _, h1, h2⟩ | h2
    · cases h2
    · cases h2
    · cases h2
      obtain ⟨dx, vs, q1, q2, q3⟩ := ok.liv _ _ _ h h1
      exact ⟨_, dx, vs, rfl, q1, q2, q3⟩
    all_goals cases h2
  | ins h k r =>
    cases e
    exact ⟨_, _, _, rfl, ok.sub _ _ h, k, r⟩
  | _ => cases e
end

/-! ### a new object that is data -/
section
variable {g : Gm} {w : Wd}
theorem new_lst {p : Addr} {ds : List D} {vs : List V} (ok : Ok g w) (hp : w.H p = none) (r : RepL g w.G w.la ds vs) :
    ∃ w', w'.H = upd w.H p (.lst vs) ∧ w'.mu = w.mu ∧ Grow w w' ∧ Ok g w' ∧ Rep g w'.G w'.la (.lst ds) (.ref p) := by
  have f := ok.fresh hp
  have g1 := Grow.alien (o := .lst vs) hp
  have o1 := ok.alien (o := .lst vs) hp
  have g2 : Grow w ⟨upd w.G p (.lst vs), upd w.H p (.lst vs), w.la, w.mu⟩ := Grow.data (o := .lst vs) g1 (show upd w.H p _ p = _ from upd_same) f.1 hp
  exact ⟨⟨upd w.G p (.lst vs), upd w.H p (.lst vs), w.la, w.mu⟩, rfl, rfl, g2, o1.data (show upd w.H p _ p = _ from upd_same) f.1 f.2, .lst (show upd w.G p (.lst vs) p = some (.lst vs) from upd_same) (r.grow g2)⟩
theorem new_tup {p : Addr} {ds : List D} {vs : List V} (ok : Ok g w) (hp : w.H p = none) (r : RepL g w.G w.la ds vs) :
    ∃ w', w'.H = upd w.H p (.tup vs) ∧ w'.mu = w.mu ∧ Grow w w' ∧ Ok g w' ∧ Rep g w'.G w'.la (.tup ds) (.ref p) := by
  have f := ok.fresh hp
  have g1 := Grow.alien (o := .tup vs) hp
  have o1 := ok.alien (o := .tup vs) hp
  have g2 : Grow w ⟨upd w.G p (.tup vs), upd w.H p (.tup vs), w.la, w.mu⟩ := Grow.data (o := .tup vs) g1 (show upd w.H p _ p = _ from upd_same) f.1 hp
  exact ⟨⟨upd w.G p (.tup vs), upd w.H p (.tup vs), w.la, w.mu⟩, rfl, rfl, g2, o1.data (show upd w.H p _ p = _ from upd_same) f.1 f.2, .tup (.inl (.inl (show upd w.G p (.tup vs) p = some (.tup vs) from upd_same))) (r.grow g2)⟩
end

/-! ### readings -/
def RelS (g : Gm) (w : Wd) (r : Ev) (σ : St) : Prop := r.length = σ.length ∧ ∀ (i : Nat) (d : D), r[i]? = some (some d) → ∃ v, σ[i]? = some (some v) ∧ Rep g w.G w.la d v
theorem RelS.grow {g : Gm} {w w' : Wd} {r : Ev} {σ : St} (h : RelS g w r σ) (e : Grow w w') : RelS g w' r σ :=
  ⟨h.1, fun i d q => let ⟨v, h1, h2⟩ := h.2 i d q; ⟨v, h1, h2.grow e⟩⟩
theorem RelS.set {g : Gm} {w : Wd} {r : Ev} {σ : St} {d : D} {v : V} (h : RelS g w r σ) (i : Nat) (q : Rep g w.G w.la d v) : RelS g w (r.set i (some d)) (σ.set i (some v)) := by
  refine ⟨by rw [List.length_set, List.length_set]; exact h.1, fun j e hj => ?_⟩
  by_cases hij : i = j
  · subst hij
    by_cases hl : i < r.length
    · rw [List.getElem?_set_self hl] at hj
      cases hj
      exact ⟨v, List.getElem?_set_self (h.1 ▸ hl), q⟩
    · rw [List.getElem?_eq_none (by rw [List.length_set]; omega)] at hj
      cases hj
  · rw [List.getElem?_set_ne hij] at hj ⊢
    exact h.2 j e hj
abbrev wr (g : Gm) (W : XK) : WR := fun c fs w' => ∀ cls d, ExcR g w' c fs cls d → W cls d w'.H
abbrev pv1 (g : Gm) (Q : VK) : D → Wd → Prop := fun d w' => ∀ v, Rep g w'.G w'.la d v → Q v w'.H
/-- what the pure side says, as a reading -/
def tE (g : Gm) (sem : Ev → Mu → R D) (W : WX) : TE := fun σ H Q => ∃ (w : Wd) (r : Ev), w.H = H ∧ Ok g w ∧ RelS g w r σ ∧ Sat g w (wr g (WE W σ)) (sem r w.mu) (pv1 g Q)
theorem weakE {X : Cx} {e : Expr} {t t' : TE} (h : PE X e t) (f : ∀ σ H Q, t' σ H Q → t σ H Q) : PE X e t' := ⟨fun pins s σ H Q I q => h.run pins s σ H Q I (f σ H Q q)⟩
theorem orE {X : Cx} {e : Expr} {t u : TE} (h : PE X e t) (h' : PE X e u) : PE X e (fun σ H Q => t σ H Q ∨ u σ H Q) := ⟨fun pins s σ H Q I q => q.elim (h.run pins s σ H Q I) (h'.run pins s σ H Q I)⟩
theorem weakT {X : Cx} {e : Expr} {t t' : TT} (h : PT X e t) (f : ∀ σ H Q, t' σ H Q → t σ H Q) : PT X e t' := ⟨fun pins s σ H Q I q => h.run pins s σ H Q I (f σ H Q q)⟩
theorem weakO {X : Cx} {f : Value → Value → Sem Value} {r r' : R2} (h : OpR X f r) (hh : ∀ x y H Q, r' x y H Q → r x y H Q) : OpR X f r' :=
  fun pins s σ H x y v u Q I rx ry q => h pins s σ H x y v u Q I rx ry (hh _ _ _ _ q)

/-- an operator on values, by the pure one -/
def rOp (g : Gm) (f : Mu → D → D → Option D) : R2 := fun x y H Q => ∃ (w : Wd) (a b d : D), w.H = H ∧ Ok g w ∧ Rep g w.G w.la a x ∧ Rep g w.G w.la b y ∧ f w.mu a b = some d ∧
  ∀ w' v, w'.mu = w.mu → Grow w w' → Ok g w' → Rep g w'.G w'.la d v → Q v w'.H
abbrev semB (f : Mu → D → D → Option D) (sa sb : Ev → Mu → R D) : Ev → Mu → R D := fun ρ m => (sa ρ m).bind fun x m => (sb ρ m).bind fun y m => .opt (f m x y) m
theorem imp_bin {g : Gm} {sa sb : Ev → Mu → R D} {W : WX} {r : R2} {f : Mu → D → D → Option D} (hr : ∀ x y H Q, rOp g f x y H Q → r x y H Q) {σ : St} {H : Hp} {Q : VK} (h : tE g (semB f sa sb) W σ H Q) : tOp r (tE g sa W) (tE g sb W) σ H Q := by
  obtain ⟨w, ρ, e1, ok, rs, st⟩ := h
  refine ⟨w, ρ, e1, ok, rs, st.bind.imp fun x w1 g1 ok1 s1 v1 r1 => ?_⟩
  refine ⟨w1, ρ, rfl, ok1, rs.grow g1, s1.bind.imp fun y w2 g2 ok2 s2 v2 r2 => ?_⟩
  obtain ⟨d, hd, q⟩ := s2.opt ok2
  rw [hd] at s2
  exact hr _ _ _ _ ⟨w2, x, y, d, rfl, ok2, r1.grow g2, r2, hd, fun w' v em gr ok' rd => s2 w' em gr ok' v rd⟩
/-- a test's reading -/
def tT (g : Gm) (sem : Ev → Mu → R D) (W : WX) : TT := fun σ H Q => tE g sem W σ H fun v H' => ∃ b, v = .bl b ∧ Q b H'
end Rs

/-! part RsOp2 -/
set_option Elab.async false
set_option linter.all false
set_option maxRecDepth 100000
set_option maxHeartbeats 4000000
namespace Rs
open PySem L2

section
variable {g : Gm} {X : Cx}
/-- a flat answer where the state stays -/
theorem rOp_flat {x y : V} {H : Hp} {Q : VK} {w : Wd} {d : D} {v : V} (e : w.H = H) (ok : Ok g w) (r : Rep g w.G w.la d v) (q : ∀ w' v, w'.mu = w.mu → Grow w w' → Ok g w' → Rep g w'.G w'.la d v → Q v w'.H) : Q v H := by
  rw [← e]
  exact q w v rfl (Grow.refl w) ok r
theorem ob_sub : OpR X (binaryOp .Sub) (rOp g fun m x y => binD .Sub (look m x) (look m y)) := weakO op_sub fun x y H Q ⟨w, a, b, d, e, ok, ra, rb, hd, q⟩ => by
  dsimp only at hd
  generalize ea : look w.mu a = A at hd
  generalize eb : look w.mu b = B at hd
  cases A with
  | int i =>
    cases B with
    | int j =>
      cases hd
      obtain ⟨rfl, _⟩ := repI ra ea
      obtain ⟨rfl, _⟩ := repI rb eb
      exact ⟨_, _, rfl, rfl, rOp_flat (x := .int i) (y := .int j) e ok (.int _) q⟩
    | _ => cases hd
  | _ => cases hd
theorem ob_mul : OpR X (binaryOp .Mult) (rOp g fun m x y => binD .Mult (look m x) (look m y)) := weakO op_mulW fun x y H Q ⟨w, a, b, d, e, ok, ra, rb, hd, q⟩ => by
  dsimp only at hd
  generalize ea : look w.mu a = A at hd
  generalize eb : look w.mu b = B at hd
  cases A with
  | int i =>
    cases B with
    | int j =>
      have hd : (if i.natAbs.log2 + j.natAbs.log2 < 1000000 then some (D.int (i * j)) else none) = some d := hd
      split at hd
      · rename_i hc
        cases hd
        obtain ⟨rfl, _⟩ := repI ra ea
        obtain ⟨rfl, _⟩ := repI rb eb
        exact ⟨_, _, rfl, rfl, hc, rOp_flat (x := .int i) (y := .int j) e ok (.int _) q⟩
      · cases hd
    | _ => cases hd
  | _ => cases hd
theorem ob_div : OpR X (binaryOp .FloorDiv) (rOp g fun m x y => binD .FloorDiv (look m x) (look m y)) := weakO op_fdivW fun x y H Q ⟨w, a, b, d, e, ok, ra, rb, hd, q⟩ => by
  dsimp only at hd
  generalize ea : look w.mu a = A at hd
  generalize eb : look w.mu b = B at hd
  cases A with
  | int i =>
    cases B with
    | int j =>
      have hd : (if 0 < j ∧ j.natAbs.log2 < 9000 then some (D.int (i / j)) else none) = some d := hd
      split at hd
      · rename_i hc
        cases hd
        obtain ⟨rfl, _⟩ := repI ra ea
        obtain ⟨rfl, _⟩ := repI rb eb
        exact ⟨_, _, rfl, rfl, hc, rOp_flat (x := .int i) (y := .int j) e ok (.int _) q⟩
      · cases hd
    | _ => cases hd
  | _ => cases hd
theorem ob_mod : OpR X (binaryOp .Mod) (rOp g fun m x y => binD .Mod (look m x) (look m y)) := weakO op_mod fun x y H Q ⟨w, a, b, d, e, ok, ra, rb, hd, q⟩ => by
  dsimp only at hd
  generalize ea : look w.mu a = A at hd
  generalize eb : look w.mu b = B at hd
  cases A with
  | int i =>
    cases B with
    | int j =>
      have hd : (if 0 < j then some (D.int (i % j)) else none) = some d := hd
      split at hd
      · rename_i hc
        cases hd
        obtain ⟨rfl, _⟩ := repI ra ea
        obtain ⟨rfl, _⟩ := repI rb eb
        exact ⟨_, _, rfl, rfl, hc, rOp_flat (x := .int i) (y := .int j) e ok (.int _) q⟩
      · cases hd
    | _ => cases hd
  | _ => cases hd
theorem ob_pow : OpR X (binaryOp .Pow) (rOp g fun m x y => binD .Pow (look m x) (look m y)) := weakO op_pow fun x y H Q ⟨w, a, b, d, e, ok, ra, rb, hd, q⟩ => by
  dsimp only at hd
  generalize ea : look w.mu a = A at hd
  generalize eb : look w.mu b = B at hd
  cases A with
  | int i =>
    cases B with
    | int j =>
      have hd : (if 0 ≤ j ∧ j ≤ 1000000 ∧ i.natAbs < 2 ^ 64 then some (D.int (i ^ j.toNat)) else none) = some d := hd
      split at hd
      · rename_i hc
        cases hd
        obtain ⟨rfl, _⟩ := repI ra ea
        obtain ⟨rfl, _⟩ := repI rb eb
        exact ⟨_, _, rfl, rfl, hc, rOp_flat (x := .int i) (y := .int j) e ok (.int _) q⟩
      · cases hd
    | _ => cases hd
  | _ => cases hd
theorem ob_add (hK : X.K = g.K) : OpR X (binaryOp .Add) (rOp g fun m x y => binD .Add (look m x) (look m y)) := weakO (op_add.or (op_add_str.or (op_cat.or op_catT))) fun x y H Q ⟨w, a, b, d, e, ok, ra, rb, hd, q⟩ => by
  dsimp only at hd
  generalize ea : look w.mu a = A at hd
  generalize eb : look w.mu b = B at hd
  cases A with
  | int i =>
    cases B with
    | int j =>
      cases hd
      obtain ⟨rfl, _⟩ := repI ra ea
      obtain ⟨rfl, _⟩ := repI rb eb
      exact .inl ⟨_, _, rfl, rfl, rOp_flat (x := .int i) (y := .int j) e ok (.int _) q⟩
    | _ => cases hd
  | str s =>
    cases B with
    | str t =>
      have hd : (if s.length + t.length ≤ line then some (D.str (s ++ t)) else none) = some d := hd
      split at hd
      · rename_i hc
        cases hd
        obtain ⟨rfl, _⟩ := repS ra ea
        obtain ⟨rfl, _⟩ := repS rb eb
        exact .inr (.inl ⟨_, _, rfl, rfl, line_eq ▸ hc, rOp_flat (x := .str s) (y := .str t) e ok (.str _) q⟩)
      · cases hd
    | _ => cases hd
  | lst xs =>
    cases B with
    | lst ys =>
      have hd : (if xs.length + ys.length ≤ line then some (D.lst (xs ++ ys)) else none) = some d := hd
      split at hd
      · rename_i hc
        cases hd
        obtain ⟨p, vs, rfl, hp, rp⟩ := repL ok ra ea
        obtain ⟨p2, vs2, rfl, hp2, rp2⟩ := repL ok rb eb
        subst e
        refine .inr (.inr (.inl ⟨p, p2, vs, vs2, rfl, rfl, hp, hp2, by rw [← rp.length, ← rp2.length, ← line_eq]; exact hc, fun r hr => ?_⟩))
        obtain ⟨w', e1, e2, gr, ok', rr⟩ := new_lst ok hr (rp.app rp2)
        rw [← e1]
        exact q w' _ e2 gr ok' rr
      · cases hd
    | _ => cases hd
  | tup xs =>
    cases xs with
    | nil => cases B <;> cases hd
    | cons x0 xs =>
      cases B with
      | tup ys =>
        have hd : (if (x0 :: xs).length + ys.length ≤ line then some (D.tup ((x0 :: xs) ++ ys)) else none) = some d := hd
        split at hd
        · rename_i hc
          cases hd
          obtain ⟨p, vs, rfl, hp, rp⟩ := repT ok ra ea
          obtain ⟨p2, vs2, rfl, hp2, rp2⟩ := repT ok rb eb
          subst e
          refine .inr (.inr (.inr ⟨p, p2, vs, vs2, rfl, rfl, hK ▸ hp, hK ▸ hp2, ?_, by rw [← rp.length, ← rp2.length, ← line_eq]; exact hc, fun h0 => ?_, fun _ r hr => ?_⟩))
          · intro z
            have := rp.length
            rw [z] at this
            cases this
          · have hy : ys = [] := by
              have := rp2.length
              rw [h0] at this
              exact List.eq_nil_of_length_eq_zero this
            subst hy
            refine q w _ rfl (Grow.refl w) ok ?_
            rw [List.append_nil]
            cases ra with
            | loc h =>
              rcases lookLoc ea with ⟨_, _, h2⟩ | ⟨_, _, h2⟩ | ⟨_, _, _, h2⟩ | h2
              all_goals cases h2
            | tup h r => cases ea; exact .tup h r
            | _ => cases ea
          · obtain ⟨w', e1, e2, gr, ok', rr⟩ := new_tup ok hr (rp.app rp2)
            rw [← e1]
            exact q w' _ e2 gr ok' rr
        · cases hd
      | _ => cases hd
  | _ => cases hd

/-! ### order -/
def rCmp (g : Gm) (f : Mu → D → D → Option Bool) : R2 := rOp g fun m x y => (f m x y).map .bl
theorem rCmp_of {f : Mu → D → D → Option Bool} {x y : V} {H : Hp} {Q : VK} (h : rCmp g f x y H Q) : ∃ (w : Wd) (a b : D) (k : Bool), w.H = H ∧ Ok g w ∧ Rep g w.G w.la a x ∧ Rep g w.G w.la b y ∧ f w.mu a b = some k ∧
    ∀ w', w'.mu = w.mu → Grow w w' → Ok g w' → Q (.bl k) w'.H := by
  obtain ⟨w, a, b, d, e, ok, ra, rb, hd, q⟩ := h
  obtain ⟨k, hk, rfl⟩ := Option.map_eq_some_iff.mp hd
  exact ⟨w, a, b, k, e, ok, ra, rb, hk, fun w' e1 gr ok' => q w' _ e1 gr ok' (.bl k)⟩
theorem here {Q : VK} {w : Wd} {k : Bool} (ok : Ok g w) (q : ∀ w', w'.mu = w.mu → Grow w w' → Ok g w' → Q (.bl k) w'.H) : Q (.bl k) w.H := q w rfl (Grow.refl w) ok
variable {T : Tab} {k : Nat}
theorem oc_lt : OpR X (compareOp .Lt) (rCmp g (cmpD T k .Lt)) := weakO (op_lt.or op_lt_str) fun x y H Q h => by
  obtain ⟨w, a, b, k, rfl, ok, ra, rb, hd, q⟩ := rCmp_of h
  simp only [cmpD] at hd
  generalize ea : look w.mu a = A at hd
  generalize eb : look w.mu b = B at hd
  cases A with
  | int i =>
    cases B with
    | int j =>
      cases hd
      obtain ⟨rfl, _⟩ := repI ra ea
      obtain ⟨rfl, _⟩ := repI rb eb
      exact .inl ⟨_, _, rfl, rfl, here ok q⟩
    | _ => cases hd
  | str i =>
    cases B with
    | str j =>
      cases hd
      obtain ⟨rfl, _⟩ := repS ra ea
      obtain ⟨rfl, _⟩ := repS rb eb
      exact .inr ⟨_, _, rfl, rfl, here ok q⟩
    | _ => cases hd
  | _ => cases hd
theorem oc_gt : OpR X (compareOp .Gt) (rCmp g (cmpD T k .Gt)) := weakO (op_gt.or op_gt_str) fun x y H Q h => by
  obtain ⟨w, a, b, k, rfl, ok, ra, rb, hd, q⟩ := rCmp_of h
  simp only [cmpD] at hd
  generalize ea : look w.mu a = A at hd
  generalize eb : look w.mu b = B at hd
  cases A with
  | int i =>
    cases B with
    | int j =>
      cases hd
      obtain ⟨rfl, _⟩ := repI ra ea
      obtain ⟨rfl, _⟩ := repI rb eb
      exact .inl ⟨_, _, rfl, rfl, here ok q⟩
    | _ => cases hd
  | str i =>
    cases B with
    | str j =>
      cases hd
      obtain ⟨rfl, _⟩ := repS ra ea
      obtain ⟨rfl, _⟩ := repS rb eb
      exact .inr ⟨_, _, rfl, rfl, here ok q⟩
    | _ => cases hd
  | _ => cases hd
theorem oc_le : OpR X (compareOp .LtE) (rCmp g (cmpD T k .LtE)) := weakO op_le fun x y H Q h => by
  obtain ⟨w, a, b, k, rfl, ok, ra, rb, hd, q⟩ := rCmp_of h
  simp only [cmpD] at hd
  generalize ea : look w.mu a = A at hd
  generalize eb : look w.mu b = B at hd
  cases A with
  | int i =>
    cases B with
    | int j =>
      cases hd
      obtain ⟨rfl, _⟩ := repI ra ea
      obtain ⟨rfl, _⟩ := repI rb eb
      exact ⟨_, _, rfl, rfl, here ok q⟩
    | _ => cases hd
  | _ => cases hd
theorem oc_ge : OpR X (compareOp .GtE) (rCmp g (cmpD T k .GtE)) := weakO op_ge fun x y H Q h => by
  obtain ⟨w, a, b, k, rfl, ok, ra, rb, hd, q⟩ := rCmp_of h
  simp only [cmpD] at hd
  generalize ea : look w.mu a = A at hd
  generalize eb : look w.mu b = B at hd
  cases A with
  | int i =>
    cases B with
    | int j =>
      cases hd
      obtain ⟨rfl, _⟩ := repI ra ea
      obtain ⟨rfl, _⟩ := repI rb eb
      exact ⟨_, _, rfl, rfl, here ok q⟩
    | _ => cases hd
  | _ => cases hd
end
end Rs

/-! part RsEq1 -/
set_option Elab.async false
set_option linter.all false
set_option maxRecDepth 100000
set_option maxHeartbeats 4000000
/-! == of tuples and lists whose items' == may run code: item by item up to the first pair that differs -/
namespace RsE
open PySem PySem.SeqAt
open AutoSeq1 (wpAny_loadPart')
open MeetsSeq MeetsSeq2 MeetsSeq3 SeqRoads2
section
variable {prog : Program} {w : World} {A : Around} {R : Result → Shared → Prop}
/-- one turn: equal and on to I', or not, and J -/
abbrev Turn (prog : Program) (w : World) (A : Around) (E : Value → Shared → Prop) (x y : Value) (I' J : Shared → Prop) (s : Shared) : Prop :=
  wpAny (model prog w) A.in1 (eqBool x y) (fun r s' => (r = true ∧ I' s') ∨ (r = false ∧ J s')) E s

theorem tup_run {ta tb : Addr} {us vs : Array Value} {n1 n2 : Nat} {e1 e2 : Option Addr} {q1 q2 : Array (Option Value)} (I : Nat → Shared → Prop) (J : Shared → Prop)
    (turn : ∀ i (h1 : i < us.size) (h2 : i < vs.size) s, I i s → Turn prog w A (fun e s' => R (.error e) s') us[i] vs[i] (I (i + 1)) J s)
    (no : ∀ s, J s → R (.ok (.ret (.bool false))) s) (fin : ∀ s, I (min us.size vs.size) s → R (.ok (.ret (.bool (us.size == vs.size)))) s)
    {s : Shared} (ha : s.heap.get? ta = some { cls := .type "tuple", dict := e1, data := .seq us n1, slots := q1 }) (hb : s.heap.get? tb = some { cls := .type "tuple", dict := e2, data := .seq vs n2, slots := q2 }) (h : I 0 s) :
    wpAny (model prog w) A.in1 (Builtin.«tuple.__eq__» ⟨[.ref ta, .ref tb], []⟩) (GQ.FinOf prog w A R) (fun e s' => R (.error e) s') s := by
  have sub := AutoSeq1.sub_tuple_tuple
  have len : (us.toList.zip vs.toList).length = min us.size vs.size := by simp [List.length_zip]
  have h' := h
  obtain ⟨hp, g, d, tk, os⟩ := s
  wp_walk using wpAny_loadPart' ha, wpAny_loadPart' hb, wpAny_forIn_list _ (fun rest b s' =>
    (b.1 = none ∧ ∃ i, rest = (us.toList.zip vs.toList).drop i ∧ i ≤ min us.size vs.size ∧ I i s')) _
  case turn =>
    rintro ⟨x, y⟩ rest b s' ⟨hb', i, hz, hi, hI⟩
    have hlt : i < (us.toList.zip vs.toList).length := by
      by_cases q : i < (us.toList.zip vs.toList).length
      · exact q
      · rw [List.drop_of_length_le (Nat.le_of_not_lt q)] at hz
        cases hz
    have k1 : i < us.size := by omega
    have k2 : i < vs.size := by omega
    rw [List.drop_eq_getElem_cons hlt] at hz
    injection hz with hxy hrest
    have ex : x = us[i] := by simpa using congrArg Prod.fst hxy
    have ey : y = vs[i] := by simpa using congrArg Prod.snd hxy
    subst ex ey
    refine wpAny_bind (wpAny_mono (turn i k1 k2 s' hI) (fun r s2 z => ?_) fun _ _ z => z)
    rcases z with ⟨rfl, z⟩ | ⟨rfl, z⟩
    · wp_walk
      exact ⟨rfl, i + 1, hrest, by omega, z⟩
    · have q := no _ z
      wp_walk
      exact q
  case fin =>
    rintro ⟨b1, b2⟩ s' ⟨hb', i, hz, hi, hI⟩
    simp only at hb'
    subst hb'
    have hge : min us.size vs.size ≤ i := by
      by_cases q : i < (us.toList.zip vs.toList).length
      · rw [List.drop_eq_getElem_cons q] at hz
        cases hz
      · omega
    have ei : i = min us.size vs.size := by omega
    have q := fin s' (ei ▸ hI)
    wp_walk
    simpa [Builtin.Tuple.tupleCompareSizes] using q
  case h => exact ⟨rfl, 0, rfl, Nat.zero_le _, h'⟩

/-- at each turn the two lists are there, N items each -/
abbrev Two (l b : Addr) (N : Nat) (s : Shared) (P : Array Value → Array Value → Prop) : Prop :=
  ∃ (us vs : Array Value) (n1 n2 : Nat), s.heap.get? l = some { cls := .type "list", data := .seq us n1 } ∧ s.heap.get? b = some { cls := .type "list", data := .seq vs n2 } ∧ us.size = N ∧ vs.size = N ∧ P us vs
theorem lst_loop {l b : Addr} {N : Nat} (I : Nat → Shared → Prop) (J : Shared → Prop)
    (two : ∀ i s, I i s → Two l b N s fun us vs => ∀ (h1 : i < us.size) (h2 : i < vs.size), Turn prog w A (fun e s' => R (.error e) s') us[i] vs[i] (I (i + 1)) (fun s' => J s' ∧ Two l b N s' fun _ _ => True) s)
    (no : ∀ s, J s → R (.ok (.ret (.bool false))) s) (yes : ∀ s, I N s → R (.ok (.ret (.bool true))) s) :
    ∀ (k i : Nat), N - i = k → i ≤ N → ∀ s, I i s → wpAny (model prog w) A.in1 (Builtin.«list.__eq__.loop» ⟨[.ref l, .ref b, rawInt i, rawInt 2], []⟩) (GQ.FinOf prog w A R) (fun e s' => R (.error e) s') s := by
  intro k
  induction k with
  | zero =>
    intro i hk hi s h
    obtain ⟨us, vs, n1, n2, a1, a2, z1, z2, _⟩ := two _ _ h
    have ei : i = N := by omega
    have fin := yes s (ei ▸ h)
    obtain ⟨hp, g, d, tk, os⟩ := s
    wp_walk using wpAny_loadPart' a1, wpAny_loadPart' a2
    have g1 : us[((i : Nat) : Int).toNat]? = none := by simp; omega
    have g2 : vs[((i : Nat) : Int).toNat]? = none := by simp; omega
    rw [g1, g2]
    wp_walk using wpAny_loadPart' a1, wpAny_loadPart' a2
    show R (.ok (.ret (.bool (us.size == vs.size)))) _
    rw [z1, z2]
    simpa using fin
  | succ k ih =>
    intro i hk hi s h
    obtain ⟨us, vs, n1, n2, a1, a2, z1, z2, turn⟩ := two _ _ h
    have k1 : i < us.size := by omega
    have k2 : i < vs.size := by omega
    have t := turn k1 k2
    obtain ⟨hp, g, d, tk, os⟩ := s
    wp_walk using wpAny_loadPart' a1, wpAny_loadPart' a2
    have g1 : us[((i : Nat) : Int).toNat]? = some us[i] := by simp [k1]
    have g2 : vs[((i : Nat) : Int).toNat]? = some vs[i] := by simp [k2]
    have up : ((i : Int) + 1) = ((i + 1 : Nat) : Int) := by omega
    rw [g1, g2]
    refine wpAny_bind (wpAny_mono t (fun r s2 z => ?_) fun _ _ z => z)
    rcases z with ⟨rfl, z⟩ | ⟨rfl, z, us', vs', m1, m2, c1, c2, y1, y2, _⟩
    · have next := ih (i + 1) (by omega) (by omega) s2 z
      obtain ⟨hp2, gg, dd, tk2, os2⟩ := s2
      wp_walk
      rw [up]
      exact ⟨plainId_quiet plain_eq_loop _, codeAny_builtin entry_eq_loop (by
        rw [Around.under_plainId plain_eq_loop _]
        exact next)⟩
    · have fin := no s2 z
      obtain ⟨hp2, gg, dd, tk2, os2⟩ := s2
      have f1 : us'[((i : Nat) : Int).toNat]? = some (us'[i]'(by omega)) := by simp [show i < us'.size by omega]
      have f2 : vs'[((i : Nat) : Int).toNat]? = some (vs'[i]'(by omega)) := by simp [show i < vs'.size by omega]
      wp_walk using wpAny_loadPart' c1, wpAny_loadPart' c2
      rw [f1, f2]
      wp_walk
      exact fin
theorem lst_run {l b : Addr} {N : Nat} (I : Nat → Shared → Prop) (J : Shared → Prop)
    (two : ∀ i s, I i s → Two l b N s fun us vs => ∀ (h1 : i < us.size) (h2 : i < vs.size), Turn prog w A (fun e s' => R (.error e) s') us[i] vs[i] (I (i + 1)) (fun s' => J s' ∧ Two l b N s' fun _ _ => True) s)
    (no : ∀ s, J s → R (.ok (.ret (.bool false))) s) (yes : ∀ s, I N s → R (.ok (.ret (.bool true))) s) {s : Shared} (h : I 0 s) :
    wpAny (model prog w) A.in1 (Builtin.«list.__eq__» ⟨[.ref l, .ref b], []⟩) (GQ.FinOf prog w A R) (fun e s' => R (.error e) s') s := by
  have loop := lst_loop I J two no yes _ 0 rfl (Nat.zero_le _) s h
  obtain ⟨us, vs, n1, n2, a1, a2, z1, z2, _⟩ := two _ _ h
  obtain ⟨hp, g, d, tk, os⟩ := s
  have sub := AutoSeq1.sub_list_list
  have same : ¬ (us.size != vs.size) = true := by simp [z1, z2]
  wp_walk using wpAny_loadPart' a1, wpAny_loadPart' a2
  exact ⟨plainId_quiet plain_eq_loop _, codeAny_builtin entry_eq_loop (by
    rw [Around.under_plainId plain_eq_loop _]
    exact loop)⟩
/-- lists of unlike lengths -/
theorem lst_len {l b : Addr} {us vs : Array Value} {n1 n2 : Nat} {s : Shared} (a1 : s.heap.get? l = some { cls := .type "list", data := .seq us n1 }) (a2 : s.heap.get? b = some { cls := .type "list", data := .seq vs n2 })
    (hne : us.size ≠ vs.size) (no : R (.ok (.ret (.bool false))) s) :
    wpAny (model prog w) A.in1 (Builtin.«list.__eq__» ⟨[.ref l, .ref b], []⟩) (GQ.FinOf prog w A R) (fun e s' => R (.error e) s') s := by
  obtain ⟨hp, g, d, tk, os⟩ := s
  have sub := AutoSeq1.sub_list_list
  have diff : (us.size != vs.size) = true := by simp [hne]
  wp_walk using wpAny_loadPart' a1, wpAny_loadPart' a2
  exact no
end
section
variable {prog : Program} {w : World} {A : Around} {E : Value → Shared → Prop} {s : Shared}
theorem rc_lst {l b : Addr} {N : Nat} {Q : Value → Shared → Prop} (hu : A.units < cLine) (I : Nat → Shared → Prop) (J : Shared → Prop)
    (two : ∀ i s, I i s → Two l b N s fun us vs => ∀ (h1 : i < us.size) (h2 : i < vs.size), Turn prog w A E us[i] vs[i] (I (i + 1)) (fun s' => J s' ∧ Two l b N s' fun _ _ => True) s)
    (no : ∀ s, J s → Q (.bool false) s) (yes : ∀ s, I N s → Q (.bool true) s) (h : I 0 s) : wpAny (model prog w) A (richCompare .Eq (.ref l) (.ref b)) Q E s := by
  obtain ⟨us, vs, n1, n2, a1, a2, _, _, _⟩ := two _ _ h
  refine wpAny_richCompare_same_room (op := .Eq) ⟨_, a1, rfl⟩ ⟨_, a2, rfl⟩ F.slot_list_eq (GQ.call_here F.slot_list_eq ⟨_, a1, rfl⟩ F.entry_list_eq (F.args_list_eq_2 _ _) ?_) hu
  exact lst_run (R := wants (fun v s' => v ≠ .notImplemented ∧ Q v s') E) I J two (fun s' z => ⟨(fun x => nomatch x), no s' z⟩) (fun s' z => ⟨(fun x => nomatch x), yes s' z⟩) h
theorem rc_len {l b : Addr} {us vs : Array Value} {n1 n2 : Nat} {Q : Value → Shared → Prop} (hu : A.units < cLine) (a1 : s.heap.get? l = some { cls := .type "list", data := .seq us n1 }) (a2 : s.heap.get? b = some { cls := .type "list", data := .seq vs n2 })
    (hne : us.size ≠ vs.size) (no : Q (.bool false) s) : wpAny (model prog w) A (richCompare .Eq (.ref l) (.ref b)) Q E s := by
  refine wpAny_richCompare_same_room (op := .Eq) ⟨_, a1, rfl⟩ ⟨_, a2, rfl⟩ F.slot_list_eq (GQ.call_here F.slot_list_eq ⟨_, a1, rfl⟩ F.entry_list_eq (F.args_list_eq_2 _ _) ?_) hu
  exact lst_len (R := wants (fun v s' => v ≠ .notImplemented ∧ Q v s') E) a1 a2 hne ⟨(fun x => nomatch x), no⟩
theorem rc_tup {ta tb : Addr} {us vs : Array Value} {Q : Value → Shared → Prop} (hu : A.units < cLine) (I : Nat → Shared → Prop) (J : Shared → Prop) (ha : s.heap.IsTuple ta us) (hb : s.heap.IsTuple tb vs)
    (turn : ∀ i (h1 : i < us.size) (h2 : i < vs.size) s, I i s → Turn prog w A E us[i] vs[i] (I (i + 1)) J s)
    (no : ∀ s, J s → Q (.bool false) s) (fin : ∀ s, I (min us.size vs.size) s → Q (.bool (us.size == vs.size)) s) (h : I 0 s) : wpAny (model prog w) A (richCompare .Eq (.ref ta) (.ref tb)) Q E s := by
  obtain ⟨⟨c1, d1, t1, q1⟩, o1, k1, n1, m1⟩ := id ha
  obtain ⟨⟨c2, d2, t2, q2⟩, o2, k2, n2, m2⟩ := id hb
  simp only at k1 m1 k2 m2
  subst k1 m1 k2 m2
  refine wpAny_richCompare_same_room (op := .Eq) ⟨_, o1, rfl⟩ ⟨_, o2, rfl⟩ F.slot_tuple_eq (GQ.call_here F.slot_tuple_eq ⟨_, o1, rfl⟩ F.entry_tuple_eq (F.args_tuple_eq_2 _ _) ?_) hu
  exact tup_run (R := wants (fun v s' => v ≠ .notImplemented ∧ Q v s') E) I J turn (fun s' z => ⟨(fun x => nomatch x), no s' z⟩) (fun s' z => ⟨(fun x => nomatch x), fin s' z⟩) o1 o2 h
end
end RsE

/-! part RsEq2 -/
set_option Elab.async false
set_option linter.all false
set_option maxRecDepth 100000
set_option maxHeartbeats 4000000
namespace Rs
open PySem L2

/-- a program: where its parts stand, its classes, its functions on the pure side -/
structure Pgm where
  prog : Program
  w : World
  K : PySem.W.Frag
  mg : Str → Option Value
  base : Heap
  C : Nat → Addr
  nm : Nat → Str
  T : Tab
  fns : Fns
  fa : Nat → Addr
  fd : Nat → FuncData
  ps : Nat → List Str
abbrev Pgm.g (p : Pgm) : Gm := ⟨p.K, p.C, p.nm⟩
structure Of (X : Cx) (p : Pgm) : Prop where
  prog : X.prog = p.prog
  w : X.w = p.w
  K : X.K = p.K
  mg : X.mg = p.mg
  base : X.base = p.base
/-- the level of a function that has so much fuel -/
def lev (k : Nat) : Nat := 2 * k + 1
theorem lev_up (k : Nat) : lev (k + 1) = lev k + 2 := by unfold lev; omega
theorem lev_le {j k : Nat} (h : j ≤ k) : lev j ≤ lev k := by unfold lev; omega
/-- what a function promises: what the pure side says -/
def spF (g : Gm) (F : Nat → List D → Mu → R D) (f n : Nat) : Sp := fun vs H Q E => ∃ (w : Wd) (ds : List D), w.H = H ∧ Ok g w ∧ RepL g w.G w.la ds vs ∧ vs.length = n ∧ Sat g w (wr g E) (F f ds w.mu) (pv1 g Q)
/-- all functions keep their promises with fuel k -/
def Pgm.Tab (p : Pgm) (k : Nat) : Prop := ∀ f q, p.fns[f]? = some q → FnOk p.prog p.w p.K p.mg p.base (L2.CX p.prog p.w) (lev k) (p.fa f) (p.fd f) (p.ps f) (spF p.g (run p.T p.fns k) f q.ar)
theorem Of.fn {X : Cx} {p : Pgm} (o : Of X p) {k f : Nat} {q : Fn} (h : p.Tab k) (e : p.fns[f]? = some q) :
    FnOk X.prog X.w X.K X.mg X.base (L2.CX X.prog X.w) (lev k) (p.fa f) (p.fd f) (p.ps f) (spF p.g (run p.T p.fns k) f q.ar) := by
  rw [o.prog, o.w, o.K, o.mg, o.base]
  exact h f q e

def kinds : List String := ["NoneType", "bool", "int", "str", "tuple", "list"]
/-- a class that has its own == -/
structure EqC (p : Pgm) (c f : Nat) : Prop where
  find : PySem.W.findIn p.K (.ref (p.C c)) "__eq__" = some (some (.ref (p.fa f)))
  isf : PySem.W.isFn p.K (.ref (p.fa f)) = true
  bnd : Binds p.K (p.fd f) (p.ps f) []
  own : ∀ c', (p.T[c']?).isSome = true → PySem.W.notFirst p.K (p.C c) (.ref (p.C c')) = true
  bui : ∀ t, t ∈ kinds → PySem.W.notFirst p.K (p.C c) (.type t) = true
  fn : ∃ q, p.fns[f]? = some q ∧ q.ar = 2
abbrev Pgm.eqg (p : Pgm) (c : Nat) : Option (Nat × List Nat × Nat) := (p.T[c]?).bind Cls.eqg
structure EqF (p : Pgm) : Prop where
  cls : ∀ c gp n f, p.eqg c = some (gp, n, f) → EqC p c f
  inj : ∀ c c', (p.T[c]?).isSome = true → (p.T[c']?).isSome = true → p.C c = p.C c' → c = c'
  run : ∀ c gp n f fs b m k r i j, p.eqg c = some (gp, n, f) → dep (.ins c fs) = some i → i ≤ k + 2 → dep b = some j → j ≤ k + 2 → eqD p.T (.ins c fs) b = some r → Rs.run p.T p.fns (k + 1) f [.ins c fs, b] m = .ok (.bl r) m

/-! ### the same object is equal to itself -/
theorem eqD_ii {T : Tab} {c c' : Nat} {fs gs : List (Nat × D)} : eqD T (.ins c fs) (.ins c' gs) = (match (T[c]?).bind Cls.eqg with
    | some (g, n, _) => (match T[c']? with
        | some q => (match q.eqg with
          | some (g', _, _) => if g = g' then (if pre n fs && pre n gs then eqF T n fs gs else none) else some false
          | none => none)
        | none => none)
    | none => none) := by simp only [eqD] <;> rfl
theorem eqF_zero {T : Tab} {as bs : List (Nat × D)} : eqF T [] as bs = some true := by simp only [eqF]
theorem eqF_cons {T : Tab} {n f f' : Nat} {ns : List Nat} {a b : D} {as bs : List (Nat × D)} : eqF T (n :: ns) ((f, a) :: as) ((f', b) :: bs) = if f = n ∧ f' = n then (match eqD T a b with
    | some true => eqF T ns as bs
    | r => r) else none := by simp only [eqF] <;> rfl
theorem eqL_cons {T : Tab} {a b : D} {as bs : List D} : eqL T (a :: as) (b :: bs) = (match eqD T a b with
    | some true => eqL T as bs
    | r => r) := by simp only [eqL] <;> rfl
theorem eqD_ll {T : Tab} {as bs : List D} : eqD T (.lst as) (.lst bs) = if as.length = bs.length then eqL T as bs else some false := by simp only [eqD]
theorem eqD_tt {T : Tab} {as bs : List D} : eqD T (.tup as) (.tup bs) = eqL T as bs := by simp only [eqD]
section
variable {p : Pgm} {X : Cx} {pins : List (Addr × Obj)} {σ : St} {H G : Hp} {s : Shared} {la : List Addr}
theorem Of.sqT (o : Of X p) {a : Addr} {vs : List V} (h : SqT p.K H a vs) : SqT X.K H a vs := by rw [o.K]; exact h
theorem not_both {a : Addr} {vs ws : List V} (o : Of X p) (I : Inv X pins σ H s) (h1 : SqT p.K H a vs) (h2 : H a = some (.lst ws)) : False := by
  obtain ⟨its, _, ⟨ob, e, c, _⟩, _⟩ := I.tuple (o.sqT h1)
  obtain ⟨_, its2, n, _, e2⟩ := I.hok a _ h2
  rw [e2] at e
  cases e
  injection c with c
  exact absurd c (by decide)
theorem not_ins {a C dx : Addr} {vs : List V} {fs : List (Str × V)} (o : Of X p) (I : Inv X pins σ H s) (h1 : SqT p.K H a vs) (h2 : H a = some (.ins C dx fs)) : False := by
  obtain ⟨its, _, ⟨ob, e, c, _⟩, _⟩ := I.tuple (o.sqT h1)
  obtain ⟨_, _, _, e2, _⟩ := I.hok a _ h2
  rw [e2] at e
  cases e
  cases c
mutual
theorem same_eq (q : EqF p) (o : Of X p) (I : Inv X pins σ H s) (sub : ∀ a u, G a = some u → H a = some u) : ∀ {a b : D} {x : V} {r : Bool}, Rep p.g G la a x → Rep p.g G la b x → eqD p.T a b = some r → r = true
  | _, _, _, r, .non, h, e => by cases h; cases e; rfl
  | _, _, _, r, .bl k, h, e => by
    cases h
    have e : some (k == k) = some r := e
    cases e
    simp
  | _, _, _, r, .int k, h, e => by
    cases h
    have e : some (k == k) = some r := e
    cases e
    simp
  | _, _, _, r, .str k, h, e => by
    cases h
    have e : some (decide (k = k)) = some r := e
    cases e
    simp
  | _, _, _, r, .tup h1 l1, h, e => by
    cases h with
    | tup h2 l2 =>
      have z := I.tuple_inj (o.sqT (sqT_up sub h1)) (o.sqT (sqT_up sub h2))
      subst z
      exact same_eqL q o I sub l1 l2 e
    | lst h2 _ => exact (not_both o I (sqT_up sub h1) (sub _ _ h2)).elim
    | ins h2 _ _ => exact (not_ins o I (sqT_up sub h1) (sub _ _ h2)).elim
    | scr _ => cases e
    | dct _ _ _ => cases e
    | loc _ => cases e
  | _, _, _, r, .lst h1 l1, h, e => by
    cases h with
    | lst h2 l2 =>
      rw [h1] at h2
      cases h2
      rw [eqD_ll, if_pos (l1.length.trans l2.length.symm)] at e
      exact same_eqL q o I sub l1 l2 e
    | tup h2 _ => exact (not_both o I (sqT_up sub h2) (sub _ _ h1)).elim
    | ins h2 _ _ =>
      rw [h1] at h2
      cases h2
    | scr _ => cases e
    | dct _ _ _ => cases e
    | loc _ => cases e
  | _, _, _, r, .ins (c := c) (fs := fs) h1 _ l1, h, e => by
    cases h with
    | @ins c' _ dx gs fvs h2 _ l2 =>
      rw [h1] at h2
      injection h2 with h2
      injection h2 with hc _ hv
      subst hv
      rw [eqD_ii] at e
      cases q1 : (p.T[c]?).bind Cls.eqg with
      | none =>
        rw [q1] at e
        cases e
      | some t =>
        obtain ⟨gp, n, f⟩ := t
        rw [q1] at e
        cases q2 : p.T[c']? with
        | none =>
          rw [q2] at e
          cases e
        | some cl =>
          have hcc : c = c' := q.inj c c' (by cases z : p.T[c]? with
            | none => rw [z] at q1; cases q1
            | some _ => rfl) (by rw [q2]; rfl) hc
          subst hcc
          have q3 : cl.eqg = some (gp, n, f) := by
            rw [q2] at q1
            exact q1
          rw [q2] at e
          simp only [q3, if_true] at e
          split at e
          · exact same_eqF q o I sub l1 l2 e
          · cases e
    | tup h2 _ => exact (not_ins o I (sqT_up sub h2) (sub _ _ h1)).elim
    | lst h2 _ =>
      rw [h1] at h2
      cases h2
    | scr _ =>
      simp only [eqD] at e
      split at e <;> cases e
    | dct _ _ _ =>
      simp only [eqD] at e
      split at e <;> cases e
    | loc _ =>
      simp only [eqD] at e
      split at e <;> cases e
  | _, _, _, r, .scr _, _, e => by cases e
  | _, _, _, r, .dct _ _ _, _, e => by cases e
  | _, _, _, r, .loc _, _, e => by cases e
theorem same_eqL (q : EqF p) (o : Of X p) (I : Inv X pins σ H s) (sub : ∀ a u, G a = some u → H a = some u) : ∀ {as bs : List D} {xs : List V} {r : Bool}, RepL p.g G la as xs → RepL p.g G la bs xs → eqL p.T as bs = some r → r = true
  | _, _, _, r, .nil, h, e => by cases h; cases e; rfl
  | _, _, _, r, .cons (d := a) (ds := as) h1 l1, h, e => by
    cases h with
    | cons h2 l2 =>
      rename_i b bs
      rw [eqL_cons] at e
      cases z : eqD p.T a b with
      | none =>
        rw [z] at e
        cases e
      | some k =>
        have hk := same_eq q o I sub h1 h2 z
        subst hk
        rw [z] at e
        exact same_eqL q o I sub l1 l2 e
theorem same_eqF (q : EqF p) (o : Of X p) (I : Inv X pins σ H s) (sub : ∀ a u, G a = some u → H a = some u) : ∀ {n : List Nat} {as bs : List (Nat × D)} {xs : List V} {r : Bool}, RepL p.g G la (as.map (·.2)) xs → RepL p.g G la (bs.map (·.2)) xs → eqF p.T n as bs = some r → r = true
  | [], _, _, _, r, _, _, e => by
    rw [eqF_zero] at e
    cases e
    rfl
  | n :: ns, [], _, _, r, _, _, e => by simp only [eqF] at e; cases e
  | n :: ns, _ :: _, [], _, r, _, _, e => by simp only [eqF] at e; cases e
  | n :: ns, (f, a) :: as, (f', b) :: bs, _, r, h, h', e => by
    cases h with
    | cons h1 l1 =>
      cases h' with
      | cons h2 l2 =>
        rw [eqF_cons] at e
        split at e
        case isFalse => cases e
        cases z : eqD p.T a b with
        | none =>
          rw [z] at e
          cases e
        | some k =>
          have hk := same_eq q o I sub h1 h2 z
          subst hk
          rw [z] at e
          exact same_eqF q o I sub l1 l2 e
end
end
end Rs

/-! part RsEq3 -/
set_option Elab.async false
set_option linter.all false
set_option maxRecDepth 100000
set_option maxHeartbeats 4000000
namespace Rs
open PySem L2

def flatD : D → Bool
  | .non => true
  | .bl _ => true
  | .int _ => true
  | .str _ => true
  | _ => false
section
variable {p : Pgm} {X : Cx} {pins : List (Addr × Obj)} {σ : L2.St} {G H : Hp} {s : Shared} {la : List Addr} {A : Around} {a b : D} {x y : V} {u v : Value} {r : Bool} {T : Tab}
theorem flatRc (fa : flatD a = true) (fb : flatD b = true) (ra : Rep p.g G la a x) (rb : Rep p.g G la b y) (ru : RelV x u) (rv : RelV y v) (e : eqD T a b = some r) : SeqAt.RcAt A s u v r := by
  cases a with
  | non =>
    cases ra
    cases b with
    | non =>
      cases rb
      cases (show u = Value.none from ru)
      cases (show v = Value.none from rv)
      cases e
      exact SeqAt.RcAt.none_none
    | bl j =>
      cases rb
      cases (show u = Value.none from ru)
      cases (show v = Value.bool j from rv)
      cases e
      exact SeqAt.RcAt.none_bool _
    | int j =>
      cases rb
      cases (show u = Value.none from ru)
      obtain ⟨_, rfl⟩ := (show ∃ t, v = Value.int j t from rv)
      cases e
      exact SeqAt.RcAt.none_int _ _
    | str j =>
      cases rb
      cases (show u = Value.none from ru)
      obtain ⟨_, rfl⟩ := (show ∃ t, v = Value.str j t from rv)
      cases e
      exact SeqAt.RcAt.none_str _ _
    | _ => cases fb
  | bl i =>
    cases ra
    cases b with
    | non =>
      cases rb
      cases (show u = Value.bool i from ru)
      cases (show v = Value.none from rv)
      cases e
      exact SeqAt.RcAt.bool_none _
    | bl j =>
      cases rb
      cases (show u = Value.bool i from ru)
      cases (show v = Value.bool j from rv)
      cases e
      exact SeqAt.RcAt.bool_bool _ _
    | int j =>
      cases rb
      cases (show u = Value.bool i from ru)
      obtain ⟨_, rfl⟩ := (show ∃ t, v = Value.int j t from rv)
      cases e
      exact SeqAt.RcAt.bool_int _ _ _
    | str j =>
      cases rb
      cases (show u = Value.bool i from ru)
      obtain ⟨_, rfl⟩ := (show ∃ t, v = Value.str j t from rv)
      cases e
      exact SeqAt.RcAt.bool_str _ _ _
    | _ => cases fb
  | int i =>
    cases ra
    cases b with
    | non =>
      cases rb
      obtain ⟨_, rfl⟩ := (show ∃ t, u = Value.int i t from ru)
      cases (show v = Value.none from rv)
      cases e
      exact SeqAt.RcAt.int_none _ _
    | bl j =>
      cases rb
      obtain ⟨_, rfl⟩ := (show ∃ t, u = Value.int i t from ru)
      cases (show v = Value.bool j from rv)
      cases e
      exact SeqAt.RcAt.int_bool _ _ _
    | int j =>
      cases rb
      obtain ⟨_, rfl⟩ := (show ∃ t, u = Value.int i t from ru)
      obtain ⟨_, rfl⟩ := (show ∃ t, v = Value.int j t from rv)
      cases e
      exact SeqAt.RcAt.int_int _ _ _ _
    | str j =>
      cases rb
      obtain ⟨_, rfl⟩ := (show ∃ t, u = Value.int i t from ru)
      obtain ⟨_, rfl⟩ := (show ∃ t, v = Value.str j t from rv)
      cases e
      exact SeqAt.RcAt.int_str _ _ _ _
    | _ => cases fb
  | str i =>
    cases ra
    cases b with
    | non =>
      cases rb
      obtain ⟨_, rfl⟩ := (show ∃ t, u = Value.str i t from ru)
      cases (show v = Value.none from rv)
      cases e
      exact SeqAt.RcAt.str_none _ _
    | bl j =>
      cases rb
      obtain ⟨_, rfl⟩ := (show ∃ t, u = Value.str i t from ru)
      cases (show v = Value.bool j from rv)
      cases e
      exact SeqAt.RcAt.str_bool _ _ _
    | int j =>
      cases rb
      obtain ⟨_, rfl⟩ := (show ∃ t, u = Value.str i t from ru)
      obtain ⟨_, rfl⟩ := (show ∃ t, v = Value.int j t from rv)
      cases e
      exact SeqAt.RcAt.str_int _ _ _ _
    | str j =>
      cases rb
      obtain ⟨_, rfl⟩ := (show ∃ t, u = Value.str i t from ru)
      obtain ⟨_, rfl⟩ := (show ∃ t, v = Value.str j t from rv)
      have e : some (decide (i = j)) = some r := e
      have q : (i == j) = r := by
        cases e
        by_cases h : i = j <;> simp [h]
      rw [← q]
      exact SeqAt.RcAt.str_str _ _ _ _
    | _ => cases fb
  | _ => cases fa
theorem flatEq (fa : flatD a = true) (fb : flatD b = true) (ra : Rep p.g G la a x) (rb : Rep p.g G la b y) (ru : RelV x u) (rv : RelV y v) (e : eqD T a b = some r) : SeqAt.EqAt A s u v r := by
  cases a with
  | non =>
    cases ra
    cases b with
    | non =>
      cases rb
      cases (show u = Value.none from ru)
      cases (show v = Value.none from rv)
      cases e
      exact SeqAt.EqAt.same _
    | bl j =>
      cases rb
      cases (show u = Value.none from ru)
      cases (show v = Value.bool j from rv)
      cases e
      exact SeqAt.EqAt.none_bool _
    | int j =>
      cases rb
      cases (show u = Value.none from ru)
      obtain ⟨_, rfl⟩ := (show ∃ t, v = Value.int j t from rv)
      cases e
      exact SeqAt.EqAt.none_int _ _
    | str j =>
      cases rb
      cases (show u = Value.none from ru)
      obtain ⟨_, rfl⟩ := (show ∃ t, v = Value.str j t from rv)
      cases e
      exact SeqAt.EqAt.none_str _ _
    | _ => cases fb
  | bl i =>
    cases ra
    cases b with
    | non =>
      cases rb
      cases (show u = Value.bool i from ru)
      cases (show v = Value.none from rv)
      cases e
      exact SeqAt.EqAt.bool_none _
    | bl j =>
      cases rb
      cases (show u = Value.bool i from ru)
      cases (show v = Value.bool j from rv)
      cases e
      exact SeqAt.EqAt.bool_bool _ _
    | int j =>
      cases rb
      cases (show u = Value.bool i from ru)
      obtain ⟨_, rfl⟩ := (show ∃ t, v = Value.int j t from rv)
      cases e
      exact SeqAt.EqAt.bool_int _ _ _
    | str j =>
      cases rb
      cases (show u = Value.bool i from ru)
      obtain ⟨_, rfl⟩ := (show ∃ t, v = Value.str j t from rv)
      cases e
      exact SeqAt.EqAt.bool_str _ _ _
    | _ => cases fb
  | int i =>
    cases ra
    cases b with
    | non =>
      cases rb
      obtain ⟨_, rfl⟩ := (show ∃ t, u = Value.int i t from ru)
      cases (show v = Value.none from rv)
      cases e
      exact SeqAt.EqAt.int_none _ _
    | bl j =>
      cases rb
      obtain ⟨_, rfl⟩ := (show ∃ t, u = Value.int i t from ru)
      cases (show v = Value.bool j from rv)
      cases e
      exact SeqAt.EqAt.int_bool _ _ _
    | int j =>
      cases rb
      obtain ⟨_, rfl⟩ := (show ∃ t, u = Value.int i t from ru)
      obtain ⟨_, rfl⟩ := (show ∃ t, v = Value.int j t from rv)
      cases e
      exact SeqAt.EqAt.int_int _ _ _ _
    | str j =>
      cases rb
      obtain ⟨_, rfl⟩ := (show ∃ t, u = Value.int i t from ru)
      obtain ⟨_, rfl⟩ := (show ∃ t, v = Value.str j t from rv)
      cases e
      exact SeqAt.EqAt.int_str _ _ _ _
    | _ => cases fb
  | str i =>
    cases ra
    cases b with
    | non =>
      cases rb
      obtain ⟨_, rfl⟩ := (show ∃ t, u = Value.str i t from ru)
      cases (show v = Value.none from rv)
      cases e
      exact SeqAt.EqAt.str_none _ _
    | bl j =>
      cases rb
      obtain ⟨_, rfl⟩ := (show ∃ t, u = Value.str i t from ru)
      cases (show v = Value.bool j from rv)
      cases e
      exact SeqAt.EqAt.str_bool _ _ _
    | int j =>
      cases rb
      obtain ⟨_, rfl⟩ := (show ∃ t, u = Value.str i t from ru)
      obtain ⟨_, rfl⟩ := (show ∃ t, v = Value.int j t from rv)
      cases e
      exact SeqAt.EqAt.str_int _ _ _ _
    | str j =>
      cases rb
      obtain ⟨_, rfl⟩ := (show ∃ t, u = Value.str i t from ru)
      obtain ⟨_, rfl⟩ := (show ∃ t, v = Value.str j t from rv)
      have e : some (decide (i = j)) = some r := e
      have q : (i == j) = r := by
        cases e
        by_cases h : i = j <;> simp [h]
      rw [← q]
      exact SeqAt.EqAt.str_str _ _ _ _
    | _ => cases fb
  | _ => cases fa
theorem listFlatRc {l : Addr} {its : Array Value} (hu : A.units < cLine) (hl : s.heap.IsList l its) (fb : flatD b = true) (rb : Rep p.g G la b y) (rv : RelV y v) : SeqAt.RcAt A s (.ref l) v false := by
  cases b with
  | non =>
    cases rb
    cases (show v = Value.none from rv)
    exact SeqAt.RcAt.list_none hl hu
  | bl j =>
    cases rb
    cases (show v = Value.bool j from rv)
    exact SeqAt.RcAt.list_bool _ hl hu
  | int j =>
    cases rb
    obtain ⟨_, rfl⟩ := (show ∃ t, v = Value.int j t from rv)
    exact SeqAt.RcAt.list_int _ _ hl hu
  | str j =>
    cases rb
    obtain ⟨_, rfl⟩ := (show ∃ t, v = Value.str j t from rv)
    exact SeqAt.RcAt.list_str _ _ hl hu
  | _ => cases fb
theorem flatListRc {l : Addr} {its : Array Value} (hu : A.units < cLine) (hl : s.heap.IsList l its) (fb : flatD b = true) (rb : Rep p.g G la b y) (rv : RelV y v) : SeqAt.RcAt A s v (.ref l) false := by
  cases b with
  | non =>
    cases rb
    cases (show v = Value.none from rv)
    exact SeqAt.RcAt.none_list hl hu
  | bl j =>
    cases rb
    cases (show v = Value.bool j from rv)
    exact SeqAt.RcAt.bool_list _ hl hu
  | int j =>
    cases rb
    obtain ⟨_, rfl⟩ := (show ∃ t, v = Value.int j t from rv)
    exact SeqAt.RcAt.int_list _ _ hl hu
  | str j =>
    cases rb
    obtain ⟨_, rfl⟩ := (show ∃ t, v = Value.str j t from rv)
    exact SeqAt.RcAt.str_list _ _ hl hu
  | _ => cases fb
theorem tupleFlatRc {l : Addr} {its : Array Value} (hu : A.units < cLine) (hl : s.heap.IsTuple l its) (fb : flatD b = true) (rb : Rep p.g G la b y) (rv : RelV y v) : SeqAt.RcAt A s (.ref l) v false := by
  cases b with
  | non =>
    cases rb
    cases (show v = Value.none from rv)
    exact SeqAt.RcAt.tuple_none hl hu
  | bl j =>
    cases rb
    cases (show v = Value.bool j from rv)
    exact SeqAt.RcAt.tuple_bool _ hl hu
  | int j =>
    cases rb
    obtain ⟨_, rfl⟩ := (show ∃ t, v = Value.int j t from rv)
    exact SeqAt.RcAt.tuple_int _ _ hl hu
  | str j =>
    cases rb
    obtain ⟨_, rfl⟩ := (show ∃ t, v = Value.str j t from rv)
    exact SeqAt.RcAt.tuple_str _ _ hl hu
  | _ => cases fb
theorem flatTupleRc {l : Addr} {its : Array Value} (hu : A.units < cLine) (hl : s.heap.IsTuple l its) (fb : flatD b = true) (rb : Rep p.g G la b y) (rv : RelV y v) : SeqAt.RcAt A s v (.ref l) false := by
  cases b with
  | non =>
    cases rb
    cases (show v = Value.none from rv)
    exact SeqAt.RcAt.none_tuple hl hu
  | bl j =>
    cases rb
    cases (show v = Value.bool j from rv)
    exact SeqAt.RcAt.bool_tuple _ hl hu
  | int j =>
    cases rb
    obtain ⟨_, rfl⟩ := (show ∃ t, v = Value.int j t from rv)
    exact SeqAt.RcAt.int_tuple _ _ hl hu
  | str j =>
    cases rb
    obtain ⟨_, rfl⟩ := (show ∃ t, v = Value.str j t from rv)
    exact SeqAt.RcAt.str_tuple _ _ hl hu
  | _ => cases fb
theorem listFlatEq {l : Addr} {its : Array Value} (hu : A.units < cLine) (hl : s.heap.IsList l its) (fb : flatD b = true) (rb : Rep p.g G la b y) (rv : RelV y v) : SeqAt.EqAt A s (.ref l) v false := by
  cases b with
  | non =>
    cases rb
    cases (show v = Value.none from rv)
    exact SeqAt.EqAt.list_none hl hu
  | bl j =>
    cases rb
    cases (show v = Value.bool j from rv)
    exact SeqAt.EqAt.list_bool _ hl hu
  | int j =>
    cases rb
    obtain ⟨_, rfl⟩ := (show ∃ t, v = Value.int j t from rv)
    exact SeqAt.EqAt.list_int _ _ hl hu
  | str j =>
    cases rb
    obtain ⟨_, rfl⟩ := (show ∃ t, v = Value.str j t from rv)
    exact SeqAt.EqAt.list_str _ _ hl hu
  | _ => cases fb
theorem flatListEq {l : Addr} {its : Array Value} (hu : A.units < cLine) (hl : s.heap.IsList l its) (fb : flatD b = true) (rb : Rep p.g G la b y) (rv : RelV y v) : SeqAt.EqAt A s v (.ref l) false := by
  cases b with
  | non =>
    cases rb
    cases (show v = Value.none from rv)
    exact SeqAt.EqAt.none_list hl hu
  | bl j =>
    cases rb
    cases (show v = Value.bool j from rv)
    exact SeqAt.EqAt.bool_list _ hl hu
  | int j =>
    cases rb
    obtain ⟨_, rfl⟩ := (show ∃ t, v = Value.int j t from rv)
    exact SeqAt.EqAt.int_list _ _ hl hu
  | str j =>
    cases rb
    obtain ⟨_, rfl⟩ := (show ∃ t, v = Value.str j t from rv)
    exact SeqAt.EqAt.str_list _ _ hl hu
  | _ => cases fb
theorem tupleFlatEq {l : Addr} {its : Array Value} (hu : A.units < cLine) (hl : s.heap.IsTuple l its) (fb : flatD b = true) (rb : Rep p.g G la b y) (rv : RelV y v) : SeqAt.EqAt A s (.ref l) v false := by
  cases b with
  | non =>
    cases rb
    cases (show v = Value.none from rv)
    exact SeqAt.EqAt.tuple_none hl hu
  | bl j =>
    cases rb
    cases (show v = Value.bool j from rv)
    exact SeqAt.EqAt.tuple_bool _ hl hu
  | int j =>
    cases rb
    obtain ⟨_, rfl⟩ := (show ∃ t, v = Value.int j t from rv)
    exact SeqAt.EqAt.tuple_int _ _ hl hu
  | str j =>
    cases rb
    obtain ⟨_, rfl⟩ := (show ∃ t, v = Value.str j t from rv)
    exact SeqAt.EqAt.tuple_str _ _ hl hu
  | _ => cases fb
theorem flatTupleEq {l : Addr} {its : Array Value} (hu : A.units < cLine) (hl : s.heap.IsTuple l its) (fb : flatD b = true) (rb : Rep p.g G la b y) (rv : RelV y v) : SeqAt.EqAt A s v (.ref l) false := by
  cases b with
  | non =>
    cases rb
    cases (show v = Value.none from rv)
    exact SeqAt.EqAt.none_tuple hl hu
  | bl j =>
    cases rb
    cases (show v = Value.bool j from rv)
    exact SeqAt.EqAt.bool_tuple _ hl hu
  | int j =>
    cases rb
    obtain ⟨_, rfl⟩ := (show ∃ t, v = Value.int j t from rv)
    exact SeqAt.EqAt.int_tuple _ _ hl hu
  | str j =>
    cases rb
    obtain ⟨_, rfl⟩ := (show ∃ t, v = Value.str j t from rv)
    exact SeqAt.EqAt.str_tuple _ _ hl hu
  | _ => cases fb
end
end Rs

/-! part RsEq4 -/
set_option Elab.async false
set_option linter.all false
set_option maxRecDepth 100000
set_option maxHeartbeats 4000000
namespace Rs
open PySem L2

section
variable (p : Pgm) (X : Cx)
/-- where == (of values as they stand, or within a sequence) leads -/
abbrev Aft (pins : List (Addr × Obj)) (σ : L2.St) (w : Wd) (s' : Shared) : Prop := ∃ w', Inv X pins σ w'.H s' ∧ Grow w w' ∧ Ok p.g w' ∧ w'.mu = w.mu
def RcB (n : Nat) : Prop := ∀ (A : Around) (pins : List (Addr × Obj)) (s : Shared) (σ : L2.St) (w : Wd) (a b : D) (x y : V) (u v : Value) (r : Bool), Sub X (lev n) A → Inv X pins σ w.H s → Ok p.g w →
  Rep p.g w.G w.la a x → Rep p.g w.G w.la b y → RelV x u → RelV y v → room n a b = true → eqD p.T a b = some r →
  wpAny (model X.prog X.w) A (richCompare .Eq u v) (fun q s' => q = .bool r ∧ Aft p X pins σ w s') X.xe s
def EqB (n : Nat) : Prop := ∀ (A : Around) (pins : List (Addr × Obj)) (s : Shared) (σ : L2.St) (w : Wd) (a b : D) (x y : V) (u v : Value) (r : Bool), Sub X (lev n) A → Inv X pins σ w.H s → Ok p.g w →
  Rep p.g w.G w.la a x → Rep p.g w.G w.la b y → RelV x u → RelV y v → room n a b = true → eqD p.T a b = some r →
  wpAny (model X.prog X.w) A (eqBool u v) (fun q s' => q = r ∧ Aft p X pins σ w s') X.xe s
end
theorem room_of {n : Nat} {a b : D} (h : room n a b = true) : ∃ i j, dep a = some i ∧ dep b = some j ∧ i ≤ n ∧ j ≤ n := by
  unfold room at h
  cases e1 : dep a with
  | none =>
    rw [e1] at h
    cases h
  | some i =>
    cases e2 : dep b with
    | none =>
      rw [e1, e2] at h
      cases h
    | some j =>
      rw [e1, e2] at h
      have z := of_decide_eq_true h
      exact ⟨i, j, rfl, rfl, z.1, z.2⟩
theorem room_mk {n i j : Nat} {a b : D} (e1 : dep a = some i) (e2 : dep b = some j) (h1 : i ≤ n) (h2 : j ≤ n) : room n a b = true := by
  unfold room
  rw [e1, e2]
  exact decide_eq_true ⟨h1, h2⟩
theorem depL_at : ∀ {ds : List D} {n i : Nat} {d : D}, depL ds = some n → ds[i]? = some d → ∃ j, dep d = some j ∧ j ≤ n
  | [], _, _, _, _, h => by simp at h
  | a :: as, n, i, d, e, h => by
    have e : (match dep a, depL as with
      | some x, some y => some (max x y)
      | _, _ => none) = some n := e
    cases e1 : dep a with
    | none =>
      rw [e1] at e
      cases e
    | some x =>
      cases e2 : depL as with
      | none =>
        rw [e1, e2] at e
        cases e
      | some y =>
        rw [e1, e2] at e
        have en : max x y = n := Option.some.inj e
        cases i with
        | zero =>
          cases (show some a = some d from h)
          exact ⟨x, e1, by omega⟩
        | succ i =>
          obtain ⟨j, h1, h2⟩ := depL_at (i := i) e2 (by simpa using h)
          exact ⟨j, h1, by omega⟩
theorem dep_tup {ds : List D} {n : Nat} (h : dep (.tup ds) = some n) : ∃ m, depL ds = some m ∧ n = m + 1 := by
  have h : (depL ds).map (· + 1) = some n := h
  obtain ⟨m, h1, h2⟩ := Option.map_eq_some_iff.mp h
  exact ⟨m, h1, h2.symm⟩
theorem dep_lst {ds : List D} {n : Nat} (h : dep (.lst ds) = some n) : ∃ m, depL ds = some m ∧ n = m + 1 := by
  have h : (depL ds).map (· + 1) = some n := h
  obtain ⟨m, h1, h2⟩ := Option.map_eq_some_iff.mp h
  exact ⟨m, h1, h2.symm⟩
/-- item by item: up to i all pairs are equal -/
def preEq (T : Tab) (as bs : List D) (i : Nat) : Prop := ∀ j a b, j < i → as[j]? = some a → bs[j]? = some b → eqD T a b = some true
theorem eqL_step {T : Tab} : ∀ {as bs : List D} {r : Bool} {i : Nat} {a b : D}, eqL T as bs = some r → preEq T as bs i → as[i]? = some a → bs[i]? = some b → ∃ k, eqD T a b = some k ∧ (k = false → r = false)
  | [], _, _, _, _, _, _, _, h, _ => by simp at h
  | _ :: _, [], _, _, _, _, _, _, _, h => by simp at h
  | a0 :: as, b0 :: bs, r, 0, a, b, e, _, h1, h2 => by
    cases (show some a0 = some a from h1)
    cases (show some b0 = some b from h2)
    rw [eqL_cons] at e
    cases q : eqD T a0 b0 with
    | none =>
      rw [q] at e
      cases e
    | some k =>
      refine ⟨k, rfl, fun hk => ?_⟩
      subst hk
      rw [q] at e
      cases e
      rfl
  | a0 :: as, b0 :: bs, r, i + 1, a, b, e, pr, h1, h2 => by
    rw [eqL_cons, pr 0 a0 b0 (Nat.succ_pos _) rfl rfl] at e
    exact eqL_step (i := i) e (fun j x y hj q1 q2 => pr (j + 1) x y (by omega) q1 q2) (by simpa using h1) (by simpa using h2)
theorem eqL_end {T : Tab} : ∀ {as bs : List D} {r : Bool}, eqL T as bs = some r → preEq T as bs (min as.length bs.length) → r = (as.length == bs.length)
  | [], [], _, e, _ => by cases e; rfl
  | [], _ :: _, _, e, _ => by cases e; rfl
  | _ :: _, [], _, e, _ => by cases e; rfl
  | a0 :: as, b0 :: bs, r, e, pr => by
    rw [eqL_cons, pr 0 a0 b0 (by simp only [List.length_cons]; omega) rfl rfl] at e
    have z := eqL_end e fun j x y hj q1 q2 => pr (j + 1) x y (by simp only [List.length_cons]; omega) q1 q2
    rw [z]
    simp
end Rs

/-! part RsEq5 -/
set_option Elab.async false
set_option linter.all false
set_option maxRecDepth 100000
set_option maxHeartbeats 4000000
namespace Rs
open PySem L2

section
variable {p : Pgm} {X : Cx}
theorem lst_there {pins : List (Addr × Obj)} {σ : L2.St} {H : Hp} {s : Shared} {a : Addr} {vs : List V} (I : Inv X pins σ H s) (h : H a = some (.lst vs)) :
    ∃ (its : List Value) (n : Nat), Vals vs its ∧ s.heap.get? a = some { cls := .type "list", data := .seq its.toArray n } := by
  obtain ⟨_, its, n, r, e⟩ := I.hok a _ h
  exact ⟨its, n, r, e⟩
theorem lst_is {pins : List (Addr × Obj)} {σ : L2.St} {H : Hp} {s : Shared} {a : Addr} {vs : List V} (I : Inv X pins σ H s) (h : H a = some (.lst vs)) : ∃ its : Array Value, s.heap.IsList a its := by
  obtain ⟨its, n, r, e⟩ := lst_there I h
  exact ⟨its.toArray, _, e, rfl, n, rfl⟩
theorem tup_is {pins : List (Addr × Obj)} {σ : L2.St} {H : Hp} {s : Shared} {a : Addr} {vs : List V} (o : Of X p) (I : Inv X pins σ H s) (h : SqT p.K H a vs) : ∃ its : List Value, Vals vs its ∧ s.heap.IsTuple a its.toArray := by
  obtain ⟨its, r, e, _⟩ := I.tuple (o.sqT h)
  exact ⟨its, r, e⟩
theorem vals_at {vs : List V} {its : List Value} (r : Vals vs its) {i : Nat} (h : i < its.toArray.size) : ∃ y, vs[i]? = some y ∧ RelV y its.toArray[i] := by
  have h' : i < its.length := by simpa using h
  have k : i < vs.length := by rw [r.length]; exact h'
  obtain ⟨u, hu, ru⟩ := r.get (List.getElem?_eq_getElem k)
  rw [List.getElem?_eq_getElem h'] at hu
  have e : its.toArray[i] = u := by simpa using Option.some.inj hu
  exact ⟨vs[i], List.getElem?_eq_getElem k, e ▸ ru⟩
theorem rep_at {g : Gm} {G : Hp} {la : List Addr} : ∀ {ds : List D} {vs : List V} {i : Nat} {y : V}, RepL g G la ds vs → vs[i]? = some y → ∃ d, ds[i]? = some d ∧ Rep g G la d y
  | _, _, _, _, .nil, h => by simp at h
  | _, _, 0, _, .cons h _, e => by simp at e; subst e; exact ⟨_, rfl, h⟩
  | _, _, i + 1, _, .cons _ r, e => by
    obtain ⟨d, h1, h2⟩ := rep_at (i := i) r (by simpa using e)
    exact ⟨d, by simpa using h1, h2⟩
/-- one turn of two sequences -/
theorem turn_eq {m : Nat} (hE : EqB p X m) {A : Around} (sb : Sub X (lev m + 1) A) {pins : List (Addr × Obj)} {σ : L2.St} {w w1 : Wd} {as bs : List D} {xs ys : List V} {us vs : List Value} {r : Bool} {i ka kb : Nat}
    (I : Inv X pins σ w1.H s) (gr : Grow w w1) (ok : Ok p.g w1) (em : w1.mu = w.mu) (ra : RepL p.g w1.G w1.la as xs) (rb : RepL p.g w1.G w1.la bs ys) (r1 : Vals xs us) (r2 : Vals ys vs)
    (da : depL as = some ka) (db : depL bs = some kb) (ha : ka ≤ m) (hb : kb ≤ m) (e : eqL p.T as bs = some r) (pr : preEq p.T as bs i) (h1 : i < us.toArray.size) (h2 : i < vs.toArray.size) :
    RsE.Turn X.prog X.w A X.xe us.toArray[i] vs.toArray[i] (fun s' => Aft p X pins σ w s' ∧ preEq p.T as bs (i + 1)) (fun s' => Aft p X pins σ w s' ∧ r = false) s := by
  obtain ⟨x, hx, rx⟩ := vals_at r1 h1
  obtain ⟨y, hy, ry⟩ := vals_at r2 h2
  obtain ⟨a, ea, qa⟩ := rep_at ra hx
  obtain ⟨b, eb, qb⟩ := rep_at rb hy
  obtain ⟨k, ek, hk⟩ := eqL_step e pr ea eb
  obtain ⟨ja, ga, la⟩ := depL_at da ea
  obtain ⟨jb, gb, lb⟩ := depL_at db eb
  refine wpAny_mono (hE A.in1 pins s σ w1 a b x y _ _ k sb.in1 I ok qa qb rx ry (room_mk ga gb (by omega) (by omega)) ek) (fun q s' z => ?_) fun _ _ z => z
  obtain ⟨rfl, w2, I2, g2, ok2, e2⟩ := z
  cases q with
  | true =>
    refine .inl ⟨rfl, ⟨w2, I2, gr.trans g2, ok2, e2.trans em⟩, fun j a' b' hj q1 q2 => ?_⟩
    by_cases hji : j = i
    · subst hji
      rw [ea] at q1
      rw [eb] at q2
      cases q1
      cases q2
      exact ek
    · exact pr j a' b' (by omega) q1 q2
  | false => exact .inr ⟨rfl, ⟨w2, I2, gr.trans g2, ok2, e2.trans em⟩, hk rfl⟩
theorem rc_tt {m : Nat} (hE : EqB p X m) (o : Of X p) {A : Around} (sb : Sub X (lev m + 1) A) {pins : List (Addr × Obj)} {s : Shared} {σ : L2.St} {w : Wd} {as bs : List D} {x y : V} {u v : Value} {r : Bool} {ka kb : Nat}
    (I : Inv X pins σ w.H s) (ok : Ok p.g w) (ra : Rep p.g w.G w.la (.tup as) x) (rb : Rep p.g w.G w.la (.tup bs) y) (ru : RelV x u) (rv : RelV y v) (da : depL as = some ka) (db : depL bs = some kb) (ha : ka ≤ m) (hb : kb ≤ m)
    (e : eqL p.T as bs = some r) : wpAny (model X.prog X.w) A (richCompare .Eq u v) (fun q s' => q = .bool r ∧ Aft p X pins σ w s') X.xe s := by
  cases ra with
  | tup h1 l1 =>
    cases rb with
    | tup h2 l2 =>
      cases ru
      cases rv
      obtain ⟨us, r1, t1⟩ := tup_is o I (sqT_up ok.sub h1)
      obtain ⟨vs, r2, t2⟩ := tup_is o I (sqT_up ok.sub h2)
      have z1 : us.toArray.size = as.length := by rw [List.size_toArray, ← r1.length, l1.length]
      have z2 : vs.toArray.size = bs.length := by rw [List.size_toArray, ← r2.length, l2.length]
      refine RsE.rc_tup sb.room.units0 (fun i s' => Aft p X pins σ w s' ∧ preEq p.T as bs i) (fun s' => Aft p X pins σ w s' ∧ r = false) t1 t2 (fun i k1 k2 s' q => ?_) (fun s' q => ?_) (fun s' q => ?_) ⟨⟨w, I, Grow.refl w, ok, rfl⟩, fun j _ _ hj => absurd hj (Nat.not_lt_zero j)⟩
      · obtain ⟨⟨w1, I1, g1, ok1, e1⟩, pr⟩ := q
        exact turn_eq hE sb I1 g1 ok1 e1 (l1.grow g1) (l2.grow g1) r1 r2 da db ha hb e pr k1 k2
      · obtain ⟨q, rfl⟩ := q
        exact ⟨rfl, q⟩
      · obtain ⟨q, pr⟩ := q
        rw [z1, z2] at pr
        refine ⟨?_, q⟩
        rw [z1, z2, eqL_end e pr]
theorem rc_ll {m : Nat} (hE : EqB p X m) (o : Of X p) {A : Around} (sb : Sub X (lev m + 1) A) {pins : List (Addr × Obj)} {s : Shared} {σ : L2.St} {w : Wd} {as bs : List D} {x y : V} {u v : Value} {r : Bool} {ka kb : Nat}
    (I : Inv X pins σ w.H s) (ok : Ok p.g w) (ra : Rep p.g w.G w.la (.lst as) x) (rb : Rep p.g w.G w.la (.lst bs) y) (ru : RelV x u) (rv : RelV y v) (da : depL as = some ka) (db : depL bs = some kb) (ha : ka ≤ m) (hb : kb ≤ m)
    (e : (if as.length = bs.length then eqL p.T as bs else some false) = some r) : wpAny (model X.prog X.w) A (richCompare .Eq u v) (fun q s' => q = .bool r ∧ Aft p X pins σ w s') X.xe s := by
  cases ra with
  | @lst a _ _ h1 l1 =>
    cases rb with
    | @lst b _ _ h2 l2 =>
      cases ru
      cases rv
      by_cases hl : as.length = bs.length
      · rw [if_pos hl] at e
        have there : ∀ w1, Grow w w1 → ∀ s', Inv X pins σ w1.H s' → Ok p.g w1 → RsE.Two a b as.length s' fun us vs => ∃ u' v', us = u'.toArray ∧ vs = v'.toArray ∧ Vals _ u' ∧ Vals _ v' := fun w1 g1 s' I1 ok1 => by
          obtain ⟨us, n1, r1, t1⟩ := lst_there I1 (ok1.sub _ _ (g1.G _ _ h1))
          obtain ⟨vs, n2, r2, t2⟩ := lst_there I1 (ok1.sub _ _ (g1.G _ _ h2))
          exact ⟨_, _, n1, n2, t1, t2, by rw [List.size_toArray, ← r1.length, l1.length], by rw [List.size_toArray, ← r2.length, ← l2.length, hl], us, vs, rfl, rfl, r1, r2⟩
        refine RsE.rc_lst (N := as.length) sb.room.units0 (fun i s' => Aft p X pins σ w s' ∧ preEq p.T as bs i) (fun s' => Aft p X pins σ w s' ∧ r = false) (fun i s' q => ?_) (fun s' q => ?_) (fun s' q => ?_) ⟨⟨w, I, Grow.refl w, ok, rfl⟩, fun j _ _ hj => absurd hj (Nat.not_lt_zero j)⟩
        · obtain ⟨⟨w1, I1, g1, ok1, e1⟩, pr⟩ := q
          obtain ⟨us, vs, n1, n2, t1, t2, z1, z2, u', v', rfl, rfl, r1, r2⟩ := there w1 g1 s' I1 ok1
          refine ⟨_, _, n1, n2, t1, t2, z1, z2, fun k1 k2 => ?_⟩
          refine wpAny_mono (turn_eq hE sb I1 g1 ok1 e1 (l1.grow g1) (l2.grow g1) r1 r2 da db ha hb e pr k1 k2) (fun q s2 z => ?_) fun _ _ z => z
          rcases z with z | ⟨h, ⟨w2, I2, g2, ok2, e2⟩, hr⟩
          · exact .inl z
          · obtain ⟨us2, vs2, m1, m2, c1, c2, y1, y2, _⟩ := there w2 g2 s2 I2 ok2
            exact .inr ⟨h, ⟨⟨w2, I2, g2, ok2, e2⟩, hr⟩, us2, vs2, m1, m2, c1, c2, y1, y2, trivial⟩
        · obtain ⟨q, rfl⟩ := q
          exact ⟨rfl, q⟩
        · obtain ⟨q, pr⟩ := q
          refine ⟨?_, q⟩
          have z := eqL_end e (by rw [← hl, Nat.min_self]; exact pr)
          rw [z, hl]
          simp
      · rw [if_neg hl] at e
        cases e
        obtain ⟨us, n1, r1, t1⟩ := lst_there I (ok.sub _ _ h1)
        obtain ⟨vs, n2, r2, t2⟩ := lst_there I (ok.sub _ _ h2)
        exact RsE.rc_len sb.room.units0 t1 t2 (by rw [List.size_toArray, List.size_toArray, ← r1.length, ← r2.length, ← l1.length, ← l2.length]; exact hl) ⟨rfl, w, I, Grow.refl w, ok, rfl⟩
end
end Rs

/-! part RsEq6 -/
set_option Elab.async false
set_option linter.all false
set_option maxRecDepth 100000
set_option maxHeartbeats 4000000
namespace Rs
open PySem L2

section
variable {p : Pgm} {X : Cx}
theorem ty_ref {M : Model} {h : Heap} {a : Addr} {o : Obj} (e : h.get? a = some o) : PySem.W.Looks M h (typeOf (.ref a)) o.cls := fun A Q E s k q => wpAny_typeOf_ref (k _ _ e) q
/-- the type of a value -/
theorem ty_of (o : Of X p) {pins : List (Addr × Obj)} {s : Shared} {σ : L2.St} {w : Wd} {b : D} {y : V} {v : Value} {j : Nat} (I : Inv X pins σ w.H s) (ok : Ok p.g w) (rb : Rep p.g w.G w.la b y) (rv : RelV y v) (d : dep b = some j) :
    ∃ tb, PySem.W.Looks (model X.prog X.w) s.heap (typeOf v) tb ∧ ((∃ t, t ∈ kinds ∧ tb = .type t) ∨ ∃ c fs, b = .ins c fs ∧ tb = .ref (p.C c)) := by
  cases rb with
  | non =>
    cases (show v = Value.none from rv)
    exact ⟨_, .of_pure (r := .type "NoneType") rfl, .inl ⟨_, by decide, rfl⟩⟩
  | bl b =>
    cases (show v = Value.bool b from rv)
    exact ⟨_, .of_pure (r := .type "bool") rfl, .inl ⟨_, by decide, rfl⟩⟩
  | int i =>
    obtain ⟨t, rfl⟩ := (show ∃ t, v = Value.int i t from rv)
    exact ⟨_, .of_pure (r := .type "int") rfl, .inl ⟨_, by decide, rfl⟩⟩
  | str i =>
    obtain ⟨t, rfl⟩ := (show ∃ t, v = Value.str i t from rv)
    exact ⟨_, .of_pure (r := .type "str") rfl, .inl ⟨_, by decide, rfl⟩⟩
  | tup h l =>
    cases rv
    obtain ⟨its, _, ob, e, c, _⟩ := tup_is o I (sqT_up ok.sub h)
    exact ⟨_, ty_ref e, .inl ⟨"tuple", by decide, c⟩⟩
  | lst h l =>
    cases rv
    obtain ⟨its, n, _, e⟩ := lst_there I (ok.sub _ _ h)
    exact ⟨_, ty_ref e, .inl ⟨"list", by decide, rfl⟩⟩
  | ins h k l =>
    cases rv
    obtain ⟨_, _, _, e, _⟩ := I.hok _ _ (ok.sub _ _ h)
    exact ⟨_, ty_ref e, .inr ⟨_, _, rfl, rfl⟩⟩
  | scr _ => cases d
  | dct _ _ _ => cases d
  | loc _ => cases d
theorem rc_ins (q : EqF p) (o : Of X p) {k : Nat} (tb : p.Tab (k + 1)) {A : Around} {n : Nat} (sb : Sub X n A) (hn : lev (k + 1) ≤ n) {pins : List (Addr × Obj)} {s : Shared} {σ : L2.St} {w : Wd} {c : Nat} {fs : List (Nat × D)} {b : D} {x y : V} {u v : Value} {r : Bool} {i j : Nat}
    (I : Inv X pins σ w.H s) (ok : Ok p.g w) (ra : Rep p.g w.G w.la (.ins c fs) x) (rb : Rep p.g w.G w.la b y) (ru : RelV x u) (rv : RelV y v) (da : dep (.ins c fs) = some i) (db : dep b = some j) (ha : i ≤ k + 2) (hb : j ≤ k + 2)
    (e : eqD p.T (.ins c fs) b = some r) : wpAny (model X.prog X.w) A (richCompare .Eq u v) (fun q s' => q = .bool r ∧ Aft p X pins σ w s') X.xe s := by
  cases hg : (p.T[c]?).bind Cls.eqg with
  | none =>
    simp only [eqD, hg] at e
    cases e
  | some t =>
    obtain ⟨gp, cnt, f⟩ := t
    have F := q.cls c gp cnt f hg
    obtain ⟨fq, hf, har⟩ := F.fn
    have run := q.run c gp cnt f fs b w.mu k r i j hg da ha db hb e
    obtain ⟨ty, hty, hk⟩ := ty_of o I ok rb rv db
    have first : PySem.W.notFirst p.K (p.C c) ty = true := by
      rcases hk with ⟨t, ht, rfl⟩ | ⟨c', gs, rfl, rfl⟩
      · exact F.bui t ht
      · refine F.own c' ?_
        rw [eqD_ii, hg] at e
        cases z : p.T[c']? with
        | none =>
          rw [z] at e
          cases e
        | some _ => rfl
    have ra0 := ra
    cases ra with
    | @ins _ a dx _ fvs h1 hk1 l1 =>
      cases ru
      obtain ⟨mA, J, _⟩ := ins_get I.hok (ok.sub _ _ h1)
      obtain ⟨od, J, _⟩ := J.look
      obtain ⟨m, hF⟩ := I.fr
      refine PySem.W.cmp_K (op := .Eq) (tb := ty) (K := X.K) sb.room.units0 hF I.ok.mod.kin J hty (by rw [o.K]; exact first) (by rw [o.K]; exact F.find) (by rw [o.K]; exact F.isf) ?_
      have FO := o.fn tb hf
      have hsp : spF p.g (Rs.run p.T p.fns (k + 1)) f fq.ar [.ref a, y] w.H (fun z H' => z = .bl r ∧ ∃ w', w'.H = H' ∧ Grow w w' ∧ Ok p.g w' ∧ w'.mu = w.mu) E0 := by
        refine ⟨w, [.ins c fs, b], rfl, ok, .cons ra0 (.cons rb .nil), by rw [har]; rfl, ?_⟩
        rw [run]
        intro w' em gr ok' z rz
        cases rz
        exact ⟨rfl, w', rfl, gr, ok', em⟩
      have e0 : Env0 X.prog X.w X.K X.mg X.base A X.stack s w.H := by
        have z := I.env0
        exact ⟨by rw [sb.fr]; exact z.frames, z.mod, z.bs, z.bsz, z.funs, z.frf, z.hok, z.bare⟩
      have r2 : Vals [V.ref a, y] [Value.ref a, v] := .cons rfl (.cons rv .nil)
      have hl := FO.len _ _ _ _ hsp
      refine wpAny_call (codeAny_mono (FO.run A X.stack s w.H ⟨[.ref a, v], []⟩ [.ref a, v] [.ref a, y] _ E0 (sb.room.mono hn) e0 (by
        have z := F.bnd s [.ref a, v] (by rw [← o.K]; exact I.kIn) (by simpa using hl)
        simpa using z) r2 hsp) fun rs s' hq => ?_)
      cases rs with
      | error er => exact passL pins σ w.H s er s' I hq
      | ok fl =>
        cases fl with
        | ret z =>
          obtain ⟨zv, H', I', rz, ez, w', eH, gr, ok', em⟩ := I.after hq
          subst ez
          subst eH
          cases rz
          exact ⟨rfl, w', I', gr, ok', em⟩
        | next => exact False.elim hq
        | brk => exact False.elim hq
        | cont => exact False.elim hq
/-- flat values -/
theorem flat_dep {a : D} (h : dep a = some 0) : flatD a = true := by
  cases a with
  | tup xs =>
    obtain ⟨m, _, e⟩ := dep_tup h
    cases e
  | lst xs =>
    obtain ⟨m, _, e⟩ := dep_lst h
    cases e
  | ins c fs =>
    have h : (depF fs).map (· + 3) = some 0 := h
    obtain ⟨m, _, e⟩ := Option.map_eq_some_iff.mp h
    cases e
  | scr _ => cases h
  | dct _ => cases h
  | loc _ => cases h
  | _ => rfl
theorem ins_dep {c i : Nat} {fs : List (Nat × D)} (h : dep (.ins c fs) = some i) : 3 ≤ i := by
  have h : (depF fs).map (· + 3) = some i := h
  obtain ⟨m, _, e⟩ := Option.map_eq_some_iff.mp h
  omega
/-- what is no sequence beside a sequence, what is a list beside a tuple -/
inductive Kd (p : Pgm) (w : Wd) : D → V → Prop
  | flat {a : D} {x : V} : flatD a = true → Kd p w a x
  | tup {as : List D} {a : Addr} {vs : List V} : SqT p.K w.H a vs → Kd p w (.tup as) (.ref a)
  | lst {as : List D} {a : Addr} {vs : List V} : w.H a = some (.lst vs) → Kd p w (.lst as) (.ref a)
  | ins {c : Nat} {fs : List (Nat × D)} {x : V} : Kd p w (.ins c fs) x
theorem kd_of {w : Wd} {a : D} {x : V} {i : Nat} (ok : Ok p.g w) (h : Rep p.g w.G w.la a x) (d : dep a = some i) : Kd p w a x := by
  cases h with
  | tup h _ => exact .tup (sqT_up ok.sub h)
  | lst h _ => exact .lst (ok.sub _ _ h)
  | ins _ _ _ => exact .ins
  | scr _ => cases d
  | dct _ _ _ => cases d
  | loc _ => cases d
  | _ => exact .flat rfl
theorem rcB (q : EqF p) (o : Of X p) {n : Nat} (tb : ∀ k, k + 2 = n → p.Tab (k + 1)) (hE : ∀ m, m + 1 = n → EqB p X m) : RcB p X n := by
  intro A pins s σ w a b x y u v r sb I ok ra rb ru rv hroom e
  obtain ⟨i, j, da, db, hi, hj⟩ := room_of hroom
  have hu := sb.room.units0
  have now : Aft p X pins σ w s := ⟨w, I, Grow.refl w, ok, rfl⟩
  have ka := kd_of ok ra da
  have kb := kd_of ok rb db
  cases ka with
  | ins =>
    have i3 := ins_dep da
    obtain ⟨k, hk⟩ : ∃ k, k + 2 = n := ⟨n - 2, by omega⟩
    refine rc_ins q o (tb k hk) sb (lev_le (by omega)) I ok ra rb ru rv da db (by omega) (by omega) e
  | flat fa =>
    cases kb with
    | flat fb => exact flatRc fa fb ra rb ru rv e _ _ _ _ ⟨rfl, now⟩
    | tup h =>
      cases rv
      obtain ⟨its, _, t⟩ := tup_is o I h
      have hr : r = false := by
        cases a <;> first | (cases e; rfl) | cases fa
      subst hr
      exact flatTupleRc hu t fa ra ru _ _ _ _ ⟨rfl, now⟩
    | lst h =>
      cases rv
      obtain ⟨its, t⟩ := lst_is I h
      have hr : r = false := by
        cases a <;> first | (cases e; rfl) | cases fa
      subst hr
      exact flatListRc hu t fa ra ru _ _ _ _ ⟨rfl, now⟩
    | ins => cases a <;> first | cases e | cases fa
  | @tup as _ _ h =>
    obtain ⟨m, dm, hm⟩ := dep_tup da
    obtain ⟨n', rfl⟩ : ∃ n', n' + 1 = n := ⟨n - 1, by omega⟩
    have sb' : Sub X (lev n' + 1) A := sb.mono (by rw [lev_up]; omega)
    cases kb with
    | flat fb =>
      cases ru
      obtain ⟨its, _, t⟩ := tup_is o I h
      have hr : r = false := by
        cases b <;> first | (cases e; rfl) | cases fb
      subst hr
      exact tupleFlatRc hu t fb rb rv _ _ _ _ ⟨rfl, now⟩
    | @tup bs _ _ h2 =>
      obtain ⟨m2, dm2, hm2⟩ := dep_tup db
      exact rc_tt (hE n' rfl) o sb' I ok ra rb ru rv dm dm2 (by omega) (by omega) (by rw [← eqD_tt]; exact e)
    | lst h2 =>
      cases ru
      cases rv
      obtain ⟨its, _, t⟩ := tup_is o I h
      obtain ⟨its2, t2⟩ := lst_is I h2
      cases e
      exact SeqAt.RcAt.tuple_list t t2 hu _ _ _ _ ⟨rfl, now⟩
    | ins => cases e
  | @lst as _ _ h =>
    obtain ⟨m, dm, hm⟩ := dep_lst da
    obtain ⟨n', rfl⟩ : ∃ n', n' + 1 = n := ⟨n - 1, by omega⟩
    have sb' : Sub X (lev n' + 1) A := sb.mono (by rw [lev_up]; omega)
    cases kb with
    | flat fb =>
      cases ru
      obtain ⟨its, t⟩ := lst_is I h
      have hr : r = false := by
        cases b <;> first | (cases e; rfl) | cases fb
      subst hr
      exact listFlatRc hu t fb rb rv _ _ _ _ ⟨rfl, now⟩
    | @lst bs _ _ h2 =>
      obtain ⟨m2, dm2, hm2⟩ := dep_lst db
      exact rc_ll (hE n' rfl) o sb' I ok ra rb ru rv dm dm2 (by omega) (by omega) (by rw [← eqD_ll]; exact e)
    | tup h2 =>
      cases ru
      cases rv
      obtain ⟨its2, t2⟩ := lst_is I h
      obtain ⟨its, _, t⟩ := tup_is o I h2
      cases e
      exact SeqAt.RcAt.list_tuple t2 t hu _ _ _ _ ⟨rfl, now⟩
    | ins => cases e
/-- == within a sequence, an object on the left and none on the right -/
theorem eqBool_left {prog : Program} {wo : World} {A : Around} {E : Value → Shared → Prop} {s : Shared} {l : Addr} {v : Value} {Q : Bool → Shared → Prop} (hne : ∀ z, v ≠ .ref z)
    (h : wpAny (model prog wo) A (richCompare .Eq (.ref l) v) (fun v s' => ∃ r, v = .bool r ∧ Q r s') E s) : wpAny (model prog wo) A (eqBool (.ref l) v) Q E s := by
  unfold eqBool
  refine wpAny_holding (wpAny_ite_split (fun z => absurd (eq_of_beq z).symm (hne l)) fun _ => wpAny_bind (wpAny_mono h (fun v s' hv => ?_) fun _ _ z => z))
  obtain ⟨r, rfl, q⟩ := hv
  exact wpAny_truthy_bool q
/-- within a sequence: what is the same is equal -/
theorem eqB_of (q : EqF p) (o : Of X p) {n : Nat} (h : RcB p X n) : EqB p X n := by
  intro A pins s σ w a b x y u v r sb I ok ra rb ru rv hroom e
  obtain ⟨i, j, da, db, hi, hj⟩ := room_of hroom
  have hu := sb.room.units0
  have now : Aft p X pins σ w s := ⟨w, I, Grow.refl w, ok, rfl⟩
  have refs : ∀ c d : Addr, x = .ref c → y = .ref d → u = .ref c → v = .ref d → wpAny (model X.prog X.w) A (eqBool u v) (fun q s' => q = r ∧ Aft p X pins σ w s') X.xe s := by
    rintro c d rfl rfl rfl rfl
    by_cases hcd : c = d
    · subst hcd
      have hr := same_eq q o I ok.sub ra rb e
      subst hr
      exact SeqAt.EqAt.same _ _ _ _ _ ⟨rfl, now⟩
    · refine GQ.eqBool_refG hcd (wpAny_mono (h A pins s σ w a b _ _ _ _ r sb I ok ra rb ru rv hroom e) (fun z s' hz => ?_) fun _ _ z => z)
      exact ⟨r, hz.1, rfl, hz.2⟩
  have ka := kd_of ok ra da
  have kb := kd_of ok rb db
  have r1 : flatD a = true ∨ ∃ c, x = .ref c ∧ u = .ref c := by
    cases ka with
    | flat fa => exact .inl fa
    | tup _ => exact .inr ⟨_, rfl, ru⟩
    | lst _ => exact .inr ⟨_, rfl, ru⟩
    | ins => cases ra with
      | ins _ _ _ => exact .inr ⟨_, rfl, ru⟩
  have r2 : flatD b = true ∨ ∃ c, y = .ref c ∧ v = .ref c := by
    cases kb with
    | flat fa => exact .inl fa
    | tup _ => exact .inr ⟨_, rfl, rv⟩
    | lst _ => exact .inr ⟨_, rfl, rv⟩
    | ins => cases rb with
      | ins _ _ _ => exact .inr ⟨_, rfl, rv⟩
  rcases r1 with fa | ⟨c, e1, e2⟩
  · rcases r2 with fb | ⟨d, e3, e4⟩
    · exact flatEq fa fb ra rb ru rv e _ _ _ _ ⟨rfl, now⟩
    · cases kb with
      | flat fb => exact flatEq fa fb ra rb ru rv e _ _ _ _ ⟨rfl, now⟩
      | tup h =>
        cases rv
        obtain ⟨its, _, t⟩ := tup_is o I h
        have hr : r = false := by
          cases a <;> first | (cases e; rfl) | cases fa
        subst hr
        exact flatTupleEq hu t fa ra ru _ _ _ _ ⟨rfl, now⟩
      | lst h =>
        cases rv
        obtain ⟨its, t⟩ := lst_is I h
        have hr : r = false := by
          cases a <;> first | (cases e; rfl) | cases fa
        subst hr
        exact flatListEq hu t fa ra ru _ _ _ _ ⟨rfl, now⟩
      | ins => cases a <;> first | cases e | cases fa
  · rcases r2 with fb | ⟨d, e3, e4⟩
    · cases ka with
      | flat fa => exact flatEq fa fb ra rb ru rv e _ _ _ _ ⟨rfl, now⟩
      | tup h =>
        cases ru
        obtain ⟨its, _, t⟩ := tup_is o I h
        have hr : r = false := by
          cases b <;> first | (cases e; rfl) | cases fb
        subst hr
        exact tupleFlatEq hu t fb rb rv _ _ _ _ ⟨rfl, now⟩
      | lst h =>
        cases ru
        obtain ⟨its, t⟩ := lst_is I h
        have hr : r = false := by
          cases b <;> first | (cases e; rfl) | cases fb
        subst hr
        exact listFlatEq hu t fb rb rv _ _ _ _ ⟨rfl, now⟩
      | ins =>
        subst e1
        subst e2
        have hne : ∀ z, v ≠ .ref z := by
          intro z hz
          subst hz
          cases b with
          | non => cases rb; cases rv
          | bl _ => cases rb; cases rv
          | int _ =>
            cases rb
            obtain ⟨_, hz⟩ := (show ∃ t, Value.ref z = Value.int _ t from rv)
            cases hz
          | str _ =>
            cases rb
            obtain ⟨_, hz⟩ := (show ∃ t, Value.ref z = Value.str _ t from rv)
            cases hz
          | _ => cases fb
        refine eqBool_left hne (wpAny_mono (h A pins s σ w _ b _ _ _ _ r sb I ok ra rb rfl rv hroom e) (fun z s' hz => ?_) fun _ _ z => z)
        exact ⟨r, hz.1, rfl, hz.2⟩
    · exact refs c d e1 e3 e2 e4
/-- all sizes: with the functions of less fuel -/
theorem eqAll (q : EqF p) (o : Of X p) : ∀ n : Nat, (∀ k, k + 1 ≤ n → p.Tab k) → RcB p X n ∧ EqB p X n
  | 0, tb => by
    have h : RcB p X 0 := rcB q o (fun k hk => absurd hk (by omega)) fun m hm => absurd hm (by omega)
    exact ⟨h, eqB_of q o h⟩
  | n + 1, tb => by
    have ih := eqAll q o n fun k hk => tb k (by omega)
    have h : RcB p X (n + 1) := rcB q o (fun k hk => tb (k + 1) (by omega)) fun m hm => by
      have e : m = n := by omega
      rw [e]
      exact ih.2
    exact ⟨h, eqB_of q o h⟩
end
end Rs

/-! part RsNe -/
set_option Elab.async false
set_option linter.all false
set_option maxRecDepth 100000
set_option maxHeartbeats 4000000
namespace Rs
open PySem L2

/-! ### plain data as the library has it -/
mutual
def toPy : D → PyData
  | .bl b => .bool b
  | .int i => .int i
  | .str s => .str s
  | .tup xs => .tuple (toPys xs)
  | .lst xs => .list (toPys xs)
  | _ => .none
def toPys : List D → List PyData
  | [] => []
  | x :: xs => toPy x :: toPys xs
end
mutual
theorem py_plain : ∀ d : D, PyData.plain (toPy d) = true
  | .tup xs => by
    show PyData.plainAll (toPys xs) = true
    exact py_plains xs
  | .lst xs => by
    show PyData.plainAll (toPys xs) = true
    exact py_plains xs
  | .non => rfl
  | .bl _ => rfl
  | .int _ => rfl
  | .str _ => rfl
  | .scr _ => rfl
  | .dct _ => rfl
  | .ins _ _ => rfl
  | .loc _ => rfl
theorem py_plains : ∀ ds : List D, PyData.plainAll (toPys ds) = true
  | [] => rfl
  | x :: xs => by
    show (PyData.plain (toPy x) && PyData.plainAll (toPys xs)) = true
    rw [py_plain x, py_plains xs]
    rfl
end
mutual
theorem py_depth : ∀ (d : D) (n : Nat), dep d = some n → (toPy d).depth ≤ n
  | .tup xs, n, h => by
    obtain ⟨m, h1, h2⟩ := dep_tup h
    have z := py_depths xs m h1
    show PyData.depthAll (toPys xs) + 1 ≤ n
    omega
  | .lst xs, n, h => by
    obtain ⟨m, h1, h2⟩ := dep_lst h
    have z := py_depths xs m h1
    show PyData.depthAll (toPys xs) + 1 ≤ n
    omega
  | .non, n, h => Nat.zero_le _
  | .bl _, n, h => Nat.zero_le _
  | .int _, n, h => Nat.zero_le _
  | .str _, n, h => Nat.zero_le _
  | .scr _, n, h => Nat.zero_le _
  | .dct _, n, h => Nat.zero_le _
  | .ins _ _, n, h => Nat.zero_le _
  | .loc _, n, h => Nat.zero_le _
theorem py_depths : ∀ (ds : List D) (n : Nat), depL ds = some n → PyData.depthAll (toPys ds) ≤ n
  | [], n, h => Nat.zero_le _
  | x :: xs, n, h => by
    have h : (match dep x, depL xs with
      | some a, some b => some (max a b)
      | _, _ => none) = some n := h
    cases e1 : dep x with
    | none =>
      rw [e1] at h
      cases h
    | some a =>
      cases e2 : depL xs with
      | none =>
        rw [e1, e2] at h
        cases h
      | some b =>
        rw [e1, e2] at h
        have en : max a b = n := Option.some.inj h
        have z1 := py_depth x a e1
        have z2 := py_depths xs b e2
        show max (toPy x).depth (PyData.depthAll (toPys xs)) ≤ n
        omega
end
theorem pls {x : D} {xs : List D} (h : plainL (x :: xs) = true) : plainD x = true ∧ plainL xs = true := Bool.and_eq_true_iff.mp h
section
variable {p : Pgm} {G H : Hp} {la : List Addr}
mutual
theorem py_dp (sub : ∀ a u, G a = some u → H a = some u) : ∀ {d : D} {x : V}, Rep p.g G la d x → plainD d = true → Dp p.K H x (toPy d)
  | _, _, .non, _ => .non
  | _, _, .bl b, _ => .bl b
  | _, _, .int i, _ => .int i
  | _, _, .str s, _ => .str s
  | _, _, .tup h l, q => .tup (sqT_up sub h) (py_dps sub l q)
  | _, _, .lst h l, q => .lst (.inl (.inl (sub _ _ h))) (py_dps sub l q)
  | _, _, .scr _, q => by cases q
  | _, _, .dct _ _ _, q => by cases q
  | _, _, .ins _ _ _, q => by cases q
  | _, _, .loc _, q => by cases q
theorem py_dps (sub : ∀ a u, G a = some u → H a = some u) : ∀ {ds : List D} {xs : List V}, RepL p.g G la ds xs → plainL ds = true → DpAll p.K H xs (toPys ds)
  | _, _, .nil, _ => .nil
  | _, _, .cons h l, q => .cons (py_dp sub h (pls q).1) (py_dps sub l (pls q).2)
end
end
theorem eqvAll_len : ∀ (xs ys : List PyData), xs.length ≠ ys.length → PyData.eqvAll xs ys = false
  | [], [], h => absurd rfl h
  | [], _ :: _, _ => rfl
  | _ :: _, [], _ => rfl
  | x :: xs, y :: ys, h => by
    show (PyData.eqv x y && PyData.eqvAll xs ys) = false
    rw [eqvAll_len xs ys (by simpa using h), Bool.and_false]
theorem toPys_len : ∀ ds : List D, (toPys ds).length = ds.length
  | [] => rfl
  | _ :: xs => by
    show (toPys xs).length + 1 = _
    rw [toPys_len xs]
    rfl
mutual
theorem py_eq (T : Tab) : ∀ (a b : D) (r : Bool), plainD a = true → plainD b = true → eqD T a b = some r → PyData.eqv (toPy a) (toPy b) = r
  | .non, b, r, _, hb, e => by
    cases b <;> first | (cases e; rfl) | cases hb
  | .bl x, b, r, _, hb, e => by
    cases b <;> first | (cases e; rfl) | cases hb
  | .int x, b, r, _, hb, e => by
    cases b <;> first | (cases e; rfl) | cases hb
  | .str x, b, r, _, hb, e => by
    cases b with
    | str y =>
      have e : some (decide (x = y)) = some r := e
      cases e
      show (x == y) = decide (x = y)
      by_cases h : x = y <;> simp [h]
    | _ => first | (cases e; rfl) | cases hb
  | .tup xs, b, r, ha, hb, e => by
    cases b with
    | tup ys =>
      rw [eqD_tt] at e
      exact py_eqs T xs ys r ha hb e
    | _ => first | (cases e; rfl) | cases hb
  | .lst xs, b, r, ha, hb, e => by
    cases b with
    | lst ys =>
      rw [eqD_ll] at e
      show PyData.eqvAll (toPys xs) (toPys ys) = r
      by_cases hl : xs.length = ys.length
      · rw [if_pos hl] at e
        exact py_eqs T xs ys r ha hb e
      · rw [if_neg hl] at e
        cases e
        exact eqvAll_len _ _ (by rw [toPys_len, toPys_len]; exact hl)
    | _ => first | (cases e; rfl) | cases hb
  | .scr _, _, _, ha, _, _ => by cases ha
  | .dct _, _, _, ha, _, _ => by cases ha
  | .ins _ _, _, _, ha, _, _ => by cases ha
  | .loc _, _, _, ha, _, _ => by cases ha
theorem py_eqs (T : Tab) : ∀ (as bs : List D) (r : Bool), plainL as = true → plainL bs = true → eqL T as bs = some r → PyData.eqvAll (toPys as) (toPys bs) = r
  | [], [], r, _, _, e => by cases e; rfl
  | [], _ :: _, r, _, _, e => by cases e; rfl
  | _ :: _, [], r, _, _, e => by cases e; rfl
  | a :: as, b :: bs, r, ha, hb, e => by
    rw [eqL_cons] at e
    show (PyData.eqv (toPy a) (toPy b) && PyData.eqvAll (toPys as) (toPys bs)) = r
    cases q : eqD T a b with
    | none =>
      rw [q] at e
      cases e
    | some k =>
      rw [py_eq T a b k (pls ha).1 (pls hb).1 q]
      rw [q] at e
      cases k with
      | true => exact py_eqs T as bs r (pls ha).2 (pls hb).2 e
      | false =>
        cases e
        rfl
end
end Rs

/-! part RsCmp -/
set_option Elab.async false
set_option linter.all false
set_option maxRecDepth 100000
set_option maxHeartbeats 4000000
namespace Rs
open PySem L2

section
variable {p : Pgm} {X : Cx}
/-- what is read in the store, and is plain, reads as data -/
theorem plain_dp {w : Wd} {a : D} {x : V} (ok : Ok p.g w) (h : Rep p.g w.G w.la a x) (q : plainD (look w.mu a) = true) : Dp p.K w.H x (toPy (look w.mu a)) := by
  by_cases hl : look w.mu a = a
  · rw [hl] at q ⊢
    exact py_dp ok.sub h q
  · generalize e : look w.mu a = A at *
    cases A with
    | lst ds =>
      obtain ⟨c, vs, rfl, h1, h2⟩ := repL ok h e
      exact .lst (.inl (.inl h1)) (py_dps ok.sub h2 q)
    | tup ds =>
      obtain ⟨c, vs, rfl, h1, h2⟩ := repT ok h e
      exact .tup h1 (py_dps ok.sub h2 q)
    | non =>
      obtain ⟨rfl, _⟩ := repN h e
      exact .non
    | bl _ =>
      obtain ⟨rfl, _⟩ := repB h e
      exact .bl _
    | int _ =>
      obtain ⟨rfl, _⟩ := repI h e
      exact .int _
    | str _ =>
      obtain ⟨rfl, _⟩ := repS h e
      exact .str _
    | _ => cases q
theorem not_loc {w : Wd} {a : D} (h : isLoc a = false) : look w.mu a = a := by
  cases a <;> first | rfl | cases h
theorem py_room {n : Nat} {a b : D} {A : Around} {j : Nat} (h : room n a b = true) (r : Room (lev n) A) : A.units + min (toPy a).depth (toPy b).depth < cLine ∧ A.units + 1 + min (toPy b).depth (toPy a).depth < cLine := by
  obtain ⟨i, j, d1, d2, h1, h2⟩ := room_of h
  have z1 := py_depth a i d1
  have z2 := r.un
  have z3 : n ≤ lev n := by unfold lev; omega
  omega
variable {k : Nat}
theorem oc_eq (hR : RcB p X k) (hX : X.K = p.K) (hr : Room (lev k) X.A) : OpR X (compareOp .Eq) (rCmp p.g (cmpD p.T k .Eq)) := by
  intro pins s σ H x y v u Q I rx ry h
  obtain ⟨w, a, b, c, rfl, ok, ra, rb, hd, q⟩ := rCmp_of h
  have hd : eqO p.T k w.mu a b = some c := hd
  unfold eqO at hd
  split at hd
  · rename_i hc
    obtain ⟨h1, h2⟩ := Bool.and_eq_true_iff.mp hc
    rcases Bool.or_eq_true_iff.mp h2 with h2 | h2
    · obtain ⟨l1, l2⟩ := Bool.and_eq_true_iff.mp h2
      rw [not_loc (by simpa using l1), not_loc (by simpa using l2)] at hd h1
      show wpAny (model X.prog X.w) X.A (richCompare .Eq v u) (EP X pins σ Q) X.xe s
      refine wpAny_mono (hR X.A pins s σ w a b x y v u c ⟨hr, rfl⟩ I ok ra rb rx ry h1 hd) (fun z s' hz => ?_) fun _ _ z => z
      obtain ⟨rfl, w', I', gr, ok', em⟩ := hz
      exact ⟨.bl c, _, I', rfl, q w' em gr ok'⟩
    · obtain ⟨p1, p2⟩ := Bool.and_eq_true_iff.mp h2
      obtain ⟨as, r1⟩ := Dp.reads I _ x v (hX ▸ plain_dp ok ra p1) rx
      obtain ⟨bs, r2⟩ := Dp.reads I _ y u (hX ▸ plain_dp ok rb p2) ry
      refine SeqAt.eq_plain r1 r2 (py_plain _) (py_plain _) (py_room (j := 0) h1 hr).1 ?_
      rw [py_eq p.T _ _ c p1 p2 hd]
      exact ⟨.bl c, _, I, rfl, here ok q⟩
  · cases hd
theorem oc_ne (hX : X.K = p.K) (hr : Room (lev k) X.A) : OpR X (compareOp .NotEq) (rCmp p.g (cmpD p.T k .NotEq)) := by
  intro pins s σ H x y v u Q I rx ry h
  obtain ⟨w, a, b, c, rfl, ok, ra, rb, hd, q⟩ := rCmp_of h
  have hd : neO p.T k (look w.mu a) (look w.mu b) = some c := hd
  unfold neO at hd
  split at hd
  · rename_i hc
    obtain ⟨hc, p2⟩ := Bool.and_eq_true_iff.mp hc
    obtain ⟨h1, p1⟩ := Bool.and_eq_true_iff.mp hc
    obtain ⟨c', hc', rfl⟩ := Option.map_eq_some_iff.mp hd
    obtain ⟨as, r1⟩ := Dp.reads I _ x v (hX ▸ plain_dp ok ra p1) rx
    obtain ⟨bs, r2⟩ := Dp.reads I _ y u (hX ▸ plain_dp ok rb p2) ry
    refine SeqAt.ne_plain r1 r2 (py_plain _) (py_plain _) (py_room (j := 0) h1 hr).1 ?_
    rw [py_eq p.T _ _ c' p1 p2 hc']
    exact ⟨.bl (!c'), _, I, rfl, here ok q⟩
  · generalize ea : look w.mu a = A at hd
    generalize eb : look w.mu b = B at hd
    cases A with
    | lst xs =>
      cases B with
      | lst ys =>
        have hd : (if xs.length = ys.length then none else some true) = some c := hd
        split at hd
        · cases hd
        · rename_i hne
          cases hd
          obtain ⟨c1, vs1, rfl, q1, q2⟩ := repL ok ra ea
          obtain ⟨c2, vs2, rfl, q3, q4⟩ := repL ok rb eb
          cases rx
          cases ry
          obtain ⟨us, n1, r1, t1⟩ := lst_there I q1
          obtain ⟨zs, n2, r2, t2⟩ := lst_there I q3
          have hsz : (us.toArray.size != zs.toArray.size) = true := by
            have e1 := r1.length
            have e2 := r2.length
            have e3 := q2.length
            have e4 := q4.length
            simp only [List.size_toArray, bne_iff_ne]
            omega
          exact SeqAt.RcNeAt.lists_lengths ⟨_, t1, rfl, n1, rfl⟩ ⟨_, t2, rfl, n2, rfl⟩ hsz hr.units0 _ _ _ _ ⟨.bl true, _, I, rfl, here ok q⟩
      | _ => cases hd
    | _ => cases hd

mutual
theorem plain_some (T : Tab) : ∀ (x a : D), plainD x = true → plainD a = true → ∃ r, eqD T x a = some r
  | .non, a, _, h => by cases a <;> first | exact ⟨_, rfl⟩ | cases h
  | .bl _, a, _, h => by cases a <;> first | exact ⟨_, rfl⟩ | cases h
  | .int _, a, _, h => by cases a <;> first | exact ⟨_, rfl⟩ | cases h
  | .str _, a, _, h => by cases a <;> first | exact ⟨_, rfl⟩ | cases h
  | .tup xs, a, hx, h => by
    cases a with
    | tup ys =>
      rw [eqD_tt]
      exact plain_somes T xs ys hx h
    | ins _ _ => cases h
    | loc _ => cases h
    | dct _ => cases h
    | scr _ => cases h
    | _ => exact ⟨_, by simp only [eqD] <;> rfl⟩
  | .lst xs, a, hx, h => by
    cases a with
    | lst ys =>
      rw [eqD_ll]
      split
      · exact plain_somes T xs ys hx h
      · exact ⟨_, rfl⟩
    | ins _ _ => cases h
    | loc _ => cases h
    | dct _ => cases h
    | scr _ => cases h
    | _ => exact ⟨_, by simp only [eqD] <;> rfl⟩
  | .scr _, _, h, _ => by cases h
  | .dct _, _, h, _ => by cases h
  | .ins _ _, _, h, _ => by cases h
  | .loc _, _, h, _ => by cases h
theorem plain_somes (T : Tab) : ∀ (xs ys : List D), plainL xs = true → plainL ys = true → ∃ r, eqL T xs ys = some r
  | [], ys, _, _ => by cases ys <;> exact ⟨_, by simp only [eqL] <;> rfl⟩
  | x :: xs, [], _, _ => ⟨_, by simp only [eqL] <;> rfl⟩
  | x :: xs, y :: ys, hx, hy => by
    rw [eqL_cons]
    obtain ⟨r, hr⟩ := plain_some T x y (pls hx).1 (pls hy).1
    rw [hr]
    cases r with
    | true => exact plain_somes T xs ys (pls hx).2 (pls hy).2
    | false => exact ⟨_, rfl⟩
end
theorem toPys_any (T : Tab) (a : D) (ha : plainD a = true) : ∀ xs : List D, plainL xs = true → ((toPys xs).any fun y => PyData.eqv y (toPy a)) = anyD T a xs
  | [], _ => rfl
  | x :: xs, h => by
    have ih := toPys_any T a ha xs (pls h).2
    show (PyData.eqv (toPy x) (toPy a) || (toPys xs).any fun y => PyData.eqv y (toPy a)) = (decide (eqD T x a = some true) || anyD T a xs)
    rw [ih]
    congr 1
    obtain ⟨r, hr⟩ := plain_some T x a (pls h).1 ha
    rw [py_eq T x a r (pls h).1 ha hr, hr]
    cases r <;> simp
theorem keyD_v {w : Wd} {a : D} {x : V} {q : Key} (h : Rep p.g w.G w.la a x) (e : keyD (look w.mu a) = some q) : x = kV q := by
  generalize ea : look w.mu a = A at e
  cases A with
  | int i =>
    cases e
    obtain ⟨rfl, _⟩ := repI h ea
    rfl
  | str i =>
    cases e
    obtain ⟨rfl, _⟩ := repS h ea
    rfl
  | _ => cases e
theorem in_room {n : Nat} {a b : D} {A : Around} (h : room n a b = true) (r : Room (lev n) A) (m : Nat) : A.units + 1 + min m (toPy a).depth < cLine := by
  obtain ⟨i, j, d1, d2, h1, h2⟩ := room_of h
  have z1 := py_depth a i d1
  have z2 := r.un
  have z3 : n ≤ lev n := by unfold lev; omega
  omega
theorem units1 {n : Nat} {A : Around} (r : Room n A) : A.units + 1 < cLine := by
  have z2 := r.un
  omega
theorem valD_rep {G : Hp} {la : List Addr} {g : Gm} : ∀ {kvs : List (Key × D)} {kws : List (Key × V)}, kws.map (·.1) = kvs.map (·.1) → RepL g G la (kvs.map (·.2)) (kws.map (·.2)) → ∀ q, (∀ d, valD kvs q = some d → ∃ v, valV kws q = some v ∧ Rep g G la d v) ∧ (valD kvs q = none → valV kws q = none)
  | [], [], _, _, q => ⟨fun d h => (by exact nomatch h), fun _ => rfl⟩
  | [], _ :: _, h, _, _ => by cases h
  | _ :: _, [], h, _, _ => by cases h
  | (k1, d1) :: kvs, (k2, v1) :: kws, h, r, q => by
    have h1 : k2 = k1 := (List.cons.inj h).1
    subst h1
    cases r with
    | cons r1 r2 =>
      have ih := valD_rep (List.cons.inj h).2 r2 q
      by_cases hk : k2 = q
      · subst hk
        have e1 : valD ((k2, d1) :: kvs) k2 = some d1 := by simp [valD]
        have e2 : valV ((k2, v1) :: kws) k2 = some v1 := by simp [valV]
        rw [e1, e2]
        exact ⟨fun d e => ⟨v1, rfl, by cases e; exact r1⟩, fun e => by cases e⟩
      · have e1 : valD ((k2, d1) :: kvs) q = valD kvs q := by simp [valD, hk]
        have e2 : valV ((k2, v1) :: kws) q = valV kws q := by simp [valV, hk]
        rw [e1, e2]
        exact ih
theorem oc_in (hX : X.K = p.K) (hr : Room (lev k) X.A) : OpR X (compareOp .In) (rCmp p.g (cmpD p.T k .In)) := by
  intro pins s σ H x y v u Q I rx ry h
  obtain ⟨w, a, b, c, rfl, ok, ra, rb, hd, q⟩ := rCmp_of h
  have hd : inD p.T k (look w.mu a) (look w.mu b) = some c := hd
  generalize eb : look w.mu b = B at hd
  cases B with
  | lst xs =>
    have hd : (if room k (look w.mu a) (.lst xs) && plainD (look w.mu a) && plainL xs then some (anyD p.T (look w.mu a) xs) else none) = some c := hd
    split at hd
    · rename_i hc
      cases hd
      obtain ⟨hc, p2⟩ := Bool.and_eq_true_iff.mp hc
      obtain ⟨h1, p1⟩ := Bool.and_eq_true_iff.mp hc
      obtain ⟨as, r1⟩ := Dp.reads I _ x v (hX ▸ plain_dp ok ra p1) rx
      obtain ⟨bs, r2⟩ := Dp.reads I _ y u (hX ▸ plain_dp ok rb (by rw [eb]; exact p2)) ry
      rw [eb] at r2
      refine SeqAt.in_list_data r2 r1 (py_plains _) (py_plain _) (in_room h1 hr _) ?_
      rw [toPys_any p.T _ p1 xs p2]
      exact ⟨.bl _, _, I, rfl, here ok q⟩
    · cases hd
  | tup xs =>
    have hd : (if room k (look w.mu a) (.tup xs) && plainD (look w.mu a) && plainL xs then some (anyD p.T (look w.mu a) xs) else none) = some c := hd
    split at hd
    · rename_i hc
      cases hd
      obtain ⟨hc, p2⟩ := Bool.and_eq_true_iff.mp hc
      obtain ⟨h1, p1⟩ := Bool.and_eq_true_iff.mp hc
      obtain ⟨as, r1⟩ := Dp.reads I _ x v (hX ▸ plain_dp ok ra p1) rx
      obtain ⟨bs, r2⟩ := Dp.reads I _ y u (hX ▸ plain_dp ok rb (by rw [eb]; exact p2)) ry
      rw [eb] at r2
      refine SeqAt.in_tuple_data r2 r1 (py_plains _) (py_plain _) (in_room h1 hr _) ?_
      rw [toPys_any p.T _ p1 xs p2]
      exact ⟨.bl _, _, I, rfl, here ok q⟩
    · cases hd
  | str t =>
    generalize ea : look w.mu a = A at hd
    cases A with
    | str z =>
      cases hd
      obtain ⟨rfl, _⟩ := repS ra ea
      obtain ⟨rfl, _⟩ := repS rb eb
      exact op_in_str pins s σ _ _ _ v u Q I rx ry ⟨z, t, rfl, rfl, here ok q⟩
    | _ => cases hd
  | dct kvs =>
    have hd : (match keyD (look w.mu a) with
      | some q => some (valD kvs q).isSome
      | none => none) = some c := hd
    cases e : keyD (look w.mu a) with
    | none =>
      rw [e] at hd
      cases hd
    | some key =>
      rw [e] at hd
      cases hd
      have hx := keyD_v ra e
      subst hx
      obtain ⟨d, kws, rfl, h1, h2, h3⟩ := repD ok rb eb
      cases ry
      refine d_in (units1 hr) I (DGet.k h1) rx fun s' I' => ⟨.bl _, _, I', rfl, ?_⟩
      have z := valD_rep (kvs := kvs) (kws := kws) h2 h3 key
      have zz : (valV kws key).isSome = (valD kvs key).isSome := by
        cases e2 : valD kvs key with
        | none => rw [z.2 e2]; rfl
        | some d =>
          obtain ⟨v, hv, _⟩ := z.1 d e2
          rw [hv]; rfl
      rw [zz]
      exact here ok q
  | _ => cases hd
theorem oc_notin (hX : X.K = p.K) (hr : Room (lev k) X.A) : OpR X (compareOp .NotIn) (rCmp p.g (cmpD p.T k .NotIn)) := by
  intro pins s σ H x y v u Q I rx ry h
  obtain ⟨w, a, b, c, rfl, ok, ra, rb, hd, q⟩ := rCmp_of h
  have hd : (inD p.T k (look w.mu a) (look w.mu b)).map not = some c := hd
  obtain ⟨c', hd', rfl⟩ := Option.map_eq_some_iff.mp hd
  clear hd
  have hd := hd'
  clear hd'
  generalize c' = c at hd q
  generalize eb : look w.mu b = B at hd
  cases B with
  | lst xs =>
    have hd : (if room k (look w.mu a) (.lst xs) && plainD (look w.mu a) && plainL xs then some (anyD p.T (look w.mu a) xs) else none) = some c := hd
    split at hd
    · rename_i hc
      cases hd
      obtain ⟨hc, p2⟩ := Bool.and_eq_true_iff.mp hc
      obtain ⟨h1, p1⟩ := Bool.and_eq_true_iff.mp hc
      obtain ⟨as, r1⟩ := Dp.reads I _ x v (hX ▸ plain_dp ok ra p1) rx
      obtain ⟨bs, r2⟩ := Dp.reads I _ y u (hX ▸ plain_dp ok rb (by rw [eb]; exact p2)) ry
      rw [eb] at r2
      refine SeqAt.notIn_list_data r2 r1 (py_plains _) (py_plain _) (in_room h1 hr _) ?_
      rw [toPys_any p.T _ p1 xs p2]
      exact ⟨.bl _, _, I, rfl, here ok q⟩
    · cases hd
  | tup xs =>
    have hd : (if room k (look w.mu a) (.tup xs) && plainD (look w.mu a) && plainL xs then some (anyD p.T (look w.mu a) xs) else none) = some c := hd
    split at hd
    · rename_i hc
      cases hd
      obtain ⟨hc, p2⟩ := Bool.and_eq_true_iff.mp hc
      obtain ⟨h1, p1⟩ := Bool.and_eq_true_iff.mp hc
      obtain ⟨as, r1⟩ := Dp.reads I _ x v (hX ▸ plain_dp ok ra p1) rx
      obtain ⟨bs, r2⟩ := Dp.reads I _ y u (hX ▸ plain_dp ok rb (by rw [eb]; exact p2)) ry
      rw [eb] at r2
      refine SeqAt.notIn_tuple_data r2 r1 (py_plains _) (py_plain _) (in_room h1 hr _) ?_
      rw [toPys_any p.T _ p1 xs p2]
      exact ⟨.bl _, _, I, rfl, here ok q⟩
    · cases hd
  | str t =>
    generalize ea : look w.mu a = A at hd
    cases A with
    | str z =>
      cases hd
      obtain ⟨rfl, _⟩ := repS ra ea
      obtain ⟨rfl, _⟩ := repS rb eb
      exact op_notin_str pins s σ _ _ _ v u Q I rx ry ⟨z, t, rfl, rfl, here ok q⟩
    | _ => cases hd
  | dct kvs =>
    have hd : (match keyD (look w.mu a) with
      | some q => some (valD kvs q).isSome
      | none => none) = some c := hd
    cases e : keyD (look w.mu a) with
    | none =>
      rw [e] at hd
      cases hd
    | some key =>
      rw [e] at hd
      cases hd
      have hx := keyD_v ra e
      subst hx
      obtain ⟨d, kws, rfl, h1, h2, h3⟩ := repD ok rb eb
      cases ry
      refine d_notIn (units1 hr) I (DGet.k h1) rx fun s' I' => ⟨.bl _, _, I', rfl, ?_⟩
      have z := valD_rep (kvs := kvs) (kws := kws) h2 h3 key
      have zz : (valV kws key).isSome = (valD kvs key).isSome := by
        cases e2 : valD kvs key with
        | none => rw [z.2 e2]; rfl
        | some d =>
          obtain ⟨v, hv, _⟩ := z.1 d e2
          rw [hv]; rfl
      rw [zz]
      exact here ok q
  | _ => cases hd
end
end Rs

/-! part RsX1 -/
set_option Elab.async false
set_option linter.all false
set_option maxRecDepth 100000
set_option maxHeartbeats 4000000
namespace Rs
open PySem L2

/-- what a name is that is no local -/
inductive Gn where
  | fn (f : Nat) | cl (c : Nat) | bu | ct (d : D)
/-- what is known where code stands: the names of the locals, the scope, the cells that may be written, the other names -/
structure Ctx where
  N : List Str
  sc : Scope
  cel : Str → Bool
  gl : List (Str × Gn)
structure ClsF (p : Pgm) (c : Nat) (q : Cls) : Prop where
  cls : q.exf = none → L2.Cls p.K (p.C c)
  fld : ∀ f, q.flds.contains f = true → NoAttr p.K (p.C c) (p.nm f)
  met : ∀ g f, q.mets.lookup g = some f → Meth p.K (p.C c) (p.nm g) (p.fa f) ∧ ∃ h, p.fns[f]? = some h
  ty : q.exf = none → PySem.W.findIn p.K (.ref (p.C c)) "__class__" = some (some (.builtin "object.__class__")) ∧ PySem.W.specialIn p.K (.builtin "object.__class__") "__get__" = some (some (.builtin "getset_descriptor.__get__")) ∧ PySem.W.takesIn p.K (.builtin "object.__class__") = some true ∧ PySem.W.mroIn p.K (p.C c) (.type "object") = some true
  kit : ∀ c', (p.T[c']?).isSome = true → PySem.W.kitOne p.K (.ref (p.C c)) (.ref (p.C c')) = some (q.mro.contains c')
  kib : ∀ t, t ∈ kinds → PySem.W.kitOne p.K (.type t) (.ref (p.C c)) = some false
  kbi : ∀ t, t ∈ kinds → q.exf = none → PySem.W.kitOne p.K (.ref (p.C c)) (.type t) = some false
  ini : ∀ f, q.ini = some f → q.exf = none → Mk p.K (p.C c) (p.fa f) ∧ ∃ h, p.fns[f]? = some h
structure Facts (p : Pgm) (gl : List (Str × Gn)) : Prop where
  nmi : ∀ i j, p.nm i = p.nm j → i = j
  eq : EqF p
  gfn : ∀ x f, gl.lookup x = some (.fn f) → p.mg x = some (.ref (p.fa f)) ∧ PySem.W.keepIn p.K (.ref (p.fa f)) = true
  gcl : ∀ x c, gl.lookup x = some (.cl c) → p.mg x = some (.ref (p.C c)) ∧ PySem.W.keepIn p.K (.ref (p.C c)) = true ∧ (p.T[c]?).isSome = true
  gbu : ∀ x, gl.lookup x = some .bu → p.mg x = none
  gct : ∀ x d, gl.lookup x = some (.ct d) → ∃ (v : V) (u : Value), p.mg x = some u ∧ RelV v u ∧ ∀ (G : Hp) (la : List Addr), Rep p.g G la d v
  bnd : ∀ f q, p.fns[f]? = some q → Binds p.K (p.fd f) (p.ps f) []
  cls : ∀ c q, p.T[c]? = some q → ClsF p c q
structure Good (p : Pgm) (Φ : Ctx) (X : Cx) (k : Nat) (W : WX) : Prop where
  of : Of X p
  N : X.N = Φ.N
  sc : X.env.scope = Φ.sc
  nd : X.N.Nodup
  calm : X.calm = true
  cel : ∀ x, Φ.cel x = true → X.fn x = true
  room : Room (lev k + 1) X.A
  tab : ∀ j, j ≤ k → p.Tab j
  tk : Takes X W
  own : PassesOwn (model X.prog X.w) X.A X.env X.xe
  fx : Facts p Φ.gl
noncomputable abbrev Pgm.E (p : Pgm) (k : Nat) (ie : IE) : Ev → Mu → R D := Rs.E p.T k (run p.T p.fns k) ie
abbrev SE (p : Pgm) (X : Cx) (k : Nat) (W : WX) (e : Expr) (ie : IE) : Prop := PE X e (tE p.g (p.E k ie) W)
abbrev ST (p : Pgm) (X : Cx) (k : Nat) (W : WX) (e : Expr) (ie : IE) : Prop := PT X e (tT p.g (p.E k ie) W)
theorem Sat.val {g : Gm} {w : Wd} {V' : WR} {d : D} {v : V} {Q : VK} (h : Sat g w V' (.ok d w.mu) (pv1 g Q)) (ok : Ok g w) (r : Rep g w.G w.la d v) : Q v w.H := h w rfl (Grow.refl w) ok v r
section
variable {p : Pgm} {Φ : Ctx} {X : Cx} {k : Nat} {W : WX} {a b c e : Expr} {ia ib ic ie : IE} {pos : Pos}
theorem Good.rc (G : Good p Φ X k W) : RcB p X k := (eqAll G.fx.eq G.of k fun j hj => G.tab j (by omega)).1
theorem Good.rm (G : Good p Φ X k W) : Room (lev k) X.A := G.room.mono (by omega)
theorem Good.hK (G : Good p Φ X k W) : X.K = p.K := G.of.K
theorem se_var (G : Good p Φ X k W) {i : Nat} {x : Str} (hN : Φ.N[i]? = some x) (hv : Vis Φ.sc x) (hd : (x == ("__debug__" : Str)) = false) (hcd : (x == ("__classdict__" : Str)) = false) : SE p X k W (.Name x pos) (.var i) :=
  weakE (pe_var (i := i) (by rw [G.N]; exact hN) (by rw [G.sc]; exact hv) hd hcd) fun σ H Q ⟨w, r, e, ok, rs, st⟩ => by
    have st : Sat p.g w _ (match r[i]? with
      | some (some d) => R.ok d w.mu
      | _ => .bad) _ := st
    cases hi : r[i]? with
    | none =>
      rw [hi] at st
      exact st.elim
    | some o =>
      cases o with
      | none =>
        rw [hi] at st
        exact st.elim
      | some d =>
        rw [hi] at st
        obtain ⟨v, h1, h2⟩ := rs.2 i d hi
        subst e
        exact ⟨v, h1, st.now ok v h2⟩
theorem cst_now {d : D} {v : V} {σ : St} {H : Hp} {Q : VK} (hr : ∀ G la, Rep p.g G la d v) (h : tE p.g (p.E k (.cst d)) W σ H Q) : Q v H := by
  obtain ⟨w, r, e, ok, rs, st⟩ := h
  have st : Sat p.g w _ (.ok d w.mu) _ := st
  have z := st.now ok v (hr _ _)
  rw [e] at z
  exact z
theorem se_int {i : Int} {j : Nat} : SE p X k W (.Constant (.int i) j pos) (.cst (.int i)) := weakE pe_int fun _ _ _ h => cst_now (fun _ _ => .int i) h
theorem se_bl {i : Bool} {j : Nat} : SE p X k W (.Constant (.bool i) j pos) (.cst (.bl i)) := weakE pe_bl fun _ _ _ h => cst_now (fun _ _ => .bl i) h
theorem se_non {j : Nat} : SE p X k W (.Constant .none j pos) (.cst .non) := weakE pe_non fun _ _ _ h => cst_now (fun _ _ => .non) h
theorem se_str {i : Str} {j : Nat} : SE p X k W (.Constant (.str i) j pos) (.cst (.str i)) := weakE pe_str fun _ _ _ h => cst_now (fun _ _ => .str i) h
def binOk : Operator → Bool
  | .Add => true
  | .Sub => true
  | .Mult => true
  | .FloorDiv => true
  | .Mod => true
  | .Pow => true
  | _ => false
theorem op_all (hK : X.K = p.K) {op : Operator} (h : binOk op = true) : OpR X (binaryOp op) (rOp p.g fun m x y => binD op (look m x) (look m y)) := by
  cases op with
  | Add => exact ob_add hK
  | Sub => exact ob_sub
  | Mult => exact ob_mul
  | FloorDiv => exact ob_div
  | Mod => exact ob_mod
  | Pow => exact ob_pow
  | _ => cases h
theorem se_bin (G : Good p Φ X k W) {op : Operator} (h : binOk op = true) (ha : SE p X k W a ia) (hb : SE p X k W b ib) : SE p X k W (.BinOp a op b pos) (.bin op ia ib) :=
  weakE (pe_op (op_all G.hK h) ha hb) fun _ _ _ q => imp_bin (fun _ _ _ _ z => z) q
theorem se_neg (ha : SE p X k W a ia) : SE p X k W (.UnaryOp .USub a pos) (.neg ia) :=
  weakE (pe_un un_neg ha) fun σ H Q ⟨w, r, e, ok, rs, st⟩ => ⟨w, r, e, ok, rs, (show Sat p.g w _ ((p.E k ia r w.mu).bind _) _ from st).bind.imp fun x w1 g1 ok1 s1 v1 r1 => by
      cases x with
      | int i =>
        cases r1
        exact ⟨i, rfl, Sat.val (d := .int (-i)) s1 ok1 (.int _)⟩
      | _ => exact s1.elim⟩
def cmpOk : CmpOp → Bool
  | .Is => false
  | .IsNot => false
  | _ => true
theorem cmp_all (G : Good p Φ X k W) {op : CmpOp} (h : cmpOk op = true) : OpR X (compareOp op) (rCmp p.g (cmpD p.T k op)) := by
  cases op with
  | Lt => exact oc_lt
  | LtE => exact oc_le
  | Gt => exact oc_gt
  | GtE => exact oc_ge
  | Eq => exact oc_eq G.rc G.hK G.rm
  | NotEq => exact oc_ne G.hK G.rm
  | In => exact oc_in G.hK G.rm
  | NotIn => exact oc_notin G.hK G.rm
  | Is => cases h
  | IsNot => cases h
theorem se_cmp (G : Good p Φ X k W) {op : CmpOp} (h : cmpOk op = true) (hm : behindInMarks op b = false) (ha : SE p X k W a ia) (hb : SE p X k W b ib) : SE p X k W (.Compare a [op] [b] pos) (.cmp op ia ib) :=
  weakE (pe_cmpR (cmp_all G h) ha hb hm) fun _ _ _ q => imp_bin (fun _ _ _ _ z => z) q
theorem st_cmp (G : Good p Φ X k W) {op : CmpOp} (h : cmpOk op = true) (hm : behindInMarks op b = false) (ha : SE p X k W a ia) (hb : SE p X k W b ib) : ST p X k W (.Compare a [op] [b] pos) (.cmp op ia ib) :=
  weakT (pt_cmpR (cmp_all G h) ha hb hm) fun _ _ _ q => imp_bin (fun _ _ _ _ z => z) q
theorem chn_imp {op op2 : CmpOp} {σ : St} {H : Hp} {Q : VK} (h : tE p.g (p.E k (.chn op op2 ia ib ic)) W σ H Q) : tChain (rCmp p.g (cmpD p.T k op)) (rCmp p.g (cmpD p.T k op2)) (tE p.g (p.E k ia) W) (tE p.g (p.E k ib) W) (tE p.g (p.E k ic) W) σ H Q := by
  obtain ⟨w, r, e, ok, rs, st⟩ := h
  refine ⟨w, r, e, ok, rs, (show Sat p.g w _ ((p.E k ia r w.mu).bind _) _ from st).bind.imp fun x w1 g1 ok1 s1 v1 r1 => ?_⟩
  refine ⟨w1, r, rfl, ok1, rs.grow g1, s1.bind.imp fun y w2 g2 ok2 s2 v2 r2 => ?_⟩
  cases hd : cmpD p.T k op w2.mu x y with
  | none =>
    rw [hd] at s2
    exact s2.elim
  | some z =>
    rw [hd] at s2
    refine ⟨w2, x, y, .bl z, rfl, ok2, r1.grow g2, r2, by show (cmpD p.T k op w2.mu x y).map D.bl = _; rw [hd]; rfl, fun w' v em gr ok' rv => ?_⟩
    cases rv
    refine ⟨z, rfl, ?_⟩
    cases z with
    | true =>
      refine ⟨w', r, rfl, ok', ((rs.grow g1).grow g2).grow gr, ?_⟩
      rw [em]
      refine (Sat.bind (s2.up gr)).imp fun u w3 g3 ok3 s3 v3 r3 => ?_
      obtain ⟨d, hd3, q3⟩ := s3.opt ok3
      refine ⟨w3, y, u, d, rfl, ok3, (r2.grow gr).grow g3, r3, hd3, fun w4 v4 e4 g4 ok4 rv4 => ?_⟩
      rw [hd3] at s3
      exact s3 w4 e4 g4 ok4 v4 rv4
    | false => exact s2 w' em gr ok' _ (.bl false)
theorem se_chn (G : Good p Φ X k W) {op op2 : CmpOp} (h : cmpOk op = true) (h2 : cmpOk op2 = true) (hm : lastMarks [op, op2] [b, c] = false) (ha : SE p X k W a ia) (hb : SE p X k W b ib) (hc : SE p X k W c ic) : SE p X k W (.Compare a [op, op2] [b, c] pos) (.chn op op2 ia ib ic) :=
  weakE (pe_chain (cmp_all G h) (cmp_all G h2) ha hb hc hm) fun _ _ _ q => chn_imp q
theorem st_chn (G : Good p Φ X k W) {op op2 : CmpOp} (h : cmpOk op = true) (h2 : cmpOk op2 = true) (hm : lastMarks [op, op2] [b, c] = false) (ha : SE p X k W a ia) (hb : SE p X k W b ib) (hc : SE p X k W c ic) : ST p X k W (.Compare a [op, op2] [b, c] pos) (.chn op op2 ia ib ic) :=
  weakT (pt_chain (cmp_all G h) (cmp_all G h2) ha hb hc hm) fun _ _ _ q => chn_imp q
end
end Rs

/-! part RsX2 -/
set_option Elab.async false
set_option linter.all false
set_option maxRecDepth 100000
set_option maxHeartbeats 4000000
namespace Rs
open PySem L2
section
variable {p : Pgm} {Φ : Ctx} {X : Cx} {k : Nat} {W : WX} {a b c e : Expr} {ia ib ic ie : IE} {pos : Pos} {rest : List Expr}
theorem isn_imp {pos' : Bool} {σ : St} {H : Hp} {Q : VK} (h : tE p.g (p.E k (.isn ia pos')) W σ H Q) : tE p.g (p.E k ia) W σ H fun x H1 => Q (.bl (if pos' then decide (x = .non) else !decide (x = .non))) H1 := by
  obtain ⟨w, r, e, ok, rs, st⟩ := h
  refine ⟨w, r, e, ok, rs, (show Sat p.g w _ ((p.E k ia r w.mu).bind _) _ from st).bind.imp fun x w1 g1 ok1 s1 v1 r1 => ?_⟩
  have z : ∀ c, Sat p.g w1 (wr p.g (WE W σ)) (.ok (.bl c) w1.mu) (pv1 p.g Q) → Q (.bl c) w1.H := fun c s => Sat.val (d := .bl c) s ok1 (.bl c)
  cases r1 with
  | non => cases pos' <;> exact z _ s1
  | _ => cases pos' <;> exact z _ s1
theorem se_isn {j : Nat} {p2 : Pos} (ha : SE p X k W a ia) : SE p X k W (.Compare a [.Is] [.Constant .none j p2] pos) (.isn ia true) :=
  weakE (pe_cmp (pc_isN ha)) fun _ _ _ q => isn_imp q
theorem se_isnt {j : Nat} {p2 : Pos} (ha : SE p X k W a ia) : SE p X k W (.Compare a [.IsNot] [.Constant .none j p2] pos) (.isn ia false) :=
  weakE (pe_cmp (pc_notN ha)) fun _ _ _ q => isn_imp q
theorem st_isn {j : Nat} {p2 : Pos} (ha : SE p X k W a ia) : ST p X k W (.Compare a [.Is] [.Constant .none j p2] pos) (.isn ia true) :=
  weakT (pt_cmp (pc_isN ha)) fun _ _ _ q => isn_imp q
theorem st_isnt {j : Nat} {p2 : Pos} (ha : SE p X k W a ia) : ST p X k W (.Compare a [.IsNot] [.Constant .none j p2] pos) (.isn ia false) :=
  weakT (pt_cmp (pc_notN ha)) fun _ _ _ q => isn_imp q
/-! and, or, not -/
theorem and_imp {σ : St} {H : Hp} {Q : VK} (h : tE p.g (p.E k (.and ia ib)) W σ H Q) : tE p.g (p.E k ia) W σ H fun x H1 => ∃ c, x = .bl c ∧ if c = true then tE p.g (p.E k ib) W σ H1 (fun y H2 => (∃ c, y = .bl c) ∧ Q y H2) else Q (.bl false) H1 := by
  obtain ⟨w, r, e, ok, rs, st⟩ := h
  refine ⟨w, r, e, ok, rs, (show Sat p.g w _ ((p.E k ia r w.mu).bind _) _ from st).bind.imp fun x w1 g1 ok1 s1 v1 r1 => ?_⟩
  cases r1 with
  | bl c =>
    cases c with
    | true =>
      refine ⟨true, rfl, ?_⟩
      rw [if_pos rfl]
      refine ⟨w1, r, rfl, ok1, rs.grow g1, (show Sat p.g w1 _ ((p.E k ib r w1.mu).bind _) _ from s1).bind.imp fun y w2 g2 ok2 s2 v2 r2 => ?_⟩
      cases r2 with
      | bl d => exact ⟨⟨d, rfl⟩, Sat.val (d := .bl d) s2 ok2 (.bl d)⟩
      | _ => exact s2.elim
    | false => exact ⟨false, rfl, Sat.val (d := .bl false) s1 ok1 (.bl _)⟩
  | _ => exact s1.elim
theorem or_imp {σ : St} {H : Hp} {Q : VK} (h : tE p.g (p.E k (.or ia ib)) W σ H Q) : tE p.g (p.E k ia) W σ H fun x H1 => ∃ c, x = .bl c ∧ if c = true then Q (.bl true) H1 else tE p.g (p.E k ib) W σ H1 (fun y H2 => (∃ c, y = .bl c) ∧ Q y H2) := by
  obtain ⟨w, r, e, ok, rs, st⟩ := h
  refine ⟨w, r, e, ok, rs, (show Sat p.g w _ ((p.E k ia r w.mu).bind _) _ from st).bind.imp fun x w1 g1 ok1 s1 v1 r1 => ?_⟩
  cases r1 with
  | bl c =>
    cases c with
    | false =>
      refine ⟨false, rfl, ?_⟩
      rw [if_neg (by decide)]
      refine ⟨w1, r, rfl, ok1, rs.grow g1, (show Sat p.g w1 _ ((p.E k ib r w1.mu).bind _) _ from s1).bind.imp fun y w2 g2 ok2 s2 v2 r2 => ?_⟩
      cases r2 with
      | bl d => exact ⟨⟨d, rfl⟩, Sat.val (d := .bl d) s2 ok2 (.bl d)⟩
      | _ => exact s2.elim
    | true => exact ⟨true, rfl, Sat.val (d := .bl true) s1 ok1 (.bl _)⟩
  | _ => exact s1.elim
theorem tE_imp {sem : Ev → Mu → R D} {σ : St} {H : Hp} {Q Q' : VK} (h : tE p.g sem W σ H Q) (f : ∀ v H, Q v H → Q' v H) : tE p.g sem W σ H Q' := by
  obtain ⟨w, r, e, ok, rs, st⟩ := h
  exact ⟨w, r, e, ok, rs, st.imp fun x w1 g1 ok1 s1 v1 r1 => f _ _ (s1 v1 r1)⟩
theorem se_and (ha : SE p X k W a ia) (hb : SE p X k W (.BoolOp .And (b :: rest) pos) ib) : SE p X k W (.BoolOp .And (a :: b :: rest) pos) (.and ia ib) :=
  weakE (pe_and ha hb) fun σ H Q q => tE_imp (and_imp q) fun v H1 ⟨c, e, z⟩ => ⟨c, e, by
    cases c with
    | true => exact tE_imp z fun _ _ z => z.2
    | false => exact z⟩
theorem se_or (ha : SE p X k W a ia) (hb : SE p X k W (.BoolOp .Or (b :: rest) pos) ib) : SE p X k W (.BoolOp .Or (a :: b :: rest) pos) (.or ia ib) :=
  weakE (pe_or ha hb) fun σ H Q q => tE_imp (or_imp q) fun v H1 ⟨c, e, z⟩ => ⟨c, e, by
    cases c with
    | true => exact z
    | false => exact tE_imp z fun _ _ z => z.2⟩
theorem se_one {op : BoolOp} (ha : SE p X k W a ia) : SE p X k W (.BoolOp op [a] pos) ia := pe_one ha
abbrev SW (p : Pgm) (X : Cx) (k : Nat) (W : WX) (e : Expr) (ie : IE) : Prop := PW X e (tT p.g (p.E k ie) W)
theorem weakW {X : Cx} {e : Expr} {t t' : TT} (h : PW X e t) (f : ∀ σ H Q, t' σ H Q → t σ H Q) : PW X e t' := ⟨fun wh pins s σ H Q I q => h.run wh pins s σ H Q I (f σ H Q q)⟩
theorem sw_and (ha : ST p X k W a ia) (hb : SW p X k W (.BoolOp .And (b :: rest) pos) ib) : SW p X k W (.BoolOp .And (a :: b :: rest) pos) (.and ia ib) :=
  weakW (pw_and ha hb) fun σ H Q q => tE_imp (and_imp q) fun v H1 ⟨c, e, z⟩ => ⟨c, e, by
    cases c with
    | true => exact tE_imp z fun _ _ z => z.2
    | false =>
      obtain ⟨b, hb, hq⟩ := z
      cases hb
      exact hq⟩
theorem sw_or (ha : ST p X k W a ia) (hb : SW p X k W (.BoolOp .Or (b :: rest) pos) ib) : SW p X k W (.BoolOp .Or (a :: b :: rest) pos) (.or ia ib) :=
  weakW (pw_or ha hb) fun σ H Q q => tE_imp (or_imp q) fun v H1 ⟨c, e, z⟩ => ⟨c, e, by
    cases c with
    | true =>
      obtain ⟨b, hb, hq⟩ := z
      cases hb
      exact hq
    | false => exact tE_imp z fun _ _ z => z.2⟩
theorem sw_and1 (ha : ST p X k W a ia) : SW p X k W (.BoolOp .And [a] pos) ia := pw_and1 ha
theorem sw_or1 (ha : ST p X k W a ia) : SW p X k W (.BoolOp .Or [a] pos) ia := pw_or1 ha
theorem not_imp {σ : St} {H : Hp} {Q : VK} (h : tE p.g (p.E k (.not ia)) W σ H Q) : tE p.g (p.E k ia) W σ H fun x H1 => ∃ c, x = .bl c ∧ Q (.bl (!c)) H1 := by
  obtain ⟨w, r, e, ok, rs, st⟩ := h
  refine ⟨w, r, e, ok, rs, (show Sat p.g w _ ((p.E k ia r w.mu).bind _) _ from st).bind.imp fun x w1 g1 ok1 s1 v1 r1 => ?_⟩
  cases r1 with
  | bl c => exact ⟨c, rfl, Sat.val (d := .bl (!c)) s1 ok1 (.bl _)⟩
  | _ => exact s1.elim
theorem se_not (ha : SE p X k W a ia) : SE p X k W (.UnaryOp .Not a pos) (.not ia) := weakE (pe_not ha) fun _ _ _ q => not_imp q
theorem st_not (ha : ST p X k W a ia) : ST p X k W (.UnaryOp .Not a pos) (.not ia) := weakT (pt_not ha) fun σ H Q q => tE_imp (not_imp q) fun v H1 ⟨c, e, d, z, q⟩ => ⟨c, e, by cases z; exact q⟩
theorem ife_imp {σ : St} {H : Hp} {Q : VK} (h : tE p.g (p.E k (.ife ic ia ib)) W σ H Q) : tT p.g (p.E k ic) W σ H fun c H1 => if c = true then tE p.g (p.E k ia) W σ H1 Q else tE p.g (p.E k ib) W σ H1 Q := by
  obtain ⟨w, r, e, ok, rs, st⟩ := h
  refine ⟨w, r, e, ok, rs, (show Sat p.g w _ ((p.E k ic r w.mu).bind _) _ from st).bind.imp fun x w1 g1 ok1 s1 v1 r1 => ?_⟩
  cases r1 with
  | bl c =>
    refine ⟨c, rfl, ?_⟩
    cases c with
    | true => exact ⟨w1, r, rfl, ok1, rs.grow g1, s1⟩
    | false => exact ⟨w1, r, rfl, ok1, rs.grow g1, s1⟩
  | _ => exact s1.elim
theorem se_ife (hc : ST p X k W c ic) (ha : SE p X k W a ia) (hb : SE p X k W b ib) : SE p X k W (.IfExp c a b pos) (.ife ic ia ib) := weakE (pe_ifExp hc ha hb) fun _ _ _ q => ife_imp q
/-! is it true -/
theorem isEmpty_rep {g : Gm} {G : Hp} {la : List Addr} {ds : List D} {vs : List V} (h : RepL g G la ds vs) : (!vs.isEmpty) = !ds.isEmpty := by cases h <;> rfl
theorem str_len {s : Str} : s.length = s.cps.size := rfl
theorem tru_v (G : Good p Φ X k W) {w : Wd} {d : D} {v : V} {b : Bool} (ok : Ok p.g w) (r : Rep p.g w.G w.la d v) (e : truD (look w.mu d) = some b) : TruV X.K v w.H b := by
  rw [G.hK]
  generalize ea : look w.mu d = A at e
  cases A with
  | non =>
    obtain ⟨rfl, _⟩ := repN r ea
    cases e
    exact rfl
  | bl c =>
    obtain ⟨rfl, _⟩ := repB r ea
    cases e
    exact rfl
  | int c =>
    obtain ⟨rfl, _⟩ := repI r ea
    cases e
    exact rfl
  | str c =>
    obtain ⟨rfl, _⟩ := repS r ea
    have e : (if c.length ≤ line then some ((c.length : Int) != 0) else none) = some b := e
    split at e
    · cases e
      rename_i h
      exact ⟨line_eq ▸ h, rfl⟩
    · cases e
  | lst ds =>
    obtain ⟨a, vs, rfl, h1, h2⟩ := repL ok r ea
    cases e
    exact .inl ⟨vs, .of h1, (isEmpty_rep h2).symm⟩
  | tup ds =>
    obtain ⟨a, vs, rfl, h1, h2⟩ := repT ok r ea
    cases e
    exact .inr (.inl ⟨vs, h1, (isEmpty_rep h2).symm⟩)
  | scr ns =>
    obtain ⟨a, rfl, h1⟩ := repR ok r ea
    cases e
    exact .inl ⟨_, h1, by cases ns <;> rfl⟩
  | dct kvs =>
    obtain ⟨a, kws, rfl, h1, h2, h3⟩ := repD ok r ea
    cases e
    refine .inr (.inr ⟨kws, h1, ?_⟩)
    have z := congrArg List.length h2
    rw [List.length_map, List.length_map] at z
    cases kws <;> cases kvs <;> first | rfl | cases z
  | _ => cases e
theorem st_tru (G : Good p Φ X k W) (ha : SE p X k W a ia) (he : ∀ whole, isTrue a X.env whole = (do let v ← whole; standAt a.pos; holding [v] (truthy v))) : ST p X k W a (.tru ia) :=
  weakT (pt_truth ha he) fun σ H Q ⟨w, r, e, ok, rs, st⟩ => ⟨w, r, e, ok, rs, (show Sat p.g w _ ((p.E k ia r w.mu).bind _) _ from st).bind.imp fun x w1 g1 ok1 s1 v1 r1 => by
    obtain ⟨d, hd, q⟩ := (show Sat p.g w1 _ (R.opt _ w1.mu) _ from s1).opt ok1
    obtain ⟨b, hb, rfl⟩ := Option.map_eq_some_iff.mp hd
    obtain ⟨b', e1, e2⟩ := q (.bl b) (.bl b)
    cases e1
    exact ⟨b, tru_v G ok1 r1 hb, e2⟩⟩
/-! attributes -/
theorem look_fs {g : Gm} {G : Hp} {la : List Addr} (nmi : ∀ i j, g.nm i = g.nm j → i = j) (f : Nat) : ∀ {fs : List (Nat × D)} {fvs : List (Str × V)}, fvs.map (·.1) = fs.map (fun p => g.nm p.1) → RepL g G la (fs.map (·.2)) (fvs.map (·.2)) →
    (∀ d, fs.lookup f = some d → ∃ v, fvs.lookup (g.nm f) = some v ∧ Rep g G la d v) ∧ (fs.lookup f = none → fvs.lookup (g.nm f) = none)
  | [], [], _, _ => ⟨fun d h => (by exact nomatch h), fun _ => rfl⟩
  | [], _ :: _, h, _ => by cases h
  | _ :: _, [], h, _ => by cases h
  | (f1, d1) :: fs, (s1, v1) :: fvs, h, r => by
    have h1 : s1 = g.nm f1 := (List.cons.inj h).1
    subst h1
    cases r with
    | cons r1 r2 =>
      have ih := look_fs nmi f (List.cons.inj h).2 r2
      by_cases hk : f = f1
      · subst hk
        rw [List.lookup_cons_self, List.lookup_cons_self]
        exact ⟨fun d e => ⟨v1, rfl, by cases e; exact r1⟩, fun e => by cases e⟩
      · have h2 : (f == f1) = false := beq_eq_false_iff_ne.mpr hk
        have h3 : (g.nm f == g.nm f1) = false := beq_eq_false_iff_ne.mpr fun z => hk (nmi _ _ z)
        have e1 : ((f1, d1) :: fs).lookup f = fs.lookup f := by simp only [List.lookup, h2]
        have e2 : ((g.nm f1, v1) :: fvs).lookup (g.nm f) = fvs.lookup (g.nm f) := by simp only [List.lookup, h3]
        rw [e1, e2]
        exact ih
theorem fld_cls (F : Facts p Φ.gl) {c f : Nat} {q : Rs.Cls} (h : p.T[c]? = some q) (hx : q.exf = none) (hf : q.flds.contains f = true) : L2.Cls p.K (p.C c) ∧ NoAttr p.K (p.C c) (p.nm f) := ⟨(F.cls c q h).cls hx, (F.cls c q h).fld f hf⟩
end
end Rs

/-! part RsX3 -/
set_option Elab.async false
set_option linter.all false
set_option maxRecDepth 100000
set_option maxHeartbeats 4000000
namespace Rs
open PySem L2
section
variable {p : Pgm} {Φ : Ctx} {X : Cx} {k : Nat} {W : WX} {a b c e : Expr} {ia ib ic ie : IE} {pos : Pos} {rest : List Expr}
theorem se_att (G : Good p Φ X k W) {f : Nat} {x : Str} (hx : p.nm f = x) (ha : SE p X k W a ia) (hb : attributeBase a x X.env (eval a X.env) = eval a X.env) : SE p X k W (.Attribute a x pos) (.att ia f) :=
  weakE (pe_fld ha hb) fun σ H Q ⟨w, r, e, ok, rs, st⟩ => ⟨w, r, e, ok, rs, (show Sat p.g w _ ((p.E k ia r w.mu).bind _) _ from st).bind.imp fun x w1 g1 ok1 s1 v1 r1 => by
    obtain ⟨d, hd, q⟩ := (show Sat p.g w1 _ (R.opt _ w1.mu) _ from s1).opt ok1
    rw [G.hK]
    subst hx
    unfold attD at hd
    cases ea : look w1.mu x with
    | ins c fs =>
      rw [ea] at hd
      cases hc : p.T[c]? with
      | none =>
        simp only [hc] at hd
        cases hd
      | some q1 =>
        simp only [hc] at hd
        split at hd
        · rename_i h
          obtain ⟨h1, h2⟩ := Bool.and_eq_true_iff.mp h
          obtain ⟨ad, dx, fvs, rfl, h3, h4, h5⟩ := repX ok1 r1 ea
          obtain ⟨v, h6, h7⟩ := (look_fs (g := p.g) (fun i j => G.fx.nmi i j) f h4 h5).1 d hd
          obtain ⟨h8, h9⟩ := fld_cls G.fx hc (Option.isNone_iff_eq_none.mp h1) h2
          exact ⟨ad, p.C c, dx, fvs, v, rfl, h3, h8, h9, h6, q v h7⟩
        · cases hd
    | _ =>
      rw [ea] at hd
      cases hd⟩
/-! a place of a sequence, a key of a dict -/
theorem atI_rep {g : Gm} {G : Hp} {la : List Addr} {ds : List D} {vs : List V} (h : RepL g G la ds vs) {i : Int} {d : D} (e : atI ds i = some d) : ∃ v, atI vs i = some v ∧ Rep g G la d v := by
  unfold atI at e ⊢
  rw [← h.length]
  cases q : ixN ds.length i with
  | none =>
    rw [q] at e
    cases e
  | some j =>
    rw [q] at e
    exact h.get e
theorem atI_map {α β : Type} (f : α → β) {xs : List α} {i : Int} {x : α} (h : atI xs i = some x) : atI (xs.map f) i = some (f x) := by
  unfold atI at h ⊢
  rw [List.length_map]
  cases q : ixN xs.length i with
  | none =>
    rw [q] at h
    cases h
  | some j =>
    rw [q] at h
    have h : xs[j]? = some x := h
    show (xs.map f)[j]? = some (f x)
    rw [List.getElem?_map, h]
    rfl
def rIxD : R2 := fun x y H Q => ∃ a kvs q v, x = .ref a ∧ H a = some (.dK kvs) ∧ y = kV q ∧ valV kvs q = some v ∧ Q v H
theorem ix_dct (hu : X.A.units + 1 < cLine) : IxR X rIxD := by
  intro value slice pins s σ H x y v u Q I rx ry h hs
  obtain ⟨ad, kvs, key, z, rfl, h1, rfl, hv, q⟩ := h
  cases rx
  have g : DGet H ad (kV key) (some z) := hv ▸ DGet.k h1
  have hT := dict_typeIs I g
  unfold PyProof.Rows.subscriptTail
  refine wpAny_bind ?_
  rw [getitemInPython_of_ne hT.not_modules]
  refine wpAny_bind (wpAny_specialOf hT PySem.F.slot_dict_getitem.lookup ?_)
  have fin : wpAny (model X.prog X.w) X.A (subscripted slice false (.ref ad) u) (fun r s₃ => wpAny (model X.prog X.w) X.A (letTemporaryGo value (.ref ad) r >>= fun _ => pure r) (EP X pins σ Q) X.xe s₃) X.xe s := by
    rw [hs]
    exact wpAny_operating (d_getItem hu I g ry fun w' s3 I3 rw' => wpAny_bind (wpAny_letTemporaryGo (wpAny_pure ⟨z, H, I3, rw', q⟩)))
  first
    | exact wpAny_pure (wpAny_bind fin)
    | exact wpAny_bind (wpAny_pure (wpAny_bind fin))
    | exact wpAny_bind fin
theorem ix_all (G : Good p Φ X k W) : IxR X (rOp p.g fun m x y => idxD (look m x) y) := fun value slice pins s σ H x y v u Q I rx ry h hs => by
  refine ((ix_list (X := X)).or (ix_tup.or (ix_str.or (ix_dct (units1 G.rm))))) value slice pins s σ H x y v u Q I rx ry ?_ hs
  obtain ⟨w, a, b, d, rfl, ok, ra, rb, hd, q⟩ := h
  have hd : idxD (look w.mu a) b = some d := hd
  rw [G.hK]
  have fin : ∀ z, Rep p.g w.G w.la d z → Q z w.H := fun z hz => q w z rfl (Grow.refl w) ok hz
  generalize ea : look w.mu a = A at hd
  cases A with
  | lst ds =>
    cases b with
    | int i =>
      cases rb
      obtain ⟨ad, vs, rfl, h1, h2⟩ := repL ok ra ea
      obtain ⟨z, h3, h4⟩ := atI_rep h2 (show atI ds i = some d from hd)
      exact .inl ⟨ad, vs, i, z, rfl, rfl, .of h1, h3, fin z h4⟩
    | _ => cases hd
  | tup ds =>
    cases b with
    | int i =>
      cases rb
      obtain ⟨ad, vs, rfl, h1, h2⟩ := repT ok ra ea
      obtain ⟨z, h3, h4⟩ := atI_rep h2 (show atI ds i = some d from hd)
      exact .inr (.inl ⟨ad, vs, i, z, rfl, rfl, h1, h3, fin z h4⟩)
    | _ => cases hd
  | scr ns =>
    cases b with
    | int i =>
      cases rb
      obtain ⟨ad, rfl, h1⟩ := repR ok ra ea
      obtain ⟨n, h2, rfl⟩ := Option.map_eq_some_iff.mp (show (atI ns i).map D.int = some d from hd)
      exact .inl ⟨ad, _, i, .int n, rfl, rfl, h1, atI_map V.int h2, fin _ (.int n)⟩
    | _ => cases hd
  | str z =>
    cases b with
    | int i =>
      cases rb
      obtain ⟨rfl, _⟩ := repS ra ea
      have hd : (if z.length ≤ line then (atI z.cps.toList i).map fun c => D.str ⟨#[c]⟩ else none) = some d := hd
      split at hd
      · rename_i hl
        obtain ⟨n, h2, rfl⟩ := Option.map_eq_some_iff.mp hd
        exact .inr (.inr (.inl ⟨z, i, n, rfl, rfl, line_eq ▸ hl, h2, fin _ (.str _)⟩))
      · cases hd
    | _ => cases hd
  | dct kvs =>
    obtain ⟨ad, kws, rfl, h1, h2, h3⟩ := repD ok ra ea
    have hd : (keyD b).bind (valD kvs) = some d := by cases b <;> exact hd
    obtain ⟨key, e1, e2⟩ := Option.bind_eq_some_iff.mp hd
    obtain ⟨z, h4, h5⟩ := (valD_rep h2 h3 key).1 d e2
    have ek : y = kV key := by
      cases b with
      | int i => cases e1; cases rb; rfl
      | str i => cases e1; cases rb; rfl
      | _ => cases e1
    exact .inr (.inr (.inr ⟨ad, kws, key, z, rfl, h1, ek, h4, fin z h5⟩))
  | _ => cases b <;> cases hd
theorem se_idx (G : Good p Φ X k W) (hs : PlainIx b) (ha : SE p X k W a ia) (hb : SE p X k W b ib) : SE p X k W (.Subscript a b pos) (.idx ia ib) :=
  weakE (pe_ix (ix_all G) ha hb hs) fun _ _ _ q => imp_bin (f := fun m x y => idxD (look m x) y) (fun _ _ _ _ z => z) q
/-! a part of a sequence -/
def tO (g : Gm) (sem : Ev → Mu → R (Option Int)) (W : WX) : TO := fun σ H Q => ∃ (w : Wd) (r : Ev), w.H = H ∧ Ok g w ∧ RelS g w r σ ∧ Sat g w (wr g (WE W σ)) (sem r w.mu) (fun o w' => Q o w'.H)
noncomputable abbrev Pgm.Eo (p : Pgm) (k : Nat) (io : IO) : Ev → Mu → R (Option Int) := Rs.Eo p.T k (run p.T p.fns k) io
abbrev SO (p : Pgm) (X : Cx) (k : Nat) (W : WX) (e : Option Expr) (io : IO) : Prop := PO X e (tO p.g (p.Eo k io) W)
theorem so_no : SO p X k W none .no := ⟨fun pins s σ H Q I q => po_none.run pins s σ H Q I (by
  obtain ⟨w, r, e, ok, rs, st⟩ := q
  have st : Sat p.g w _ (.ok none w.mu) (fun o w' => Q o w'.H) := st
  subst e
  exact st.now ok)⟩
theorem so_yes (h : SE p X k W e ie) : SO p X k W (some e) (.yes ie) := ⟨fun pins s σ H Q I q => (po_some h).run pins s σ H Q I (by
  obtain ⟨w, r, e, ok, rs, st⟩ := q
  refine ⟨w, r, e, ok, rs, (show Sat p.g w _ ((p.E k ie r w.mu).bind _) _ from st).bind.imp fun x w1 g1 ok1 s1 v1 r1 => ?_⟩
  cases r1 with
  | int i => exact ⟨i, rfl, (show Sat p.g w1 _ (.ok (some i) w1.mu) (fun o w' => Q o w'.H) from s1).now ok1⟩
  | _ => exact s1.elim)⟩
theorem cut_rep {g : Gm} {G : Hp} {la : List Addr} {ds : List D} {vs : List V} (h : RepL g G la ds vs) (lo hi : Option Int) : RepL g G la (cutL ds lo hi) (cutV vs lo hi) := by
  unfold cutL cutV
  rw [← h.length]
  exact (h.drop _).take _
theorem ints_rep {g : Gm} {G : Hp} {la : List Addr} : ∀ ns : List Int, RepL g G la (ns.map D.int) (ns.map V.int)
  | [] => .nil
  | n :: ns => .cons (.int n) (ints_rep ns)
theorem cut_ints (ns : List Int) (lo hi : Option Int) : cutV (ns.map V.int) lo hi = (cutL ns lo hi).map V.int := by
  unfold cutL cutV
  rw [List.length_map, List.map_take, List.map_drop]
theorem cut_whole {α : Type} {xs : List α} {lo hi : Option Int} (h : HT.sIx xs.length 0 lo = 0 ∧ HT.sIx xs.length xs.length hi = xs.length) : cutL xs lo hi = xs := by
  unfold cutL
  rw [h.1, h.2]
  simp
theorem se_slc (G : Good p Φ X k W) {lo hi : Option Expr} {il ih : IO} {p2 : Pos} (ha : SE p X k W a ia) (hl : SO p X k W lo il) (hh : SO p X k W hi ih) : SE p X k W (.Subscript a (.Slice lo hi none p2) pos) (.slc ia il ih) :=
  weakE (pe_slice ((sl_list (X := X)).or (sl_tupA.or sl_str)) ha hl hh) fun σ H Q ⟨w, r, e, ok, rs, st⟩ => ⟨w, r, e, ok, rs, (show Sat p.g w _ ((p.E k ia r w.mu).bind _) _ from st).bind.imp fun x w1 g1 ok1 s1 v1 r1 => by
    refine ⟨w1, r, rfl, ok1, rs.grow g1, (show Sat p.g w1 _ ((p.Eo k il r w1.mu).bind _) _ from s1).bind.imp fun l w2 g2 ok2 s2 => ?_⟩
    refine ⟨w2, r, rfl, ok2, (rs.grow g1).grow g2, (show Sat p.g w2 _ ((p.Eo k ih r w2.mu).bind _) _ from s2).bind.imp fun u w3 g3 ok3 s3 => ?_⟩
    have s3 : Sat p.g w3 _ (R.opt (slcD (look w3.mu x) l u) w3.mu) (pv1 p.g Q) := s3
    obtain ⟨d, hd, _⟩ := s3.opt ok3
    rw [hd] at s3
    have r3 := (r1.grow g2).grow g3
    rw [G.hK]
    have fin : ∀ w' v, w'.mu = w3.mu → Grow w3 w' → Ok p.g w' → Rep p.g w'.G w'.la d v → Q v w'.H := fun w' v em gr ok' rv => s3 w' em gr ok' v rv
    generalize ea : look w3.mu x = A at hd
    cases A with
    | lst ds =>
      cases hd
      obtain ⟨ad, vs, rfl, h1, h2⟩ := repL ok3 r3 ea
      refine .inl ⟨ad, vs, rfl, .of h1, fun q hq => ?_⟩
      obtain ⟨w', eH, em, gr, ok', rv⟩ := new_lst ok3 hq (cut_rep h2 l u)
      rw [← eH]
      exact fin w' _ em gr ok' rv
    | scr ns =>
      cases hd
      obtain ⟨ad, rfl, h1⟩ := repR ok3 r3 ea
      refine .inl ⟨ad, _, rfl, h1, fun q hq => ?_⟩
      obtain ⟨w', eH, em, gr, ok', rv⟩ := new_lst ok3 hq (ints_rep (cutL ns l u))
      rw [cut_ints, ← eH]
      exact fin w' _ em gr ok' rv
    | tup ds =>
      cases hd
      obtain ⟨ad, vs, rfl, h1, h2⟩ := repT ok3 r3 ea
      refine .inr (.inl ⟨ad, vs, rfl, h1, fun hw => ?_, fun _ q hq => ?_⟩)
      · rw [← h2.length] at hw
        rw [cut_whole hw] at fin
        cases x with
        | tup es =>
          cases ea
          exact fin w3 _ rfl (Grow.refl _) ok3 r3
        | loc n =>
          rcases lookLoc ea with ⟨_, _, h2⟩ | ⟨_, _, h2⟩ | ⟨_, _, _, h2⟩ | h2
          all_goals cases h2
        | _ => cases ea
      · obtain ⟨w', eH, em, gr, ok', rv⟩ := new_tup ok3 hq (cut_rep h2 l u)
        rw [← eH]
        exact fin w' _ em gr ok' rv
    | str z =>
      obtain ⟨rfl, _⟩ := repS r3 ea
      have hd : (if z.length ≤ line then some (D.str ⟨(cutL z.cps.toList l u).toArray⟩) else none) = some d := hd
      split at hd
      · rename_i hl
        cases hd
        exact .inr (.inr ⟨z, rfl, line_eq ▸ hl, fin w3 _ rfl (Grow.refl _) ok3 (.str _)⟩)
      · cases hd
    | _ => cases hd⟩
end
end Rs

/-! part RsX4 -/
set_option Elab.async false
set_option linter.all false
set_option maxRecDepth 100000
set_option maxHeartbeats 4000000
namespace Rs
open PySem L2
def tA (g : Gm) (sem : Ev → Mu → R (List D)) (W : WX) : TA := fun σ H Q => ∃ (w : Wd) (r : Ev), w.H = H ∧ Ok g w ∧ RelS g w r σ ∧ Sat g w (wr g (WE W σ)) (sem r w.mu) (fun ds w' => ∀ vs, RepL g w'.G w'.la ds vs → Q vs w'.H)
noncomputable abbrev Pgm.Es (p : Pgm) (k : Nat) (io : IEs) : Ev → Mu → R (List D) := Rs.Es p.T k (run p.T p.fns k) io
noncomputable abbrev Pgm.EF (p : Pgm) (k : Nat) (io : IF) : Ev → Mu → R MO := Rs.EF p.T k (run p.T p.fns k) io
abbrev SA (p : Pgm) (X : Cx) (k : Nat) (W : WX) (es : List Expr) (ies : IEs) : Prop := PA X es (tA p.g (p.Es k ies) W)
theorem weakA {X : Cx} {es : List Expr} {t t' : TA} (h : PA X es t) (f : ∀ σ H Q, t' σ H Q → t σ H Q) : PA X es t' := ⟨fun pos pins s σ H Q I q => h.run pos pins s σ H Q I (f σ H Q q)⟩
/-- the object stands for the mutable one -/
def MObj (g : Gm) (w : Wd) (o : HO) : MO → Prop
  | .lst ds => ∃ vs, o = .lst vs ∧ RepL g w.G w.la ds vs
  | .dct kvs => ∃ kws : List (Key × V), o = .dK kws ∧ kws.map (·.1) = kvs.map (·.1) ∧ RepL g w.G w.la (kvs.map (·.2)) (kws.map (·.2))
  | _ => False
/-- a new object, read -/
def tF (g : Gm) (sem : Ev → Mu → R MO) (W : WX) : TE := fun σ H Q => ∃ (w : Wd) (r : Ev), w.H = H ∧ Ok g w ∧ RelS g w r σ ∧ Sat g w (wr g (WE W σ)) (sem r w.mu) (fun mo w' => ∀ p o, w'.H p = none → MObj g w' o mo → Q (.ref p) (upd w'.H p o))
abbrev SF (p : Pgm) (X : Cx) (k : Nat) (W : WX) (e : Expr) (f : IF) : Prop := PE X e (tF p.g (p.EF k f) W)
section
variable {g : Gm} {w : Wd}
theorem new_dct {p : Addr} {kvs : List (Key × D)} {kws : List (Key × V)} (ok : Ok g w) (hp : w.H p = none) (e : kws.map (·.1) = kvs.map (·.1)) (r : RepL g w.G w.la (kvs.map (·.2)) (kws.map (·.2))) :
    ∃ w', w'.H = upd w.H p (.dK kws) ∧ w'.mu = w.mu ∧ Grow w w' ∧ Ok g w' ∧ Rep g w'.G w'.la (.dct kvs) (.ref p) := by
  have f := ok.fresh hp
  have g1 := Grow.alien (o := .dK kws) hp
  have o1 := ok.alien (o := .dK kws) hp
  have g2 : Grow w ⟨upd w.G p (.dK kws), upd w.H p (.dK kws), w.la, w.mu⟩ := Grow.data (o := .dK kws) g1 (show upd w.H p _ p = _ from upd_same) f.1 hp
  exact ⟨⟨upd w.G p (.dK kws), upd w.H p (.dK kws), w.la, w.mu⟩, rfl, rfl, g2, o1.data (show upd w.H p _ p = _ from upd_same) f.1 f.2, .dct (show upd w.G p (.dK kws) p = some (.dK kws) from upd_same) e (r.grow g2)⟩
theorem new_place {p : Addr} {o : HO} {mo : MO} (ok : Ok g w) (hp : w.H p = none) (m : MObj g w o mo) :
    ∃ w', w'.H = upd w.H p o ∧ w'.mu = w.mu ++ [mo] ∧ Grow w w' ∧ Ok g w' ∧ Rep g w'.G w'.la (.loc w.mu.length) (.ref p) := by
  have f := ok.fresh hp
  have g1 := Grow.alien (o := o) hp
  have o1 := ok.alien (o := o) hp
  have g2 : Grow w ⟨w.G, upd w.H p o, w.la ++ [p], w.mu ++ [mo]⟩ := Grow.place (w := { w with H := upd w.H p o }) g1 hp
  have h1 : upd w.H p o p = some o := upd_same
  refine ⟨⟨w.G, upd w.H p o, w.la ++ [p], w.mu ++ [mo]⟩, rfl, rfl, g2, o1.place (by show upd w.H p o p ≠ none; rw [h1]; exact fun z => nomatch z) f.1 f.2 ?_, .loc ?_⟩
  · cases mo with
    | lst ds =>
      obtain ⟨vs, rfl, r⟩ := m
      exact ⟨vs, h1, r⟩
    | dct kvs =>
      obtain ⟨kws, rfl, e, r⟩ := m
      exact ⟨kws, h1, e, r⟩
    | _ => exact m.elim
  · show (w.la ++ [p])[w.mu.length]? = some p
    rw [← ok.len, List.getElem?_append_right (Nat.le_refl _), Nat.sub_self]
    rfl
end
section
variable {p : Pgm} {Φ : Ctx} {X : Cx} {k : Nat} {W : WX} {a b c e : Expr} {ia ib ic ie : IE} {pos : Pos} {rest es : List Expr} {ies : IEs} {f : IF}
theorem fz_imp {σ : L2.St} {H : Hp} {Q : VK} : tE p.g (p.E k (.fz f)) W σ H Q → tF p.g (p.EF k f) W σ H Q := fun ⟨w, r, e, ok, rs, st⟩ => ⟨w, r, e, ok, rs, (show Sat p.g w _ ((p.EF k f r w.mu).bind _) _ from st).bind.imp fun mo w1 g1 ok1 s1 q o hq m => by
  cases mo with
  | lst ds =>
    obtain ⟨vs, rfl, h2⟩ := m
    obtain ⟨w', eH, em, gr, ok', rv⟩ := new_lst ok1 hq h2
    rw [← eH]
    exact (show Sat p.g w1 _ (.ok (.lst ds) w1.mu) (pv1 p.g Q) from s1) w' em gr ok' _ rv
  | dct kvs =>
    obtain ⟨kws, rfl, h1, h2⟩ := m
    obtain ⟨w', eH, em, gr, ok', rv⟩ := new_dct ok1 hq h1 h2
    rw [← eH]
    exact (show Sat p.g w1 _ (.ok (.dct kvs) w1.mu) (pv1 p.g Q) from s1) w' em gr ok' _ rv
  | _ => exact m.elim⟩
theorem mk_imp {σ : L2.St} {H : Hp} {Q : VK} : tE p.g (p.E k (.mk f)) W σ H Q → tF p.g (p.EF k f) W σ H Q := fun ⟨w, r, e, ok, rs, st⟩ => ⟨w, r, e, ok, rs, (show Sat p.g w _ ((p.EF k f r w.mu).bind _) _ from st).bind.imp fun mo w1 g1 ok1 s1 q o hq m => by
  obtain ⟨w', eH, em, gr, ok', rv⟩ := new_place ok1 hq m
  rw [← eH]
  exact (show Sat p.g w1 _ (.ok (.loc w1.mu.length) (w1.mu ++ [mo])) (pv1 p.g Q) from s1) w' em gr ok' _ rv⟩
theorem se_fz (h : SF p X k W e f) : SE p X k W e (.fz f) := weakE h fun _ _ _ q => fz_imp q
theorem se_mk (h : SF p X k W e f) : SE p X k W e (.mk f) := weakE h fun _ _ _ q => mk_imp q
theorem sa_nil : SA p X k W [] .nil := weakA pa_nil fun σ H Q ⟨w, r, e, ok, rs, st⟩ => by
  subst e
  exact (show Sat p.g w _ (.ok [] w.mu) (fun ds w' => ∀ vs, RepL p.g w'.G w'.la ds vs → Q vs w'.H) from st).now ok [] .nil
theorem sa_cons (ha : SE p X k W e ie) (hr : SA p X k W es ies) (hs : starEach (e :: es) X.env = (false, eval e X.env) :: starEach es X.env) : SA p X k W (e :: es) (.cons ie ies) :=
  weakA (pa_cons ha hr hs) fun σ H Q ⟨w, r, e, ok, rs, st⟩ => ⟨w, r, e, ok, rs, (show Sat p.g w _ ((p.E k ie r w.mu).bind _) _ from st).bind.imp fun x w1 g1 ok1 s1 v1 r1 => ⟨w1, r, rfl, ok1, rs.grow g1, (show Sat p.g w1 _ ((p.Es k ies r w1.mu).bind _) _ from s1).bind.imp fun ds w2 g2 ok2 s2 vs r2 =>
    (show Sat p.g w2 _ (.ok (x :: ds) w2.mu) (fun ds w' => ∀ vs, RepL p.g w'.G w'.la ds vs → Q vs w'.H) from s2).now ok2 (v1 :: vs) (.cons (r1.grow g2) r2)⟩⟩
theorem se_tup {j : Nat} (h : SA p X k W es ies) : SE p X k W (.Tuple es j pos) (.tup ies) :=
  weakE (pe_tup h) fun σ H Q ⟨w, r, e, ok, rs, st⟩ => ⟨w, r, e, ok, rs, (show Sat p.g w _ ((p.Es k ies r w.mu).bind _) _ from st).bind.imp fun ds w1 g1 ok1 s1 vs r1 => by
    have s1 : Sat p.g w1 _ (if ds.length ≤ line then R.ok (.tup ds) w1.mu else .bad) (pv1 p.g Q) := s1
    split at s1
    · rename_i hl
      refine ⟨by rw [← r1.length, ← line_eq]; exact hl, fun q hq => ?_⟩
      obtain ⟨w', eH, em, gr, ok', rv⟩ := new_tup ok1 hq r1
      rw [← eH]
      exact s1 w' em gr ok' _ rv
    · exact s1.elim⟩
theorem sf_lst (h : SA p X k W es ies) : SF p X k W (.List es pos) (.lst ies) :=
  weakE (pe_lst h) fun σ H Q ⟨w, r, e, ok, rs, st⟩ => ⟨w, r, e, ok, rs, (show Sat p.g w _ ((p.Es k ies r w.mu).bind _) _ from st).bind.imp fun ds w1 g1 ok1 s1 vs r1 => by
    have s1 : Sat p.g w1 _ (if ds.length ≤ line then R.ok (.lst ds) w1.mu else .bad) (fun mo w' => ∀ p' o, w'.H p' = none → MObj p.g w' o mo → Q (.ref p') (upd w'.H p' o)) := s1
    split at s1
    · rename_i hl
      exact ⟨by rw [← r1.length, ← line_eq]; exact hl, fun q hq => s1.now ok1 q _ hq ⟨vs, rfl, r1⟩⟩
    · exact s1.elim⟩
/-! built-in names, calls of them -/
theorem gl_of (G : Good p Φ X k W) {x : Str} (h : Φ.sc.names.lookup x = some .globalImplicit) : Gl X x := by
  show X.env.scope.names.lookup x = _
  rw [G.sc]
  exact h
theorem bu_of (G : Good p Φ X k W) {x : Str} (h : Φ.gl.lookup x = some .bu) : X.mg x = none := by
  rw [G.of.mg]
  exact G.fx.gbu x h
/-- a built-in name -/
def BuN (Φ : Ctx) (x : Str) : Prop := Φ.sc.names.lookup x = some .globalImplicit ∧ Φ.gl.lookup x = some .bu
theorem sf_lof (G : Good p Φ X k W) {q : Pos} (h1 : BuN Φ "list") (ha : SE p X k W a ia) (hs : starEach [a] X.env = [(false, eval a X.env)]) : SF p X k W (.Call (.Name "list" q) [a] [] pos) (.lof ia) :=
  weakE (pe_callTy call_list_of (gl_of G h1.1) (bu_of G h1.2) (by rfl) (pa_cons ha pa_nil hs) (he := hs)) fun σ H Q ⟨w, r, e, ok, rs, st⟩ => ⟨w, r, e, ok, rs, (show Sat p.g w _ ((p.E k ia r w.mu).bind _) _ from st).bind.imp fun x w1 g1 ok1 s1 v1 r1 => by
    have s1 : Sat p.g w1 _ (match look w1.mu x with
      | .lst xs => R.ok (.lst xs) w1.mu
      | .tup xs => R.ok (.lst xs) w1.mu
      | _ => .bad) (fun mo w' => ∀ p' o, w'.H p' = none → MObj p.g w' o mo → Q (.ref p') (upd w'.H p' o)) := s1
    rw [G.hK]
    cases ea : look w1.mu x with
    | lst ds =>
      rw [ea] at s1
      obtain ⟨ad, vs, rfl, h1, h2⟩ := repL ok1 r1 ea
      exact ⟨ad, vs, rfl, .inl (.of h1), fun l hl => s1.now ok1 l _ hl ⟨vs, rfl, h2⟩⟩
    | tup ds =>
      rw [ea] at s1
      obtain ⟨ad, vs, rfl, h1, h2⟩ := repT ok1 r1 ea
      exact ⟨ad, vs, rfl, .inr h1, fun l hl => s1.now ok1 l _ hl ⟨vs, rfl, h2⟩⟩
    | _ =>
      rw [ea] at s1
      exact s1.elim⟩
end
end Rs

/-! part RsX5 -/
set_option Elab.async false
set_option linter.all false
set_option maxRecDepth 100000
set_option maxHeartbeats 4000000
namespace Rs
open PySem L2
/-! side conditions on the form of expressions -/
def nostar : Expr → Bool
  | .Starred .. => false
  | _ => true
theorem star1 {e : Expr} {es : List Expr} {env : Env} (h : nostar e = true) : starEach (e :: es) env = (false, eval e env) :: starEach es env := by
  cases e <;> first | rfl | cases h
theorem stars {env : Env} {pos : Pos} : ∀ {es : List Expr}, es.all nostar = true → (backTo pos (starEach es env)).any (·.1) = false
  | [], _ => rfl
  | e :: es, h => by
    obtain ⟨h1, h2⟩ := Bool.and_eq_true_iff.mp h
    rw [star1 h1]
    exact stars h2
def plainT : Expr → Bool
  | .UnaryOp .Not .. => false
  | .BoolOp .. => false
  | .IfExp .. => false
  | .Compare .. => false
  | _ => true
theorem isTrue_pl {a : Expr} {env : Env} (h : plainT a = true) : ∀ whole, isTrue a env whole = (do let v ← whole; standAt a.pos; holding [v] (truthy v)) := fun whole => by
  cases a with
  | UnaryOp op x pos => cases op <;> first | rfl | cases h
  | BoolOp op x pos => cases h
  | IfExp op x pos => cases h
  | Compare op x pos => cases h
  | _ => rfl
def noSlice : Expr → Bool
  | .Slice .. => false
  | _ => true
theorem plainIx_of {b : Expr} (h : noSlice b = true) : PlainIx b := fun o i => by
  cases b <;> first | rfl | cases h
def noCall0 : Expr → Bool
  | .Call (.Name ..) [] [] _ => false
  | _ => true
theorem attBase_of {o : Expr} {f : Str} {env : Env} (h : noCall0 o = true) {whole : Sem Value} : attributeBase o f env whole = whole := by
  cases o with
  | Call fn args kws pos =>
    cases fn with
    | Name x q =>
      cases args with
      | nil =>
        cases kws with
        | nil => cases h
        | cons _ _ => rfl
      | cons _ _ => rfl
    | _ => rfl
  | _ => rfl
def noComp : Expr → Bool
  | .ListComp .. => false
  | .SetComp .. => false
  | .DictComp .. => false
  | _ => true
theorem swaps_of {e : Expr} {t : Option Expr} {l : Nat} {env : Env} (h : noComp e = true) : swapsWith e t l env = pure false := by
  cases e <;> first | rfl | cases h
theorem swaps_att {e o : Expr} {f : Str} {q : Pos} {l : Nat} {env : Env} : swapsWith e (some (.Attribute o f q)) l env = pure false := by
  cases e <;> rfl
def noSet : Expr → Bool
  | .Set .. => false
  | _ => true
theorem marks_of {op : CmpOp} {e : Expr} (h : noSet e = true) : behindInMarks op e = false := by
  cases e <;> first | rfl | cases h
theorem folded_of {e : Expr} {env : Env} (h : noSet e = true) : ∀ x, foldedSetIterable e env x = pure x := fun x => by
  cases e <;> first | rfl | cases h
/-! built-in functions -/
def rB (g : Gm) (b : Bl) : List V → Hp → VK → Prop := fun vs H Q => ∃ (w : Wd) (ds : List D) (d : D), w.H = H ∧ Ok g w ∧ RepL g w.G w.la ds vs ∧ bltD b (ds.map (look w.mu)) = some d ∧
  ∀ w' v, w'.mu = w.mu → Grow w w' → Ok g w' → Rep g w'.G w'.la d v → Q v w'.H
def Bl.nam : Bl → Str
  | .int => "int" | .tuple => "tuple" | .sum => "sum" | .max => "max" | .min => "min" | .max2 => "max" | .min2 => "min" | .all => "all" | .any => "any" | .abs => "abs"
def Bl.val : Bl → Value
  | .int => .type "int" | .tuple => .type "tuple" | .sum => .builtin "sum" | .max => .builtin "max" | .min => .builtin "min" | .max2 => .builtin "max" | .min2 => .builtin "min" | .all => .builtin "all" | .any => .builtin "any" | .abs => .builtin "abs"
theorem intsD_of : ∀ {ds : List D} {ns : List Int}, intsD ds = some ns → ds = ns.map D.int
  | [], ns, h => by cases h; rfl
  | d :: ds, ns, h => by
    cases d with
    | int i =>
      obtain ⟨ms, h1, rfl⟩ := Option.map_eq_some_iff.mp (show (intsD ds).map (i :: ·) = some ns from h)
      rw [intsD_of h1]
      rfl
    | _ => cases h
theorem boolsD_of : ∀ {ds : List D} {ns : List Bool}, boolsD ds = some ns → ds = ns.map D.bl
  | [], ns, h => by cases h; rfl
  | d :: ds, ns, h => by
    cases d with
    | bl i =>
      obtain ⟨ms, h1, rfl⟩ := Option.map_eq_some_iff.mp (show (boolsD ds).map (i :: ·) = some ns from h)
      rw [boolsD_of h1]
      rfl
    | _ => cases h
theorem ints_vs {g : Gm} {G : Hp} {la : List Addr} : ∀ {ns : List Int} {vs : List V}, RepL g G la (ns.map D.int) vs → vs = ns.map V.int
  | [], _, .nil => rfl
  | n :: ns, _, .cons (.int _) r => by rw [ints_vs r]; rfl
theorem bools_vs {g : Gm} {G : Hp} {la : List Addr} : ∀ {ns : List Bool} {vs : List V}, RepL g G la (ns.map D.bl) vs → vs = ns.map V.bl
  | [], _, .nil => rfl
  | n :: ns, _, .cons (.bl _) r => by rw [bools_vs r]; rfl
theorem repL1 {g : Gm} {G : Hp} {la : List Addr} {d : D} {vs : List V} (h : RepL g G la [d] vs) : ∃ v, vs = [v] ∧ Rep g G la d v := by
  cases h with
  | cons r1 r2 =>
    cases r2
    exact ⟨_, rfl, r1⟩
theorem repL2 {g : Gm} {G : Hp} {la : List Addr} {d e : D} {vs : List V} (h : RepL g G la [d, e] vs) : ∃ v u, vs = [v, u] ∧ Rep g G la d v ∧ Rep g G la e u := by
  cases h with
  | cons r1 r2 =>
    obtain ⟨u, rfl, r3⟩ := repL1 r2
    exact ⟨_, u, rfl, r1, r3⟩
theorem one_of {α β : Type} {f : α → β} {ds : List α} {x : β} (h : ds.map f = [x]) : ∃ d, ds = [d] ∧ f d = x := by
  cases ds with
  | nil => cases h
  | cons d ds =>
    cases ds with
    | nil => exact ⟨d, rfl, (List.cons.inj h).1⟩
    | cons _ _ => cases (List.cons.inj h).2
theorem two_of {α β : Type} {f : α → β} {ds : List α} {x y : β} (h : ds.map f = [x, y]) : ∃ d e, ds = [d, e] ∧ f d = x ∧ f e = y := by
  cases ds with
  | nil => cases h
  | cons d ds =>
    obtain ⟨e, rfl, h2⟩ := one_of (List.cons.inj h).2
    exact ⟨d, e, rfl, (List.cons.inj h).1, h2⟩
theorem max_is {ns : List Int} {m m' : Int} (h : ns.max? = some m) (h1 : m' ∈ ns) (h2 : ∀ y, y ∈ ns → y ≤ m') : m' = m := by
  obtain ⟨h3, h4⟩ := List.max?_eq_some_iff.mp h
  have := h2 m h3
  have := h4 m' h1
  omega
theorem min_is {ns : List Int} {m m' : Int} (h : ns.min? = some m) (h1 : m' ∈ ns) (h2 : ∀ y, y ∈ ns → m' ≤ y) : m' = m := by
  obtain ⟨h3, h4⟩ := List.min?_eq_some_iff.mp h
  have := h2 m h3
  have := h4 m' h1
  omega
section
variable {p : Pgm} {Φ : Ctx} {X : Cx} {k : Nat} {W : WX} {a b c e : Expr} {ia ib ic ie : IE} {pos : Pos} {rest es : List Expr} {ies : IEs} {f : IF}
theorem callR_w {f : Value} {r r' : List V → Hp → VK → Prop} (h : CallR X f r) (hh : ∀ xs H Q, r' xs H Q → r xs H Q) : CallR X f r' := fun pins s σ H xs us Q I rx q => h pins s σ H xs us Q I rx (hh _ _ _ q)
theorem blt_intX : CallR X (.type "int") (rB p.g .int) := callR_w call_int1 fun vs H Q ⟨w, ds, d, e, ok, r, hd, q⟩ => by
  subst e
  generalize em : ds.map (look w.mu) = ms at hd
  cases ms with
  | nil => cases hd
  | cons x ms =>
    cases ms with
    | nil =>
      obtain ⟨d1, rfl, e1⟩ := one_of em
      obtain ⟨v, rfl, r1⟩ := repL1 r
      cases x with
      | int i =>
        obtain ⟨rfl, _⟩ := repI r1 e1
        cases hd
        exact .inl ⟨i, rfl, q w _ rfl (Grow.refl w) ok (.int i)⟩
      | bl i =>
        obtain ⟨rfl, _⟩ := repB r1 e1
        cases hd
        exact .inr ⟨i, rfl, q w _ rfl (Grow.refl w) ok (.int _)⟩
      | _ => cases hd
    | cons _ _ => cases x <;> cases hd
theorem blt_tuple (hK : X.K = p.K) : CallR X (.type "tuple") (rB p.g .tuple) := callR_w call_tuple_of fun vs H Q ⟨w, ds, d, e, ok, r, hd, q⟩ => by
  subst e
  rw [hK]
  generalize em : ds.map (look w.mu) = ms at hd
  cases ms with
  | nil => cases hd
  | cons x ms =>
    cases ms with
    | nil =>
      obtain ⟨d1, rfl, e1⟩ := one_of em
      obtain ⟨v, rfl, r1⟩ := repL1 r
      cases x with
      | lst xs =>
        obtain ⟨ad, ws, rfl, h1, h2⟩ := repL ok r1 e1
        cases hd
        refine ⟨ad, ws, rfl, .inl ⟨.of h1, fun l hl => ?_⟩⟩
        obtain ⟨w', eH, em, gr, ok', rv⟩ := new_tup ok hl h2
        rw [← eH]
        exact q w' _ em gr ok' rv
      | tup xs =>
        obtain ⟨ad, ws, rfl, h1, h2⟩ := repT ok r1 e1
        cases hd
        refine ⟨ad, ws, rfl, .inr ⟨h1, q w _ rfl (Grow.refl w) ok ?_⟩⟩
        cases d1 with
        | tup es =>
          cases e1
          exact r1
        | loc n =>
          rcases lookLoc e1 with ⟨_, _, h2⟩ | ⟨_, _, h2⟩ | ⟨_, _, _, h2⟩ | h2
          all_goals cases h2
        | _ => cases e1
      | _ => cases hd
    | cons _ _ => cases x <;> cases hd
theorem lst1 {α : Type} {w : Wd} {ds : List D} {vs : List V} {F : List D → Option α} {o : α} (ok : Ok p.g w) (r : RepL p.g w.G w.la ds vs) (h : (match ds.map (look w.mu) with
    | [.lst xs] => F xs
    | _ => none) = some o) : ∃ ad xs ws, vs = [.ref ad] ∧ w.H ad = some (.lst ws) ∧ RepL p.g w.G w.la xs ws ∧ F xs = some o := by
  generalize em : ds.map (look w.mu) = ms at h
  cases ms with
  | nil => cases h
  | cons x ms =>
    cases ms with
    | nil =>
      obtain ⟨d1, rfl, e1⟩ := one_of em
      obtain ⟨v, rfl, r1⟩ := repL1 r
      cases x with
      | lst xs =>
        obtain ⟨ad, ws, rfl, h1, h2⟩ := repL ok r1 e1
        exact ⟨ad, xs, ws, rfl, h1, h2, h⟩
      | _ => cases h
    | cons _ _ => cases x <;> cases h
theorem ints1 {w : Wd} {ds : List D} {vs : List V} {F : List Int → Option D} {o : D} (ok : Ok p.g w) (r : RepL p.g w.G w.la ds vs) (h : (match ds.map (look w.mu) with
    | [.lst xs] => (intsD xs).bind F
    | _ => none) = some o) : ∃ ad ns, vs = [.ref ad] ∧ w.H ad = some (.lst (ns.map V.int)) ∧ F ns = some o := by
  obtain ⟨ad, xs, ws, rfl, h1, h2, h3⟩ := lst1 (F := fun xs => (intsD xs).bind F) ok r h
  obtain ⟨ns, h4, h5⟩ := Option.bind_eq_some_iff.mp h3
  have h6 := intsD_of h4
  subst h6
  have h7 := ints_vs h2
  subst h7
  exact ⟨ad, ns, rfl, h1, h5⟩
theorem bools1 {w : Wd} {ds : List D} {vs : List V} {F : List Bool → Option D} {o : D} (ok : Ok p.g w) (r : RepL p.g w.G w.la ds vs) (h : (match ds.map (look w.mu) with
    | [.lst xs] => (boolsD xs).bind F
    | _ => none) = some o) : ∃ ad ns, vs = [.ref ad] ∧ w.H ad = some (.lst (ns.map V.bl)) ∧ F ns = some o := by
  obtain ⟨ad, xs, ws, rfl, h1, h2, h3⟩ := lst1 (F := fun xs => (boolsD xs).bind F) ok r h
  obtain ⟨ns, h4, h5⟩ := Option.bind_eq_some_iff.mp h3
  have h6 := boolsD_of h4
  subst h6
  have h7 := bools_vs h2
  subst h7
  exact ⟨ad, ns, rfl, h1, h5⟩
theorem blt_sum (hK : X.K = p.K) (hc : X.calm = true) : CallR X (.builtin "sum") (rB p.g .sum) := callR_w (cr_sum hc) fun vs H Q ⟨w, ds, d, e, ok, r, hd, q⟩ => by
  subst e
  rw [hK]
  obtain ⟨ad, ns, rfl, h1, h2⟩ := ints1 (F := fun ns => some (.int ns.sum)) ok r (by
    rw [← hd]
    generalize ds.map (look w.mu) = ms
    match ms with
    | [] => rfl
    | [x] => cases x <;> first | rfl | exact Option.map_eq_bind.symm
    | x :: y :: r => cases x <;> rfl)
  cases h2
  exact ⟨ad, ns, rfl, .of h1, q w _ rfl (Grow.refl w) ok (.int _)⟩
theorem blt_max (hK : X.K = p.K) (hc : X.calm = true) : CallR X (.builtin "max") (rB p.g .max) := callR_w (cr_max hc) fun vs H Q ⟨w, ds, d, e, ok, r, hd, q⟩ => by
  subst e
  rw [hK]
  obtain ⟨ad, ns, rfl, h1, h2⟩ := ints1 (F := fun ns => ns.max?.map .int) ok r (by
    rw [← hd]
    generalize ds.map (look w.mu) = ms
    match ms with
    | [] => rfl
    | [x] => cases x <;> rfl
    | x :: y :: r => cases x <;> rfl)
  obtain ⟨m, h3, rfl⟩ := Option.map_eq_some_iff.mp h2
  refine ⟨ad, ns, rfl, .of h1, ?_, fun m' h4 h5 => ?_⟩
  · cases ns with
    | nil => cases h3
    | cons _ _ => simp
  · rw [max_is h3 h4 h5]
    exact q w _ rfl (Grow.refl w) ok (.int _)
theorem blt_min (hK : X.K = p.K) (hc : X.calm = true) : CallR X (.builtin "min") (rB p.g .min) := callR_w (cr_min hc) fun vs H Q ⟨w, ds, d, e, ok, r, hd, q⟩ => by
  subst e
  rw [hK]
  obtain ⟨ad, ns, rfl, h1, h2⟩ := ints1 (F := fun ns => ns.min?.map .int) ok r (by
    rw [← hd]
    generalize ds.map (look w.mu) = ms
    match ms with
    | [] => rfl
    | [x] => cases x <;> rfl
    | x :: y :: r => cases x <;> rfl)
  obtain ⟨m, h3, rfl⟩ := Option.map_eq_some_iff.mp h2
  refine ⟨ad, ns, rfl, .of h1, ?_, fun m' h4 h5 => ?_⟩
  · cases ns with
    | nil => cases h3
    | cons _ _ => simp
  · rw [min_is h3 h4 h5]
    exact q w _ rfl (Grow.refl w) ok (.int _)
theorem blt_all (hK : X.K = p.K) (hc : X.calm = true) : CallR X (.builtin "all") (rB p.g .all) := callR_w (cr_all hc) fun vs H Q ⟨w, ds, d, e, ok, r, hd, q⟩ => by
  subst e
  rw [hK]
  obtain ⟨ad, ns, rfl, h1, h2⟩ := bools1 (F := fun ns => some (.bl (ns.all id))) ok r (by
    rw [← hd]
    generalize ds.map (look w.mu) = ms
    match ms with
    | [] => rfl
    | [x] => cases x <;> first | rfl | exact Option.map_eq_bind.symm
    | x :: y :: r => cases x <;> rfl)
  cases h2
  exact ⟨ad, ns, rfl, .of h1, q w _ rfl (Grow.refl w) ok (.bl _)⟩
theorem blt_any (hK : X.K = p.K) (hc : X.calm = true) : CallR X (.builtin "any") (rB p.g .any) := callR_w (cr_any hc) fun vs H Q ⟨w, ds, d, e, ok, r, hd, q⟩ => by
  subst e
  rw [hK]
  obtain ⟨ad, ns, rfl, h1, h2⟩ := bools1 (F := fun ns => some (.bl (ns.any id))) ok r (by
    rw [← hd]
    generalize ds.map (look w.mu) = ms
    match ms with
    | [] => rfl
    | [x] => cases x <;> first | rfl | exact Option.map_eq_bind.symm
    | x :: y :: r => cases x <;> rfl)
  cases h2
  exact ⟨ad, ns, rfl, .of h1, q w _ rfl (Grow.refl w) ok (.bl _)⟩
theorem blt_max2X (hc : X.calm = true) : CallR X (.builtin "max") (rB p.g .max2) := callR_w (call_max2 hc) fun vs H Q ⟨w, ds, d, e, ok, r, hd, q⟩ => by
  subst e
  generalize em : ds.map (look w.mu) = ms at hd
  match ms, em, hd with
  | [.int i, .int j], em, hd =>
    obtain ⟨d1, d2, rfl, e1, e2⟩ := two_of em
    obtain ⟨v1, v2, rfl, r1, r2⟩ := repL2 r
    obtain ⟨rfl, _⟩ := repI r1 e1
    obtain ⟨rfl, _⟩ := repI r2 e2
    cases hd
    exact ⟨i, j, rfl, q w _ rfl (Grow.refl w) ok (.int _)⟩
theorem blt_min2X (hc : X.calm = true) : CallR X (.builtin "min") (rB p.g .min2) := callR_w (call_min2 hc) fun vs H Q ⟨w, ds, d, e, ok, r, hd, q⟩ => by
  subst e
  generalize em : ds.map (look w.mu) = ms at hd
  match ms, em, hd with
  | [.int i, .int j], em, hd =>
    obtain ⟨d1, d2, rfl, e1, e2⟩ := two_of em
    obtain ⟨v1, v2, rfl, r1, r2⟩ := repL2 r
    obtain ⟨rfl, _⟩ := repI r1 e1
    obtain ⟨rfl, _⟩ := repI r2 e2
    cases hd
    exact ⟨i, j, rfl, q w _ rfl (Grow.refl w) ok (.int _)⟩
theorem blt_abs : CallR X (.builtin "abs") (rB p.g .abs) := callR_w call_abs fun vs H Q ⟨w, ds, d, e, ok, r, hd, q⟩ => by
  subst e
  generalize em : ds.map (look w.mu) = ms at hd
  match ms, em, hd with
  | [.int i], em, hd =>
    obtain ⟨d1, rfl, e1⟩ := one_of em
    obtain ⟨v, rfl, r1⟩ := repL1 r
    obtain ⟨rfl, _⟩ := repI r1 e1
    cases hd
    exact ⟨i, rfl, q w _ rfl (Grow.refl w) ok (.int _)⟩
theorem blt_all_ (G : Good p Φ X k W) (b : Bl) : CallR X b.val (rB p.g b) := by
  cases b with
  | int => exact blt_intX
  | tuple => exact blt_tuple G.hK
  | sum => exact blt_sum G.hK G.calm
  | max => exact blt_max G.hK G.calm
  | min => exact blt_min G.hK G.calm
  | max2 => exact blt_max2X G.calm
  | min2 => exact blt_min2X G.calm
  | all => exact blt_all G.hK G.calm
  | any => exact blt_any G.hK G.calm
  | abs => exact blt_abs
theorem blt_imp {b : Bl} {σ : St} {H : Hp} {Q : VK} (h : tE p.g (p.E k (.blt b ies)) W σ H Q) : tCB (rB p.g b) (tA p.g (p.Es k ies) W) σ H Q := by
  obtain ⟨w, r, e, ok, rs, st⟩ := h
  refine ⟨w, r, e, ok, rs, (show Sat p.g w _ ((p.Es k ies r w.mu).bind _) _ from st).bind.imp fun ds w1 g1 ok1 s1 vs r1 => ?_⟩
  have s1 : Sat p.g w1 _ (R.opt (bltD b (ds.map (look w1.mu))) w1.mu) (pv1 p.g Q) := s1
  obtain ⟨d, hd, _⟩ := s1.opt ok1
  rw [hd] at s1
  exact ⟨w1, ds, d, rfl, ok1, r1, hd, fun w' v em gr ok' rv => s1 w' em gr ok' v rv⟩
theorem se_blt (G : Good p Φ X k W) {b : Bl} {x : Str} {q : Pos} (hx : x = b.nam) (hn : BuN Φ x) (hs : (e :: es).all nostar = true) (ha : SA p X k W (e :: es) ies) : SE p X k W (.Call (.Name x q) (e :: es) [] pos) (.blt b ies) := by
  obtain ⟨h1, h2⟩ := Bool.and_eq_true_iff.mp hs
  subst hx
  refine weakE ?_ fun σ H Q q => blt_imp q
  have hh := blt_all_ (p := p) G b
  cases b with
  | int => exact pe_callTy hh (gl_of G hn.1) (bu_of G hn.2) (by rfl) ha (he := star1 h1) (hpl := stars h2) (hn := by decide) (hdb := by decide)
  | tuple => exact pe_callTy hh (gl_of G hn.1) (bu_of G hn.2) (by rfl) ha (he := star1 h1) (hpl := stars h2) (hn := by decide) (hdb := by decide)
  | _ => exact pe_callB hh (gl_of G hn.1) (bu_of G hn.2) (by rfl) ha (he := star1 h1) (hpl := stars h2) (hn := by decide) (hdb := by decide)
end
end Rs

/-! part RsX6 -/
set_option Elab.async false
set_option linter.all false
set_option maxRecDepth 100000
set_option maxHeartbeats 4000000
namespace Rs
open PySem L2
theorem Room.in2 {k : Nat} {A : Around} (r : Room (k + 1) A) : Room k A.in1.in1 :=
  ⟨r.hd, by have := r.dp; show A.depth + 3 * k + 5 < _; omega, by have := r.un; show A.units + 1 + 1 + 16 * k + 200 < _; omega⟩
section
variable {p : Pgm} {Φ : Ctx} {X : Cx} {k : Nat} {W : WX} {a b c e : Expr} {ia ib ic ie : IE} {pos : Pos} {rest es : List Expr} {ies : IEs} {f : IF}
theorem run_len {T : Tab} {P : Fns} {n f : Nat} {q : Fn} {ds : List D} {m : Mu} (h : P[f]? = some q) (hl : ds.length ≠ q.ar) : run T P n f ds m = .bad := by
  cases n with
  | zero => rfl
  | succ n =>
    show (match P[f]? with
      | some q => if ds.length = q.ar then _ else R.bad
      | none => R.bad) = R.bad
    rw [h]
    exact if_neg hl
theorem run_none {T : Tab} {P : Fns} {n f : Nat} {ds : List D} {m : Mu} (h : P[f]? = none) : run T P n f ds m = .bad := by
  cases n with
  | zero => rfl
  | succ n =>
    show (match P[f]? with
      | some q => if ds.length = q.ar then _ else R.bad
      | none => R.bad) = R.bad
    rw [h]
/-- a call of a function, at any place -/
theorem run_fnA (G : Good p Φ X k W) {A : Around} (hA : A.frames = X.A.frames) (hr : Room (lev k) A) {f : Nat} {pins : List (Addr × Obj)} {σ : L2.St} {s : Shared} {w : Wd} {ds : List D} {vs : List V} {us : List Value} {Q : VK}
    (I : Inv X pins σ w.H s) (ok : Ok p.g w) (r : RepL p.g w.G w.la ds vs) (ru : Vals vs us) (st : Sat p.g w (wr p.g (WE W σ)) (run p.T p.fns k f ds w.mu) (pv1 p.g Q)) : wpAny (model X.prog X.w) A (call (.ref (p.fa f)) us) (EP X pins σ Q) X.xe s := by
  cases hf : p.fns[f]? with
  | none =>
    rw [run_none hf] at st
    exact st.elim
  | some q =>
    by_cases hl : ds.length = q.ar
    · have FO := G.of.fn (G.tab k (Nat.le_refl k)) hf
      have hsp : spF p.g (Rs.run p.T p.fns k) f q.ar vs w.H Q (WE W σ) := ⟨w, ds, rfl, ok, r, by rw [← r.length]; exact hl, st⟩
      have e0 : Env0 X.prog X.w X.K X.mg X.base A X.stack s w.H := by
        have z := I.env0
        exact ⟨by rw [hA]; exact z.frames, z.mod, z.bs, z.bsz, z.funs, z.frf, z.hok, z.bare⟩
      have hl2 := FO.len _ _ _ _ hsp
      have hb := G.fx.bnd f q hf
      rw [← G.hK] at hb
      refine wpAny_call (codeAny_mono (FO.run A X.stack s w.H ⟨us, []⟩ us vs Q (WE W σ) hr e0 (by
        have z := hb s us I.kIn (by rw [List.append_nil, ← ru.length]; exact hl2)
        simpa using z) ru hsp) fun rs s' hq => ?_)
      cases rs with
      | error er => exact passAt G.tk σ pins w.H s er s' I hq
      | ok fl =>
        cases fl with
        | ret z => exact I.after hq
        | next => exact False.elim hq
        | brk => exact False.elim hq
        | cont => exact False.elim hq
    · rw [run_len hf hl] at st
      exact st.elim
/-! names that are no locals -/
structure GlN (Φ : Ctx) (x : Str) (g : Gn) : Prop where
  sc : Φ.sc.names.lookup x = some .globalImplicit
  gl : Φ.gl.lookup x = some g
  db : (x == ("__debug__" : Str)) = false
theorem se_call (G : Good p Φ X k W) {x : Str} {q : Pos} {f : Nat} (hx : GlN Φ x (.fn f)) (hs : (e :: es).all nostar = true) (ha : SA p X k W (e :: es) ies) : SE p X k W (.Call (.Name x q) (e :: es) [] pos) (.call f ies) := by
  obtain ⟨h1, h2⟩ := Bool.and_eq_true_iff.mp hs
  obtain ⟨h3, h4⟩ := G.fx.gfn x f hx.gl
  refine ⟨fun pins s σ H Q I h => wpAny_Call_Name_kw (ld_glob I (gl_of G hx.sc) (by rw [G.of.mg]; exact h3) ?_ hx.db)⟩
  obtain ⟨w, r, rfl, ok, rs, st⟩ := h
  refine PySem.W.callWith_K (h₀ := X.base) I.ok.mod.kin (by rw [G.hK]; exact h4) (thn (ha.run pos pins s σ w.H (fun vs H1 => ∃ (w1 : Wd) (ds : List D), w1.H = H1 ∧ Ok p.g w1 ∧ RepL p.g w1.G w1.la ds vs ∧ Sat p.g w1 (wr p.g (WE W σ)) (run p.T p.fns k f ds w1.mu) (pv1 p.g Q)) I
    ⟨w, r, rfl, ok, rs, (show Sat p.g w _ ((p.Es k ies r w.mu).bind _) _ from st).bind.imp fun ds w1 g1 ok1 s1 vs r1 => ⟨w1, ds, rfl, ok1, r1, s1⟩⟩) fun us s1 ⟨vs, H1, I1, rv, w1, ds, e1, ok1, r1, st1⟩ => ⟨I1.kIn, ?_⟩) (star1 h1) (stars h2)
  subst e1
  exact run_fnA G rfl G.rm I1 ok1 r1 rv st1
theorem se_call0 (G : Good p Φ X k W) {x : Str} {q : Pos} {f : Nat} (hx : GlN Φ x (.fn f)) : SE p X k W (.Call (.Name x q) [] [] pos) (.call f .nil) := by
  obtain ⟨h3, h4⟩ := G.fx.gfn x f hx.gl
  refine ⟨fun pins s σ H Q I h => wpAny_Call_Name_kw (ld_glob I (gl_of G hx.sc) (by rw [G.of.mg]; exact h3) ?_ hx.db)⟩
  obtain ⟨w, r, rfl, ok, rs, st⟩ := h
  exact PySem.W.callWith_K0 I.kIn (by rw [G.hK]; exact h4) (run_fnA G rfl G.rm I ok .nil .nil (show Sat p.g w _ (run p.T p.fns k f [] w.mu) _ from st))
/-! methods -/
theorem formOk {es : List Expr} {env : Env} {pos : Pos} (h : es.all nostar = true) (hl : es.length < 30) : methodCallForm (es.length + 0) (backTo pos (starEach es env)) [] = true := by
  unfold methodCallForm
  have h1 : ∀ {es : List Expr}, es.all nostar = true → ((backTo pos (starEach es env)).all fun x => !x.1) = true := by
    intro es
    induction es with
    | nil => intro _; rfl
    | cons e es ih =>
      intro h
      obtain ⟨h1, h2⟩ := Bool.and_eq_true_iff.mp h
      rw [star1 h1]
      exact ih h2
  rw [h1 h]
  simp
  exact hl
theorem ht_of {o : Expr} {env : Env} {m : Str} {apos pos : Pos} {es : List Expr} (h0 : noCall0 o = true) (h1 : es.all nostar = true) (h2 : es.length < 30) (h3 : (apos.endLine == pos.line) = true) :
    eval (.Call (.Attribute o m apos) es [] pos) env = (do
      let ov ← eval o env
      standAt apos.atName
      let (f, first) ← holding [ov] (getMethod ov m (do return (← importBound o env).getD true))
      callWith pos f first (backTo pos (starEach es env)) (backToKw pos (keywordEach [] env))) := by
  show (do
    let ov ← attributeBase o m env (eval o env)
    standAt apos.atName
    methodCall o m apos pos env ov (es.length + 0) (backTo pos (starEach es env)) (backToKw pos (keywordEach [] env))) = _
  rw [attBase_of h0]
  have hf : methodCallForm (es.length + 0) (backTo pos (starEach es env)) (backToKw pos (keywordEach [] env)) = true := formOk h1 h2
  unfold methodCall
  rw [hf]
  unfold methodCallPos
  rw [h3]
  rfl
end
end Rs

/-! part RsX7 -/
set_option Elab.async false
set_option linter.all false
set_option maxRecDepth 100000
set_option maxHeartbeats 4000000
namespace Rs
open PySem L2
section
variable {p : Pgm} {Φ : Ctx} {X : Cx} {k : Nat} {W : WX} {a b c e : Expr} {ia ib ic ie : IE} {pos apos : Pos} {rest es : List Expr} {ies : IEs} {f : IF}
/-- what a method is found on -/
theorem met_of (G : Good p Φ X k W) {w : Wd} {x : D} {v : V} {g fi : Nat} (ok : Ok p.g w) (r : Rep p.g w.G w.la x v) (h : metD p.T w.mu x g = some fi) :
    ∃ ad c dx fvs, v = .ref ad ∧ w.H ad = some (.ins (p.C c) dx fvs) ∧ L2.Cls p.K (p.C c) ∧ Meth p.K (p.C c) (p.nm g) (p.fa fi) ∧ fvs.lookup (p.nm g) = none := by
  unfold metD at h
  cases ea : look w.mu x with
  | ins c fs =>
    rw [ea] at h
    cases hc : p.T[c]? with
    | none =>
      simp only [hc] at h
      cases h
    | some q1 =>
      simp only [hc] at h
      split at h
      · rename_i hh
        obtain ⟨h1, h2⟩ := Bool.and_eq_true_iff.mp hh
        obtain ⟨ad, dx, fvs, rfl, h3, h4, h5⟩ := repX ok r ea
        exact ⟨ad, c, dx, fvs, rfl, h3, (G.fx.cls c q1 hc).cls (Option.isNone_iff_eq_none.mp h1), ((G.fx.cls c q1 hc).met g fi h).1, (look_fs (g := p.g) (fun i j => G.fx.nmi i j) g h4 h5).2 (Option.isNone_iff_eq_none.mp h2)⟩
      · cases h
  | _ =>
    rw [ea] at h
    cases h
theorem se_met (G : Good p Φ X k W) {g : Nat} {m : Str} (hx : p.nm g = m) (h0 : noCall0 a = true) (h1 : es.all nostar = true) (h2 : es.length < 30) (h3 : (apos.endLine == pos.line) = true) (ha : SE p X k W a ia) (hes : SA p X k W es ies) (hnil : es = [] → ies = .nil) :
    SE p X k W (.Call (.Attribute a m apos) es [] pos) (.met ia g ies) := by
  subst hx
  refine ⟨fun pins s σ H Q I ⟨w, r, e, ok, rs, st⟩ => ?_⟩
  refine PySem.W.methodCall_KW (pl := (do return (← importBound a X.env).getD true)) (thn (ha.run pins s σ H (fun v H1 => ∃ (w1 : Wd) (x : D) (fi : Nat), w1.H = H1 ∧ Ok p.g w1 ∧ RelS p.g w1 r σ ∧ Rep p.g w1.G w1.la x v ∧ metD p.T w1.mu x g = some fi ∧
    Sat p.g w1 (wr p.g (WE W σ)) ((p.Es k ies r w1.mu).bind fun ds m => run p.T p.fns k fi (x :: ds) m) (pv1 p.g Q)) I ⟨w, r, e, ok, rs, (show Sat p.g w _ ((p.E k ia r w.mu).bind _) _ from st).bind.imp fun x w1 g1 ok1 s1 v1 r1 => ?_⟩) fun u s1 ⟨v, H1, I1, rv, w1, x, fi, e1, ok1, rs1, r1, hm, st1⟩ => ?_) (ht_of h0 h1 h2 h3)
  · have s1 : Sat p.g w1 _ (match metD p.T w1.mu x g with
      | some f => (p.Es k ies r w1.mu).bind fun ds m => run p.T p.fns k f (x :: ds) m
      | none => .bad) _ := s1
    cases hm : metD p.T w1.mu x g with
    | none =>
      rw [hm] at s1
      exact s1.elim
    | some fi =>
      rw [hm] at s1
      exact ⟨w1, x, fi, rfl, ok1, rs.grow g1, r1, hm, s1⟩
  · subst e1
    obtain ⟨ad, c, dx, fvs, rfl, h4, h5, h6, h7⟩ := met_of G ok1 r1 hm
    obtain rfl : u = Value.ref ad := rv
    refine getmeth_ok I1 h4 (by rw [G.hK]; exact h5) (by rw [G.hK]; exact h6) h7 ?_
    cases es with
    | nil =>
      rw [hnil rfl] at st1
      refine PySem.W.callWith_K0 (first := [.ref ad]) I1.kIn (by rw [G.hK]; exact h6.kp) ?_
      exact run_fnA G rfl G.rm I1 ok1 (.cons r1 .nil) (.cons rfl .nil) (show Sat p.g w1 _ (run p.T p.fns k fi [x] w1.mu) _ from st1)
    | cons e es =>
      obtain ⟨h8, h9⟩ := Bool.and_eq_true_iff.mp h1
      refine PySem.W.callWith_K (first := [.ref ad]) (h₀ := X.base) I1.ok.mod.kin (by rw [G.hK]; exact h6.kp) (thn (hes.run pos pins s1 σ w1.H (fun vs H2 => ∃ (w2 : Wd) (ds : List D), w2.H = H2 ∧ Ok p.g w2 ∧ Grow w1 w2 ∧ RepL p.g w2.G w2.la ds vs ∧ Sat p.g w2 (wr p.g (WE W σ)) (run p.T p.fns k fi (x :: ds) w2.mu) (pv1 p.g Q)) I1
        ⟨w1, r, rfl, ok1, rs1, st1.bind.imp fun ds w2 g2 ok2 s2 vs r2 => ⟨w2, ds, rfl, ok2, g2, r2, s2⟩⟩) fun us s2 ⟨vs, H2, I2, rv2, w2, ds, e2, ok2, g2, r2, st2⟩ => ⟨I2.kIn, ?_⟩) (star1 h8) (stars h9)
      subst e2
      exact run_fnA (us := .ref ad :: us) G rfl G.rm I2 ok2 (.cons (r1.grow g2) r2) (.cons rfl rv2) st2
/-! frozen -/
theorem frz_now {w : Wd} {n : Nat} {ad : Addr} {d : D} {m' : Mu} (ok : Ok p.g w) (hl : w.la[n]? = some ad) (h : frzD (.loc n) w.mu = .ok d m') : ∃ w', w'.H = w.H ∧ w'.mu = m' ∧ Grow w w' ∧ Ok p.g w' ∧ Rep p.g w'.G w'.la d (.ref ad) := by
  have h : (match w.mu[n]? with
    | some (.lst ds) => R.ok (D.lst ds) (w.mu.set n .dead)
    | some (.dct kvs) => R.ok (D.dct kvs) (w.mu.set n .dead)
    | some (.ins c fs) => R.ok (D.ins c fs) (w.mu.set n .dead)
    | _ => .bad) = .ok d m' := h
  cases hm : w.mu[n]? with
  | none =>
    rw [hm] at h
    cases h
  | some mo =>
    rw [hm] at h
    cases mo with
    | lst ds =>
      cases h
      obtain ⟨vs, h1, h2⟩ := ok.liv n ad _ hl hm
      have hG := ok.unG hl hm (by simp)
      have gr := Grow.freeze (o := .lst vs) hl hG
      exact ⟨⟨upd w.G ad (.lst vs), w.H, w.la, w.mu.set n .dead⟩, rfl, rfl, gr, ok.freeze hl hG h1, .lst (show upd w.G ad (.lst vs) ad = _ from upd_same) (h2.grow gr)⟩
    | dct kvs =>
      cases h
      obtain ⟨kws, h1, h2, h3⟩ := ok.liv n ad _ hl hm
      have hG := ok.unG hl hm (by simp)
      have gr := Grow.freeze (o := .dK kws) hl hG
      exact ⟨⟨upd w.G ad (.dK kws), w.H, w.la, w.mu.set n .dead⟩, rfl, rfl, gr, ok.freeze hl hG h1, .dct (show upd w.G ad (.dK kws) ad = _ from upd_same) h2 (h3.grow gr)⟩
    | ins c fs =>
      cases h
      obtain ⟨dx, fvs, h1, h2, h3⟩ := ok.liv n ad _ hl hm
      have hG := ok.unG hl hm (by simp)
      have gr := Grow.freeze (o := .ins (p.C c) dx fvs) hl hG
      exact ⟨⟨upd w.G ad (.ins (p.C c) dx fvs), w.H, w.la, w.mu.set n .dead⟩, rfl, rfl, gr, ok.freeze hl hG h1, .ins (show upd w.G ad (.ins (p.C c) dx fvs) ad = _ from upd_same) h2 (h3.grow gr)⟩
    | dead => cases h
theorem se_frz (ha : SE p X k W a ia) : SE p X k W a (.frz ia) := weakE ha fun σ H Q ⟨w, r, e, ok, rs, st⟩ => ⟨w, r, e, ok, rs, (show Sat p.g w _ ((p.E k ia r w.mu).bind _) _ from st).bind.imp fun x w1 g1 ok1 s1 v1 r1 => by
  have s1 : Sat p.g w1 _ (frzD x w1.mu) (pv1 p.g Q) := s1
  cases x with
  | loc n =>
    cases r1 with
    | loc hl =>
      cases hf : frzD (.loc n) w1.mu with
      | ok d m' =>
        obtain ⟨w', eH, em, gr, ok', rv⟩ := frz_now ok1 hl hf
        rw [hf] at s1
        rw [← eH]
        exact s1 w' em gr ok' _ rv
      | exc c fs m =>
        unfold frzD at hf
        dsimp only at hf
        split at hf <;> cases hf
      | bad =>
        rw [hf] at s1
        exact s1.elim
  | _ => exact Sat.val s1 ok1 r1⟩
/-! a new instance -/
theorem run_new (G : Good p Φ X k W) {c : Nat} {pins : List (Addr × Obj)} {σ : L2.St} {s : Shared} {w : Wd} {ds : List D} {vs : List V} {us : List Value} {Q : VK}
    (I : Inv X pins σ w.H s) (ok : Ok p.g w) (r : RepL p.g w.G w.la ds vs) (ru : Vals vs us) (st : Sat p.g w (wr p.g (WE W σ)) (newD p.T (run p.T p.fns k) c ds w.mu) (pv1 p.g Q)) : wpAny (model X.prog X.w) X.A (call (.ref (p.C c)) us) (EP X pins σ Q) X.xe s := by
  unfold newD at st
  cases hc : p.T[c]? with
  | none =>
    rw [hc] at st
    exact st.elim
  | some q =>
    simp only [hc] at st
    cases hi : (if q.exf.isNone then q.ini else none) with
    | none =>
      simp only [hi] at st
      exact st.elim
    | some fi =>
      simp only [hi] at st
      have hx : q.exf = none ∧ q.ini = some fi := by
        split at hi
        · rename_i z
          exact ⟨Option.isNone_iff_eq_none.mp z, hi⟩
        · cases hi
      obtain ⟨M, h, hf⟩ := (G.fx.cls c q hc).ini fi hx.2 hx.1
      have I2 := Inv.made (C := p.C c) I
      have hz1 : w.H (s.heap.objs.size + 1) = none := I.hok.fresh (Nat.le_succ _)
      have hz0 : w.H s.heap.objs.size = none := I.hok.fresh (Nat.le_refl _)
      have hne : s.heap.objs.size + 1 ≠ s.heap.objs.size := Nat.succ_ne_self _
      generalize hxx : s.heap.objs.size + 1 = x at *
      generalize hdd : s.heap.objs.size = dx at *
      have g1 := Grow.alien (o := .own x) hz0
      have o1 := ok.alien (o := .own x) hz0
      have hx1 : upd w.H dx (.own x) x = none := by rw [upd_ne hne]; exact hz1
      obtain ⟨hG, hla⟩ := ok.fresh hz1
      have g2 : Grow w ⟨w.G, upd (upd w.H dx (.own x)) x (.ins (p.C c) dx []), w.la, w.mu⟩ := g1.trans (Grow.alien (w := { w with H := upd w.H dx (.own x) }) hx1)
      have o2 : Ok p.g ⟨w.G, upd (upd w.H dx (.own x)) x (.ins (p.C c) dx []), w.la, w.mu⟩ := o1.alien (w := { w with H := upd w.H dx (.own x) }) hx1
      have hat : upd (upd w.H dx (.own x)) x (HO.ins (p.C c) dx []) x = some (.ins (p.C c) dx []) := upd_same
      have g3 : Grow w ⟨w.G, upd (upd w.H dx (.own x)) x (.ins (p.C c) dx []), w.la ++ [x], w.mu ++ [.ins c []]⟩ := Grow.place (w := ⟨w.G, upd (upd w.H dx (.own x)) x (.ins (p.C c) dx []), w.la, w.mu⟩) g2 hz1
      have o3 : Ok p.g ⟨w.G, upd (upd w.H dx (.own x)) x (.ins (p.C c) dx []), w.la ++ [x], w.mu ++ [.ins c []]⟩ := o2.place (by show upd (upd w.H dx (.own x)) x (HO.ins (p.C c) dx []) x ≠ none; rw [hat]; exact fun z => nomatch z) hG hla ⟨dx, [], hat, rfl, .nil⟩
      have hln : (w.la ++ [x])[w.mu.length]? = some x := by
        rw [← ok.len, List.getElem?_append_right (Nat.le_refl _), Nat.sub_self]
        rfl
      have st2 : Sat p.g ⟨w.G, upd (upd w.H dx (.own x)) x (.ins (p.C c) dx []), w.la ++ [x], w.mu ++ [.ins c []]⟩ (wr p.g (WE W σ)) (run p.T p.fns k fi (.loc w.mu.length :: ds) (w.mu ++ [.ins c []])) (pv1 p.g fun v H2 => v = .non ∧ Q (.ref x) H2) := by
        cases hr : run p.T p.fns k fi (.loc w.mu.length :: ds) (w.mu ++ [.ins c []]) with
        | ok d m1 =>
          rw [hr] at st
          cases d with
          | non =>
            intro w' em gr ok' v rv
            cases rv
            refine ⟨rfl, ?_⟩
            have hl' := gr.la _ _ hln
            by_cases hfin : q.fin = true
            · have st : Sat p.g w _ (if q.fin = true then frzD (.loc w.mu.length) m1 else .ok (.loc w.mu.length) m1) (pv1 p.g Q) := st
              rw [if_pos hfin] at st
              subst em
              cases hfz : frzD (.loc w.mu.length) w'.mu with
              | ok d m' =>
                obtain ⟨w2, eH, em2, gr2, ok2, rv2⟩ := frz_now ok' hl' hfz
                rw [hfz] at st
                rw [← eH]
                exact st w2 em2 ((g3.trans gr).trans gr2) ok2 _ rv2
              | exc c fs m =>
                unfold frzD at hfz
                dsimp only at hfz
                split at hfz <;> cases hfz
              | bad =>
                rw [hfz] at st
                exact st.elim
            · have st : Sat p.g w _ (if q.fin = true then frzD (.loc w.mu.length) m1 else .ok (.loc w.mu.length) m1) (pv1 p.g Q) := st
              rw [if_neg hfin] at st
              exact st w' em (g3.trans gr) ok' _ (.loc hl')
          | _ => exact st.elim
        | exc c fs m =>
          rw [hr] at st
          exact fun w' em gr ok' => st w' em (g3.trans gr) ok'
        | bad =>
          rw [hr] at st
          exact st.elim
      have FO := G.of.fn (G.tab k (Nat.le_refl k)) hf
      by_cases hl : (D.loc w.mu.length :: ds).length = h.ar
      · have hsp : spF p.g (Rs.run p.T p.fns k) fi h.ar (.ref x :: vs) (upd (upd w.H dx (.own x)) x (.ins (p.C c) dx [])) (fun v H2 => v = .non ∧ Q (.ref x) H2) (WE W σ) := ⟨_, .loc w.mu.length :: ds, rfl, o3, .cons (.loc hln) (r.grow g3), by rw [← hl, List.length_cons, List.length_cons, r.length], st2⟩
        have r2 : Vals (V.ref x :: vs) (Value.ref x :: us) := .cons rfl ru
        have hl2 := FO.len _ _ _ _ hsp
        have hb := G.fx.bnd fi h hf
        rw [← G.hK] at hb M
        subst hxx
        subst hdd
        refine wpAny_call (make_map (f := p.fa fi) I.kIn M.makes M.init (beq_iff_eq.mp M.fn) (codeAny_mono (FO.run _ X.stack _ _ ⟨Value.ref (s.heap.objs.size + 1) :: us, []⟩ (Value.ref (s.heap.objs.size + 1) :: us) _ _ (WE W σ) (Room.make G.room (p.C c) us [])
          (I2.env0.make (p.C c) us []) (by
            have z := hb _ (Value.ref (s.heap.objs.size + 1) :: us) I2.kIn (by rw [List.append_nil, ← r2.length]; exact hl2)
            simpa using z) r2 hsp) fun r s' hq' => ?_))
        cases r with
        | error e => exact passAt G.tk σ pins _ _ e s' I2 hq'
        | ok fl =>
          cases fl with
          | ret u =>
            obtain ⟨v, H', I3, rv, ev, q3⟩ := I2.after hq'
            subst ev
            exact ⟨rv, ⟨V.ref (s.heap.objs.size + 1), H', I3, rfl, q3⟩⟩
          | next => exact False.elim hq'
          | brk => exact False.elim hq'
          | cont => exact False.elim hq'
      · rw [run_len hf hl] at st2
        exact st2.elim
theorem se_new (G : Good p Φ X k W) {x : Str} {q : Pos} {ci : Nat} (hx : GlN Φ x (.cl ci)) (hs : (e :: es).all nostar = true) (ha : SA p X k W (e :: es) ies) : SE p X k W (.Call (.Name x q) (e :: es) [] pos) (.new ci ies) := by
  obtain ⟨h1, h2⟩ := Bool.and_eq_true_iff.mp hs
  obtain ⟨h3, h4, _⟩ := G.fx.gcl x ci hx.gl
  refine ⟨fun pins s σ H Q I h => wpAny_Call_Name_kw (ld_glob I (gl_of G hx.sc) (by rw [G.of.mg]; exact h3) ?_ hx.db)⟩
  obtain ⟨w, r, rfl, ok, rs, st⟩ := h
  refine PySem.W.callWith_K (h₀ := X.base) I.ok.mod.kin (by rw [G.hK]; exact h4) (thn (ha.run pos pins s σ w.H (fun vs H1 => ∃ (w1 : Wd) (ds : List D), w1.H = H1 ∧ Ok p.g w1 ∧ RepL p.g w1.G w1.la ds vs ∧ Sat p.g w1 (wr p.g (WE W σ)) (newD p.T (run p.T p.fns k) ci ds w1.mu) (pv1 p.g Q)) I
    ⟨w, r, rfl, ok, rs, (show Sat p.g w _ ((p.Es k ies r w.mu).bind _) _ from st).bind.imp fun ds w1 g1 ok1 s1 vs r1 => ⟨w1, ds, rfl, ok1, r1, s1⟩⟩) fun us s1 ⟨vs, H1, I1, rv, w1, ds, e1, ok1, r1, st1⟩ => ⟨I1.kIn, ?_⟩) (star1 h1) (stars h2)
  subst e1
  exact run_new G I1 ok1 r1 rv st1
end
end Rs

/-! part RsX8 -/
set_option Elab.async false
set_option linter.all false
set_option maxRecDepth 100000
set_option maxHeartbeats 4000000
namespace Rs
open PySem L2
section
variable {p : Pgm} {Φ : Ctx} {X : Cx} {k : Nat} {W : WX} {a b c e : Expr} {ia ib ic ie : IE} {pos apos : Pos} {rest es : List Expr} {ies : IEs} {f : IF}
/-! len -/
theorem inst_at {pins : List (Addr × Obj)} {σ : L2.St} {H : Hp} {s : Shared} {ad C dx : Addr} {fvs : List (Str × V)} (I : Inv X pins σ H s) (h : H ad = some (.ins C dx fvs)) : ∃ od, PySem.W.InstAt s.heap ad (PySem.W.instObj C dx) C (some od) := by
  obtain ⟨mA, J, _⟩ := ins_get I.hok h
  obtain ⟨od, J, _⟩ := J.look
  exact ⟨od, J⟩
theorem line62 : sizeLine < 2 ^ 62 := by rw [← line_eq]; rw [line_val]; decide
theorem len_v (G : Good p Φ X k W) {pins : List (Addr × Obj)} {σ : L2.St} {s : Shared} {w : Wd} {x : D} {v : V} {u : Value} {n : Nat} {Q : VK} (I : Inv X pins σ w.H s) (ok : Ok p.g w) (r : Rep p.g w.G w.la x v) (ru : RelV v u) (h : lenD (look w.mu x) = some n) (q : Q (.int n) w.H) :
    wpAny (model X.prog X.w) X.A (call (.builtin "len") [u]) (EP X pins σ Q) X.xe s := by
  have c1 := call_len (X := X) pins s σ w.H [v] [u] Q I (.cons ru .nil)
  have c2 := call_lenD (X := X) pins s σ w.H [v] [u] Q I (.cons ru .nil)
  rw [G.hK] at c1
  generalize ea : look w.mu x = A at h
  cases A with
  | lst ds =>
    obtain ⟨ad, vs, rfl, h1, h2⟩ := repL ok r ea
    cases h
    exact c1 ⟨_, _, rfl, .inl ⟨vs, .of h1, h2.length⟩, q⟩
  | tup ds =>
    obtain ⟨ad, vs, rfl, h1, h2⟩ := repT ok r ea
    cases h
    exact c1 ⟨_, _, rfl, .inr ⟨vs, h1, h2.length⟩, q⟩
  | scr ns =>
    obtain ⟨ad, rfl, h1⟩ := repR ok r ea
    cases h
    exact c1 ⟨_, _, rfl, .inl ⟨_, h1, by rw [List.length_map]⟩, q⟩
  | str z =>
    obtain ⟨rfl, _⟩ := repS r ea
    have h : (if z.length ≤ line then some z.length else none) = some n := h
    split at h
    · rename_i hl
      cases h
      exact c1 ⟨_, _, rfl, ⟨line_eq ▸ hl, rfl⟩, q⟩
    · cases h
  | dct kvs =>
    obtain ⟨ad, kws, rfl, h1, h2, h3⟩ := repD ok r ea
    cases h
    refine c2 ⟨ad, kws, rfl, h1, ?_⟩
    have z := congrArg List.length h2
    rw [List.length_map, List.length_map] at z
    rw [z]
    exact q
  | _ => cases h
theorem se_len (G : Good p Φ X k W) {g : Nat} {q : Pos} (hx : p.nm g = "__len__") (hn : BuN Φ "len") (hs : nostar a = true) (ha : SE p X k W a ia) : SE p X k W (.Call (.Name "len" q) [a] [] pos) (.len ia g) := by
  refine ⟨fun pins s σ H Q I ⟨w, r, e, ok, rs, st⟩ => wpAny_Call_Name_kw (ld_blt I (gl_of G hn.1) (bu_of G hn.2) (by rfl) ?_ (by decide) (by decide))⟩
  refine PyProof.Rows.callWith_builtin1 (thn ((pa_cons ha pa_nil (star1 hs)).run pos pins s σ H (fun vs H1 => ∃ (w1 : Wd) (x : D) (v : V), vs = [v] ∧ w1.H = H1 ∧ Ok p.g w1 ∧ Rep p.g w1.G w1.la x v ∧
    Sat p.g w1 (wr p.g (WE W σ)) (match metD p.T w1.mu x g with
      | some f => (match run p.T p.fns k f [x] w1.mu with
        | .ok (.int n) m1 => lenG n m1
        | .exc c fs m => .exc c fs m
        | _ => .bad)
      | none => .opt ((lenD (look w1.mu x)).map fun (n : Nat) => D.int (n : Int)) w1.mu) (pv1 p.g Q)) I ⟨w, r, e, ok, rs, (show Sat p.g w _ ((p.E k ia r w.mu).bind _) _ from st).bind.imp fun x w1 g1 ok1 s1 v1 r1 => ⟨w1, x, v1, rfl, rfl, ok1, r1, s1⟩⟩) fun us s1 ⟨vs, H1, I1, rv, w1, x, v, e0, e1, ok1, r1, st1⟩ => ?_) (star1 hs) rfl
  subst e0 e1
  obtain ⟨u, rfl, ru⟩ := vals1 rv
  cases hm : metD p.T w1.mu x g with
  | none =>
    rw [hm] at st1
    obtain ⟨d, hd, qd⟩ := Sat.opt st1 ok1
    obtain ⟨n, hl, rfl⟩ := Option.map_eq_some_iff.mp hd
    exact len_v G I1 ok1 r1 ru hl (qd _ (.int _))
  | some fi =>
    rw [hm] at st1
    obtain ⟨ad, c, dx, fvs, rfl, h4, h5, h6, h7⟩ := met_of G ok1 r1 hm
    cases ru
    obtain ⟨od, J⟩ := inst_at I1 h4
    obtain ⟨m, hF⟩ := I1.fr
    refine PySem.W.len_K hF I1.ok.mod.kin J (by rw [G.hK, ← hx]; exact h6.at_) (by rw [G.hK]; exact h6.fn) ?_
    refine thn (run_fnA (A := X.A.in1) G rfl G.room.in1 I1 ok1 (.cons r1 .nil) (.cons rfl .nil) (Q := fun v H' => ∃ n : Int, v = .int n ∧ (0 ≤ n ∧ n < 2 ^ 62) ∧ Q (.int n) H') ?_) fun u s2 ⟨v2, H2, I2, rv2, n, e2, hn2, q2⟩ => ?_
    · have st1 : Sat p.g w1 (wr p.g (WE W σ)) (match run p.T p.fns k fi [x] w1.mu with
        | .ok (.int n) m1 => lenG n m1
        | .exc c fs m => .exc c fs m
        | _ => .bad) (pv1 p.g Q) := st1
      cases hr : run p.T p.fns k fi [x] w1.mu with
      | ok d m1 =>
        rw [hr] at st1
        cases d with
        | int n =>
          have st1 : Sat p.g w1 (wr p.g (WE W σ)) (lenG n m1) (pv1 p.g Q) := st1
          unfold lenG at st1
          rw [big_val] at st1
          split at st1
          · rename_i hh
            intro w' em gr ok' v rv
            cases rv
            exact ⟨n, rfl, hh, st1 w' em gr ok' _ (.int n)⟩
          · exact st1.elim
        | _ => exact st1.elim
      | exc c fs m1 =>
        rw [hr] at st1
        exact st1
      | bad =>
        rw [hr] at st1
        exact st1.elim
    · subst e2
      obtain ⟨t, rfl⟩ := rv2
      refine ⟨⟨hn2.1, by omega⟩, ⟨.int n, H2, I2.tok _, ⟨_, rfl⟩, q2⟩⟩
/-! str -/
theorem str_v (G : Good p Φ X k W) {pins : List (Addr × Obj)} {σ : L2.St} {s : Shared} {w : Wd} {x : D} {v : V} {u : Value} {z : Str} {Q : VK} (I : Inv X pins σ w.H s) (ok : Ok p.g w) (r : Rep p.g w.G w.la x v) (ru : RelV v u) (h : strD x = some z) (q : Q (.str z) w.H) :
    wpAny (model X.prog X.w) X.A (call (.type "str") [u]) (EP X pins σ Q) X.xe s := by
  cases r with
  | str y =>
    have h : (if y.length ≤ line then some y else none) = some z := h
    split at h
    · cases h
      exact SkE.call_str_str (X := X) pins s σ w.H [.str _] [u] Q I (.cons ru .nil) ⟨_, rfl, q⟩
    · cases h
  | int i =>
    have h : (if i.natAbs.log2 < 1920 then some (toString i : Str) else none) = some z := h
    split at h
    · rename_i hl
      cases h
      exact call_str_int (X := X) pins s σ w.H [.int i] [u] Q I (.cons ru .nil) ⟨i, rfl, hl, q⟩
    · cases h
  | _ => cases h
theorem se_st (G : Good p Φ X k W) {g : Nat} {q : Pos} (hx : p.nm g = "__str__") (hn : BuN Φ "str") (hs : nostar a = true) (ha : SE p X k W a ia) : SE p X k W (.Call (.Name "str" q) [a] [] pos) (.str ia g) := by
  refine ⟨fun pins s σ H Q I ⟨w, r, e, ok, rs, st⟩ => wpAny_Call_Name_kw (ld_blt I (gl_of G hn.1) (bu_of G hn.2) (by rfl) ?_ (by decide) (by decide))⟩
  refine PyProof.Rows.callWith_type1 (thn ((pa_cons ha pa_nil (star1 hs)).run pos pins s σ H (fun vs H1 => ∃ (w1 : Wd) (x : D) (v : V), vs = [v] ∧ w1.H = H1 ∧ Ok p.g w1 ∧ Rep p.g w1.G w1.la x v ∧
    Sat p.g w1 (wr p.g (WE W σ)) (match metD p.T w1.mu x g with
      | some f => (match run p.T p.fns k f [x] w1.mu with
        | .ok (.str n) m1 => .ok (.str n) m1
        | .exc c fs m => .exc c fs m
        | _ => .bad)
      | none => .opt ((strD x).map .str) w1.mu) (pv1 p.g Q)) I ⟨w, r, e, ok, rs, (show Sat p.g w _ ((p.E k ia r w.mu).bind _) _ from st).bind.imp fun x w1 g1 ok1 s1 v1 r1 => ⟨w1, x, v1, rfl, rfl, ok1, r1, s1⟩⟩) fun us s1 ⟨vs, H1, I1, rv, w1, x, v, e0, e1, ok1, r1, st1⟩ => ?_) (star1 hs) rfl
  subst e0 e1
  obtain ⟨u, rfl, ru⟩ := vals1 rv
  cases hm : metD p.T w1.mu x g with
  | none =>
    rw [hm] at st1
    obtain ⟨d, hd, qd⟩ := Sat.opt st1 ok1
    obtain ⟨n, hl, rfl⟩ := Option.map_eq_some_iff.mp hd
    exact str_v G I1 ok1 r1 ru hl (qd _ (.str _))
  | some fi =>
    rw [hm] at st1
    obtain ⟨ad, c, dx, fvs, rfl, h4, h5, h6, h7⟩ := met_of G ok1 r1 hm
    cases ru
    obtain ⟨od, J⟩ := inst_at I1 h4
    refine PySem.W.kso_call (Room.in2 G.room).units0 I1.kIn J (by rw [G.hK, ← hx]; exact h6.at_) (by rw [G.hK]; exact h6.fn) ?_
    refine thn (run_fnA (A := X.A.in1.in1) G rfl (Room.in2 G.room) I1 ok1 (.cons r1 .nil) (.cons rfl .nil) (Q := fun v H' => ∃ n : Str, v = .str n ∧ Q (.str n) H') ?_) fun u s2 ⟨v2, H2, I2, rv2, n, e2, q2⟩ => ?_
    · have st1 : Sat p.g w1 (wr p.g (WE W σ)) (match run p.T p.fns k fi [x] w1.mu with
        | .ok (.str n) m1 => .ok (.str n) m1
        | .exc c fs m => .exc c fs m
        | _ => .bad) (pv1 p.g Q) := st1
      cases hr : run p.T p.fns k fi [x] w1.mu with
      | ok d m1 =>
        rw [hr] at st1
        cases d with
        | str n =>
          intro w' em gr ok' v rv
          cases rv
          exact ⟨n, rfl, st1 w' em gr ok' _ (.str n)⟩
        | _ => exact st1.elim
      | exc c fs m1 =>
        rw [hr] at st1
        exact st1
      | bad =>
        rw [hr] at st1
        exact st1.elim
    · subst e2
      obtain ⟨t, rfl⟩ := rv2
      exact ⟨.str n, H2, I2, ⟨_, rfl⟩, q2⟩
/-! f-strings -/
theorem se_fmt (ha : SE p X k W a ia) : SE p X k W (.FormattedValue a (-1) none pos) (.fmt ia) :=
  weakE (pe_fmt ha) fun σ H Q ⟨w, r, e, ok, rs, st⟩ => ⟨w, r, e, ok, rs, (show Sat p.g w _ ((p.E k ia r w.mu).bind _) _ from st).bind.imp fun x w1 g1 ok1 s1 v1 r1 => by
    obtain ⟨d, hd, q⟩ := (show Sat p.g w1 _ (R.opt _ w1.mu) _ from s1).opt ok1
    obtain ⟨z, hz, rfl⟩ := Option.map_eq_some_iff.mp hd
    have q := q _ (.str _)
    cases r1 with
    | str y =>
      have h : (if y.length ≤ line then some y else none) = some z := hz
      split at h
      · rename_i hl
        cases h
        exact .inl ⟨_, rfl, line_eq ▸ hl, q⟩
      · cases h
    | int i =>
      have h : (if i.natAbs.log2 < 1920 then some (toString i : Str) else none) = some z := hz
      split at h
      · rename_i hl
        cases h
        exact .inr ⟨i, rfl, hl, q⟩
      · cases h
    | _ => cases hz⟩
noncomputable abbrev Pgm.Ej (p : Pgm) (k : Nat) (io : IEs) : Str → Ev → Mu → R Str := Rs.Ej p.T k (run p.T p.fns k) io
inductive SJ (p : Pgm) (X : Cx) (k : Nat) (W : WX) : List Expr → IEs → Prop
  | nil : SJ p X k W [] .nil
  | cons {e : Expr} {ie : IE} {es : List Expr} {ies : IEs} : SE p X k W e ie → SJ p X k W es ies → SJ p X k W (e :: es) (.cons ie ies)
theorem fst_pj {es : List Expr} {ies : IEs} (h : SJ p X k W es ies) : ∃ ts, PJ X es ts ∧ ∀ (acc : Str) (σ : L2.St) (H : Hp) (Q : Str → Hp → Prop), (∃ (w : Wd) (r : Ev), w.H = H ∧ Ok p.g w ∧ RelS p.g w r σ ∧ Sat p.g w (wr p.g (WE W σ)) (p.Ej k ies acc r w.mu) (fun z w' => Q z w'.H)) → tJs ts acc σ H Q := by
  induction h with
  | nil => exact ⟨[], .nil, fun acc σ H Q ⟨w, r, e, ok, rs, st⟩ => by
      subst e
      exact (show Sat p.g w _ (.ok acc w.mu) (fun z w' => Q z w'.H) from st).now ok⟩
  | @cons e ie es ies h1 h2 ih =>
    obtain ⟨ts, h3, h4⟩ := ih
    refine ⟨_ :: ts, .cons h1 h3, fun acc σ H Q ⟨w, r, e, ok, rs, st⟩ => ⟨w, r, e, ok, rs, (show Sat p.g w _ ((p.E k ie r w.mu).bind _) _ from st).bind.imp fun x w1 g1 ok1 s1 v1 r1 => ?_⟩⟩
    cases r1 with
    | str y =>
      have s1 : Sat p.g w1 _ (if (acc ++ y).length ≤ line then p.Ej k ies (acc ++ y) r w1.mu else .bad) (fun z w' => Q z w'.H) := s1
      split at s1
      · rename_i hl
        exact ⟨y, rfl, line_eq ▸ hl, h4 _ _ _ _ ⟨w1, r, rfl, ok1, rs.grow g1, s1⟩⟩
      · exact s1.elim
    | _ => exact s1.elim
theorem se_fst {v1 v2 : Expr} (h : SJ p X k W (v1 :: v2 :: rest) ies) : SE p X k W (.JoinedStr (v1 :: v2 :: rest) pos) (.fst ies) := by
  obtain ⟨ts, h1, h2⟩ := fst_pj h
  refine weakE (pe_joined h1) fun σ H Q ⟨w, r, e, ok, rs, st⟩ => h2 _ _ _ _ ⟨w, r, e, ok, rs, ?_⟩
  exact (show Sat p.g w _ ((p.Ej k ies Str.empty r w.mu).bind _) _ from st).bind.imp fun z w1 g1 ok1 s1 => Sat.val (d := .str z) s1 ok1 (.str z)
theorem se_fst1 (ha : SE p X k W a ia) : SE p X k W (.JoinedStr [a] pos) ia := pe_joined1 ha
/-! isinstance -/
def Ct.v (p : Pgm) : Ct → V × Value
  | .own c => (.ref (p.C c), .ref (p.C c))
  | .bool => (.ty "bool", .type "bool")
  | .int => (.ty "int", .type "int")
  | .str => (.ty "str", .type "str")
  | .tuple => (.ty "tuple", .type "tuple")
  | .list => (.ty "list", .type "list")
theorem ct_v (ct : Ct) : ClsV (ct.v p).1 (ct.v p).2 := by
  cases ct with
  | own c => exact .own _
  | _ => exact .ty _
/-- the name of a class, as a value -/
def CtN (Φ : Ctx) (x : Str) : Ct → Prop
  | .own c => GlN Φ x (.cl c)
  | .bool => BuN Φ x ∧ x = "bool"
  | .int => BuN Φ x ∧ x = "int"
  | .str => BuN Φ x ∧ x = "str"
  | .tuple => BuN Φ x ∧ x = "tuple"
  | .list => BuN Φ x ∧ x = "list"
theorem pe_ct (G : Good p Φ X k W) {x : Str} {q : Pos} {ct : Ct} (h : CtN Φ x ct) : PE X (.Name x q) (tC (ct.v p).1) := by
  cases ct with
  | own c =>
    obtain ⟨h3, _⟩ := G.fx.gcl x c h.gl
    exact pe_glob (gl_of G h.sc) (by rw [G.of.mg]; exact h3) rfl h.db
  | _ =>
    obtain ⟨hb, rfl⟩ := h
    exact pe_bltn (gl_of G hb.1) (bu_of G hb.2) (by rfl) rfl (by decide) (by decide)
theorem bui_kind {ct : Ct} (h : ∀ c, ct ≠ .own c) : ∃ t, t ∈ kinds ∧ (ct.v p).2 = .type t := by
  cases ct with
  | own c => exact absurd rfl (h c)
  | _ => exact ⟨_, by decide, rfl⟩
theorem isi_v (G : Good p Φ X k W) {x : D} {v : V} {w : Wd} {ct : Ct} {b : Bool} {ad : Nat} (hc : ∀ c, ct = .own c → (p.T[c]?).isSome = true) {pins : List (Addr × Obj)} {σ : L2.St} {s : Shared} (I : Inv X pins σ w.H s) (ok : Ok p.g w) (r : Rep p.g w.G w.la x v) (h : isiD p.T (look w.mu x) ct = some b) :
    ∃ t, TyX p.K w.H v t ∧ PySem.W.kitOne p.K t (ct.v p).2 = some b := by
  have bui : ∀ t, t ∈ kinds → (∀ c, ct = .own c → b = false) → (∀ t', (ct.v p).2 = .type t' → kitB t t' = some b) → PySem.W.kitOne p.K (.type t) (ct.v p).2 = some b := fun t ht h1 h2 => by
    cases ct with
    | own c =>
      rw [h1 c rfl]
      cases hq : p.T[c]? with
      | none =>
        have z := hc c rfl
        rw [hq] at z
        cases z
      | some q => exact (G.fx.cls c q hq).kib t ht
    | _ => exact kit_ty (h2 _ rfl)
  generalize ea : look w.mu x = A at h
  cases A with
  | non =>
    obtain ⟨rfl, _⟩ := repN r ea
    cases h
    exact ⟨_, .base .non, bui _ (by decide) (fun _ _ => rfl) (fun t' e => by cases ct <;> cases e <;> decide +kernel)⟩
  | bl z =>
    obtain ⟨rfl, _⟩ := repB r ea
    cases h
    exact ⟨_, .base (.bl z), bui _ (by decide) (fun c e => by subst e; rfl) (fun t' e => by cases ct <;> cases e <;> decide +kernel)⟩
  | int z =>
    obtain ⟨rfl, _⟩ := repI r ea
    cases h
    exact ⟨_, .base (.int z), bui _ (by decide) (fun c e => by subst e; rfl) (fun t' e => by cases ct <;> cases e <;> decide +kernel)⟩
  | str z =>
    obtain ⟨rfl, _⟩ := repS r ea
    cases h
    exact ⟨_, .base (.str z), bui _ (by decide) (fun c e => by subst e; rfl) (fun t' e => by cases ct <;> cases e <;> decide +kernel)⟩
  | lst ds =>
    obtain ⟨ad, vs, rfl, h1, h2⟩ := repL ok r ea
    cases h
    exact ⟨_, .base (.lst h1), bui _ (by decide) (fun c e => by subst e; rfl) (fun t' e => by cases ct <;> cases e <;> decide +kernel)⟩
  | tup ds =>
    obtain ⟨ad, vs, rfl, h1, h2⟩ := repT ok r ea
    cases h
    have hb : PySem.W.kitOne p.K (.type "tuple") (ct.v p).2 = some (ct == .tuple) := bui _ (by decide) (fun c e => by subst e; rfl) (fun t' e => by cases ct <;> cases e <;> decide +kernel)
    rcases h1 with (h1 | ⟨o, h1⟩) | ⟨o, its, n, h1, h3, _⟩
    · exact ⟨_, .base (.tup h1), hb⟩
    · exact ⟨_, .fTuple h1, hb⟩
    · exact ⟨_, .kTuple h1 h3, hb⟩
  | ins c fs =>
    obtain ⟨ad, dx, fvs, rfl, h3, h4, h5⟩ := repX ok r ea
    obtain ⟨q, hq, h⟩ := Option.bind_eq_some_iff.mp (show (p.T[c]?).bind _ = some b from h)
    split at h
    · rename_i hx
      have hx := Option.isNone_iff_eq_none.mp hx
      have F := G.fx.cls c q hq
      obtain ⟨f1, f2, f3, f4⟩ := F.ty hx
      refine ⟨_, .base (.ins h3 (F.cls hx) f1 f2 f3 f4), ?_⟩
      cases ct with
      | own c' =>
        cases h
        exact F.kit c' (hc c' rfl)
      | _ =>
        cases h
        exact F.kbi _ (by decide) hx
    · cases h
  | _ => cases h
theorem se_isi (G : Good p Φ X k W) {q q2 : Pos} {x : Str} {ct : Ct} (hn : BuN Φ "isinstance") (hs : nostar a = true) (hx : CtN Φ x ct) (ha : SE p X k W a ia) : SE p X k W (.Call (.Name "isinstance" q) [a, .Name x q2] [] pos) (.isi ia ct) := by
  have hc : ∀ c, ct = .own c → (p.T[c]?).isSome = true := fun c e => by
    subst e
    exact (G.fx.gcl x c (GlN.gl hx)).2.2
  refine ⟨fun pins s σ H Q I ⟨w, r, e, ok, rs, st⟩ => wpAny_Call_Name_kw (ld_blt I (gl_of G hn.1) (bu_of G hn.2) (by rfl) ?_ (by decide) (by decide))⟩
  refine PyProof.Rows.callWith_builtin1 (thn ((pa_cons ha (pa_cons (pe_ct G hx) pa_nil rfl) (star1 hs)).run pos pins s σ H (fun vs H1 => ∃ (w1 : Wd) (x : D) (v : V), vs = [v, (ct.v p).1] ∧ w1.H = H1 ∧ Ok p.g w1 ∧ Rep p.g w1.G w1.la x v ∧
    Sat p.g w1 (wr p.g (WE W σ)) (.opt ((isiD p.T (look w1.mu x) ct).map .bl) w1.mu) (pv1 p.g Q)) I ⟨w, r, e, ok, rs, (show Sat p.g w _ ((p.E k ia r w.mu).bind _) _ from st).bind.imp fun x w1 g1 ok1 s1 v1 r1 => ⟨w1, x, v1, rfl, rfl, ok1, r1, s1⟩⟩) fun us s1 ⟨vs, H1, I1, rv, w1, x, v, e0, e1, ok1, r1, st1⟩ => ?_) (star1 hs) rfl
  subst e0 e1
  obtain ⟨d, hd, qd⟩ := Sat.opt st1 ok1
  obtain ⟨b, hb, rfl⟩ := Option.map_eq_some_iff.mp hd
  obtain ⟨t, ht, hk⟩ := isi_v (ad := 0) G hc I1 ok1 r1 hb
  exact call_isi pins s1 σ w1.H _ us Q I1 rv ⟨v, _, t, _, b, rfl, ct_v ct, by rw [G.hK]; exact ht, by rw [G.hK]; exact hk, qd _ (.bl b)⟩
end
end Rs

/-! part RsX9 -/
set_option Elab.async false
set_option linter.all false
set_option maxRecDepth 100000
set_option maxHeartbeats 4000000
namespace Rs
open PySem L2
/-! targets -/
mutual
def slT : IT → List Nat
  | .nm i => [i]
  | .tp ts => slTs ts
def slTs : ITs → List Nat
  | .nil => []
  | .cons t ts => slT t ++ slTs ts
end
/-- the slots beside is stay -/
def Same (is : List Nat) (σ σ' : L2.St) : Prop := σ'.length = σ.length ∧ ∀ i, i ∉ is → σ'[i]? = σ[i]?
theorem Same.rfl' {is : List Nat} {σ : L2.St} : Same is σ σ := ⟨rfl, fun _ _ => rfl⟩
theorem Same.trans {is js : List Nat} {σ σ1 σ2 : L2.St} (a : Same is σ σ1) (b : Same js σ1 σ2) : Same (is ++ js) σ σ2 :=
  ⟨b.1.trans a.1, fun i h => (b.2 i fun z => h (List.mem_append.mpr (.inr z))).trans (a.2 i fun z => h (List.mem_append.mpr (.inl z)))⟩
theorem Same.wipe {is vs : List Nat} {σ σ' : L2.St} (h : Same is σ σ') (hs : ∀ i ∈ is, i ∈ vs) : L2.wipe σ' vs = L2.wipe σ vs := by
  apply List.ext_getElem?
  intro i
  by_cases hi : i ∈ vs
  · have key : ∀ (τ : L2.St) (ws : List Nat), i ∈ ws → (L2.wipe τ ws)[i]? = if i < τ.length then some none else none := by
      intro τ ws
      induction ws with
      | nil => intro z; cases z
      | cons w ws ih =>
        intro z
        show ((L2.wipe τ ws).set w none)[i]? = _
        by_cases hw : w = i
        · subst hw
          rw [List.getElem?_set_self']
          have hl := L2.wipe_length τ ws
          by_cases hlt : w < τ.length
          · rw [if_pos hlt, List.getElem?_eq_getElem (by rw [hl]; exact hlt)]
            rfl
          · rw [if_neg hlt, List.getElem?_eq_none (by rw [hl]; omega)]
            rfl
        · rw [List.getElem?_set_ne hw]
          exact ih (by
            rcases List.mem_cons.mp z with z | z
            · exact absurd z.symm hw
            · exact z)
    rw [key σ' vs hi, key σ vs hi, h.1]
  · rw [L2.wipe_out hi, L2.wipe_out hi]
    exact h.2 i fun z => hi (hs i z)
def tG (g : Gm) (t : IT) : TG := fun v σ H Q => ∃ (w : Wd) (r r' : Ev) (d : D), w.H = H ∧ Ok g w ∧ RelS g w r σ ∧ Rep g w.G w.la d v ∧ bindT t d r = some r' ∧ ∀ σ', RelS g w r' σ' → Same (slT t) σ σ' → Q σ' H
def tGs (g : Gm) (t : ITs) : TGs := fun vs σ H Q => ∃ (w : Wd) (r r' : Ev) (ds : List D), w.H = H ∧ Ok g w ∧ RelS g w r σ ∧ RepL g w.G w.la ds vs ∧ bindTs t ds r = some r' ∧ ∀ σ', RelS g w r' σ' → Same (slTs t) σ σ' → Q σ' H
theorem weakG {X : Cx} {e : Expr} {t t' : TG} (h : PG X e t) (f : ∀ v σ H Q, t' v σ H Q → t v σ H Q) : PG X e t' := ⟨fun pins s σ H v u Q I r q => h.run pins s σ H v u Q I r (f v σ H Q q)⟩
theorem weakGs {X : Cx} {e : List Expr} {t t' : TGs} (h : PGs X e t) (f : ∀ v σ H Q, t' v σ H Q → t v σ H Q) : PGs X e t' := ⟨fun pins s σ H v u Q I r q => h.run pins s σ H v u Q I r (f v σ H Q q)⟩
/-- a name that may be written -/
def StN (Φ : Ctx) (x : Str) : Prop := Φ.sc.names.lookup x = some .local ∨ (Φ.sc.names.lookup x = some .cell ∧ Φ.cel x = true)
section
variable {p : Pgm} {Φ : Ctx} {X : Cx} {k : Nat} {W : WX} {a b c e : Expr} {ia ib ic ie : IE} {pos apos : Pos} {rest es : List Expr} {ies : IEs} {f : IF} {t : IT} {ts : ITs}
theorem stN_loc (G : Good p Φ X k W) {x : Str} (h : StN Φ x) : L2.Loc X.env.scope x ∧ (X.fn x = true ∨ X.env.scope.names.lookup x = some .local) := by
  unfold L2.Loc
  rw [G.sc]
  rcases h with h | ⟨h, h2⟩
  · exact ⟨.inl h, .inr h⟩
  · exact ⟨.inr h, .inl (G.cel x h2)⟩
theorem sg_nm (G : Good p Φ X k W) {i : Nat} {x : Str} (hN : Φ.N[i]? = some x) (h : StN Φ x) : PG X (.Name x pos) (tG p.g (.nm i)) :=
  weakG (pg_name G.nd (by rw [G.N]; exact hN) (stN_loc G h).1 (stN_loc G h).2) fun v σ H Q ⟨w, r, r', d, e, ok, rs, rd, hb, q⟩ => by
    have hb : (if i < r.length then some (r.set i (some d)) else none) = some r' := hb
    split at hb
    · cases hb
      exact q _ (rs.set i rd) ⟨List.length_set, fun j hj => List.getElem?_set_ne fun z => hj (List.mem_singleton.mpr z.symm)⟩
    · cases hb
theorem sgs_nil : PGs X [] (tGs p.g .nil) := weakGs pgs_nil fun v σ H Q ⟨w, r, r', d, e, ok, rs, rd, hb, q⟩ => by
  cases d with
  | nil =>
    cases rd
    cases hb
    exact ⟨rfl, q _ rs .rfl'⟩
  | cons _ _ => cases hb
theorem sgs_cons (h1 : PG X e (tG p.g t)) (h2 : PGs X es (tGs p.g ts)) (hs : nostar e = true) : PGs X (e :: es) (tGs p.g (.cons t ts)) :=
  weakGs (pgs_cons h1 h2 (by cases e <;> first | rfl | cases hs)) fun v σ H Q ⟨w, r, r', d, e, ok, rs, rd, hb, q⟩ => by
    cases rd with
    | nil => cases hb
    | @cons d v ds vs rd1 rd2 =>
      obtain ⟨r1, hb1, hb2⟩ := Option.bind_eq_some_iff.mp (show (bindT t d r).bind (bindTs ts ds) = some r' from hb)
      exact ⟨_, _, rfl, w, r, r1, _, e, ok, rs, rd1, hb1, fun σ1 rs1 sm1 => ⟨w, r1, r', _, e, ok, rs1, rd2, hb2, fun σ2 rs2 sm2 => q σ2 rs2 (sm1.trans sm2)⟩⟩
theorem asg_len {env : Env} : ∀ es : List Expr, (assignEach es env).length = es.length
  | [] => rfl
  | e :: es => by
    have ih := asg_len (env := env) es
    cases e <;> exact congrArg (· + 1) ih
def lenTs : ITs → Nat
  | .nil => 0
  | .cons _ ts => lenTs ts + 1
theorem bindTs_len : ∀ {ts : ITs} {ds : List D} {r r' : Ev}, bindTs ts ds r = some r' → ds.length = lenTs ts
  | .nil, [], _, _, _ => rfl
  | .nil, _ :: _, _, _, h => by cases h
  | .cons _ _, [], _, _, h => by cases h
  | .cons t ts, d :: ds, r, r', h => by
    obtain ⟨r1, h1, h2⟩ := Option.bind_eq_some_iff.mp (show (bindT t d r).bind (bindTs ts ds) = some r' from h)
    exact congrArg (· + 1) (bindTs_len h2)
theorem asg_any {env : Env} : ∀ {es : List Expr}, es.all nostar = true → (assignEach es env).findIdx? (·.1) = none
  | [], _ => rfl
  | e :: es, h => by
    obtain ⟨h1, h2⟩ := Bool.and_eq_true_iff.mp h
    have ih := asg_any (env := env) h2
    have key : ∀ f : Value → Sem Unit, (((false, f) : Bool × (Value → Sem Unit)) :: assignEach es env).findIdx? (·.1) = none := fun f => by
      rw [List.findIdx?_cons, if_neg (by simp), ih]
      rfl
    cases e <;> first | exact key _ | cases h1
theorem sg_tp (G : Good p Φ X k W) {j : Nat} (h : PGs X es (tGs p.g ts)) (hs : es.all nostar = true) (hl : es.length = lenTs ts) : PG X (.Tuple es j pos) (tG p.g (.tp ts)) :=
  weakG (pg_tup (n := es.length) G.calm h (asg_len es) (asg_any hs)) fun v σ H Q ⟨w, r, r', d, e, ok, rs, rd, hb, q⟩ => by
    subst e
    rw [G.hK]
    cases rd with
    | tup h1 r1 =>
      have hb := (show bindTs ts _ r = some r' from hb)
      exact ⟨_, _, rfl, sqT_up ok.sub h1, by rw [← r1.length, bindTs_len hb, hl], w, r, r', _, rfl, ok, rs, r1, hb, q⟩
    | _ => cases hb
/-! what is walked -/
noncomputable abbrev Pgm.EI (p : Pgm) (k : Nat) (io : II) : Ev → Mu → R Sc := Rs.EI p.T k (run p.T p.fns k) io
/-- an iterator walks it, from w on -/
def SrcOk (g : Gm) (w : Wd) (sc : Sc) (J : It) : Prop := ∀ w', Grow w w' → Ok g w' → ∀ ds, sc.now w'.mu = some ds → ds.length = sc.len ∧
  (∀ i, ds.length ≤ i → J.stop i w'.H) ∧ (∀ i x, ds[i]? = some x → J.go i w'.H ∧ ∀ y H', J.yld i w'.H y H' → ∃ w2 : Wd, w2.H = H' ∧ w2.mu = w'.mu ∧ Grow w' w2 ∧ Ok g w2 ∧ Rep g w2.G w2.la x y)
theorem yld_same {g : Gm} {w' : Wd} {H' : Hp} {x : D} {y : V} (ok : Ok g w') (h : H' = w'.H ∧ Rep g w'.G w'.la x y) : ∃ w2 : Wd, w2.H = H' ∧ w2.mu = w'.mu ∧ Grow w' w2 ∧ Ok g w2 ∧ Rep g w2.G w2.la x y := ⟨w', h.1.symm, rfl, Grow.refl _, ok, h.2⟩
def tI (g : Gm) (sem : Ev → Mu → R Sc) (W : WX) : TI := fun σ H Q => ∃ (w : Wd) (r : Ev), w.H = H ∧ Ok g w ∧ RelS g w r σ ∧ Sat g w (wr g (WE W σ)) (sem r w.mu) (fun sc w' => ∀ J, SrcOk g w' sc J → Q J w'.H)
abbrev SI (p : Pgm) (X : Cx) (k : Nat) (W : WX) (tg e : Expr) (s : II) : Prop := PI X tg e (tI p.g (p.EI k s) W)
theorem src_lst {g : Gm} {w : Wd} {ad : Addr} {vs : List V} {ds : List D} (h : w.G ad = some (.lst vs)) (r : RepL g w.G w.la ds vs) : SrcOk g w (.its ds) (Itl g.K ad) := fun w' gr ok' es he => by
  cases he
  have h' := SqL.of (K := g.K) (ok'.sub _ _ (gr.G _ _ h))
  refine ⟨rfl, fun i hi => ⟨vs, h', by rw [← r.length]; exact hi⟩, fun i x hx => ?_⟩
  obtain ⟨v, hv, rv⟩ := r.get hx
  exact ⟨⟨vs, v, h', hv⟩, fun y H' ⟨e, hy⟩ => yld_same ok' ⟨e, by
    have z := hy vs h'
    rw [hv] at z
    cases z
    exact rv.grow gr⟩⟩
theorem src_tup {g : Gm} {w : Wd} {ad : Addr} {vs : List V} {ds : List D} (h : SqT g.K w.G ad vs) (r : RepL g w.G w.la ds vs) : SrcOk g w (.its ds) (Itt g.K ad) := fun w' gr ok' es he => by
  cases he
  have h' := sqT_up ok'.sub (sqT_up gr.G h)
  refine ⟨rfl, fun i hi => ⟨vs, h', by rw [← r.length]; exact hi⟩, fun i x hx => ?_⟩
  obtain ⟨v, hv, rv⟩ := r.get hx
  exact ⟨⟨vs, v, h', hv⟩, fun y H' ⟨e, hy⟩ => yld_same ok' ⟨e, by
    have z := hy vs h'
    rw [hv] at z
    cases z
    exact rv.grow gr⟩⟩
theorem src_str {g : Gm} {w : Wd} (z : Str) : SrcOk g w (.its (z.cps.toList.map fun c => .str ⟨#[c]⟩)) (Its z) := fun w' gr ok' es he => by
  cases he
  refine ⟨rfl, fun i hi => (by rw [List.length_map, Array.length_toList] at hi; exact hi), fun i x hx => ?_⟩
  rw [List.getElem?_map] at hx
  obtain ⟨c, hc, rfl⟩ := Option.map_eq_some_iff.mp hx
  have hc' : z.cps[i]? = some c := by rw [← Array.getElem?_toList]; exact hc
  refine ⟨(Array.getElem?_eq_some_iff.mp hc').1, fun y H' ⟨e, c', h1, h2⟩ => yld_same ok' ⟨e, ?_⟩⟩
  rw [hc'] at h1
  cases h1
  rw [h2]
  exact .str _
theorem src_plc {g : Gm} {w : Wd} {ad : Addr} {n len : Nat} (hl : w.la[n]? = some ad) : SrcOk g w (.plc n len) (Itl g.K ad) := fun w' gr ok' ds hd => by
  have hl' := gr.la _ _ hl
  have hd : (match w'.mu[n]? with
    | some (.lst es) => if es.length = len then some es else none
    | _ => none) = some ds := hd
  cases hm : w'.mu[n]? with
  | none =>
    rw [hm] at hd
    cases hd
  | some mo =>
    rw [hm] at hd
    cases mo with
    | lst es =>
      have hd : (if es.length = len then some es else none) = some ds := hd
      split at hd
      · rename_i hlen
        cases hd
        obtain ⟨vs, h1, h2⟩ := ok'.liv n ad _ hl' hm
        have h' := SqL.of (K := g.K) h1
        refine ⟨hlen, fun i hi => ⟨vs, h', by rw [← h2.length]; exact hi⟩, fun i x hx => ?_⟩
        obtain ⟨v, hv, rv⟩ := h2.get hx
        exact ⟨⟨vs, v, h', hv⟩, fun y H' ⟨e, hy⟩ => yld_same ok' ⟨e, by
          have z := hy vs h'
          rw [hv] at z
          cases z
          exact rv⟩⟩
      · cases hd
    | _ => cases hd
theorem src_rng {g : Gm} {w : Wd} (lo : Int) (n : Nat) : SrcOk g w (.its ((List.range n).map fun (i : Nat) => D.int (lo + (i : Int)))) (Itr lo n) := fun w' gr ok' es he => by
  cases he
  refine ⟨rfl, fun i hi => by simpa [Itr] using hi, fun i x hx => ?_⟩
  rw [List.getElem?_map] at hx
  obtain ⟨j, hj, rfl⟩ := Option.map_eq_some_iff.mp hx
  obtain ⟨h1, h2⟩ := List.getElem?_eq_some_iff.mp hj
  rw [List.getElem_range] at h2
  subst h2
  refine ⟨(by rw [List.length_range] at h1; exact h1), fun y H' ⟨e, h3⟩ => yld_same ok' ⟨e, ?_⟩⟩
  rw [h3]
  exact .int _
/-- the iterator of a list, a tuple, a text, as it is -/
def iAny (K : PySem.W.Frag) (tl : TE) : TI := fun σ H R => tl σ H fun x H1 => (∃ a, x = .ref a ∧ (∃ xs, SqL K H1 a xs) ∧ R (Itl K a) H1) ∨ (∃ a, x = .ref a ∧ (∃ xs, SqT K H1 a xs) ∧ R (Itt K a) H1) ∨ ∃ z, x = .str z ∧ R (Its z) H1
theorem pi_any {tg l : Expr} {tl : TE} (hl : PE X l tl) : PI X tg l (iAny X.K tl) := by
  refine ⟨fun pins s σ H R I h => ?_⟩
  refine thn (hl.run pins s σ H _ I h) fun v s1 ⟨x, H1, I1, r1, q1⟩ => ?_
  rcases q1 with ⟨a, e, ⟨xs, hq⟩, q⟩ | ⟨a, e, ⟨xs, hq⟩, q⟩ | ⟨z, e, q⟩
  · subst e
    cases r1
    obtain ⟨its, rv, p, hz⟩ := I1.list hq
    exact wpAny_pyIter_list p.isList (pi_one (tk := s1.toks) I1 _ (turn_list a _) ⟨_, Heap.get?_push_size _ rfl, rfl, rfl⟩ q)
  · subst e
    cases r1
    obtain ⟨its, rv, p, hz⟩ := I1.tuple hq
    exact wpAny_pyIter_tuple (show s1.heap.IsTuple a its.toArray from p) (pi_one (tk := s1.toks) I1 _ (turn_tuple a _) ⟨_, Heap.get?_push_size _ rfl, rfl, rfl⟩ q)
  · subst e
    obtain ⟨t, rfl⟩ := r1
    cases ha : z.cps.all (· < 128)
    · exact wpAny_pyIter_wide ha (pi_one (tk := s1.toks) I1 _ (turn_str _ z t "str_iterator" (.inr rfl)) ⟨_, Heap.get?_push_size _ rfl, rfl, rfl⟩ q)
    · exact wpAny_pyIter_ascii ha (pi_one (tk := s1.toks) I1 _ (turn_str _ z t "str_ascii_iterator" (.inl rfl)) ⟨_, Heap.get?_push_size _ rfl, rfl, rfl⟩ q)
theorem weakI {tg e : Expr} {t t' : TI} (h : PI X tg e t) (f : ∀ σ H Q, t' σ H Q → t σ H Q) : PI X tg e t' := ⟨fun pins s σ H Q I q => h.run pins s σ H Q I (f σ H Q q)⟩
theorem si_seq (G : Good p Φ X k W) {tg : Expr} (ha : SE p X k W a ia) : SI p X k W tg a (.seq ia) :=
  weakI (pi_any ha) fun σ H Q ⟨w, r, e, ok, rs, st⟩ => ⟨w, r, e, ok, rs, (show Sat p.g w _ ((p.E k ia r w.mu).bind _) _ from st).bind.imp fun x w1 g1 ok1 s1 v1 r1 => by
    rw [G.hK]
    have s1 : Sat p.g w1 _ (match x with
      | .loc n => (match w1.mu[n]? with
        | some (.lst ds) => R.ok (.plc n ds.length) w1.mu
        | _ => .bad)
      | x => .opt ((itemsD x).map .its) w1.mu) (fun sc w' => ∀ J, SrcOk p.g w' sc J → Q J w'.H) := s1
    cases r1 with
    | loc hl =>
      rename_i n ad _
      dsimp only at s1
      cases hm : w1.mu[n]? with
      | none =>
        rw [hm] at s1
        exact s1.elim
      | some mo =>
        rw [hm] at s1
        cases mo with
        | lst ds =>
          obtain ⟨vs, h1, h2⟩ := ok1.liv n ad _ hl hm
          exact .inl ⟨ad, rfl, ⟨vs, .of h1⟩, Sat.now s1 ok1 _ (src_plc hl)⟩
        | _ => exact s1.elim
    | lst h1 r1 => exact .inl ⟨_, rfl, ⟨_, .of (ok1.sub _ _ h1)⟩, (Sat.now (a := Sc.its _) s1 ok1) _ (src_lst h1 r1)⟩
    | tup h1 r1 => exact .inr (.inl ⟨_, rfl, ⟨_, sqT_up ok1.sub h1⟩, (Sat.now (a := Sc.its _) s1 ok1) _ (src_tup h1 r1)⟩)
    | str z => exact .inr (.inr ⟨z, rfl, (Sat.now (a := Sc.its _) s1 ok1) _ (src_str z)⟩)
    | _ => exact s1.elim⟩
theorem rangeD_of {lo hi : Int} {ds : List D} (h : rangeD lo hi = some ds) : (-(2 ^ 62) ≤ lo ∧ lo < 2 ^ 62 ∧ -(2 ^ 62) ≤ hi ∧ hi < 2 ^ 62) ∧ ds = (List.range (hi - lo).toNat).map fun (i : Nat) => D.int (lo + (i : Int)) := by
  unfold rangeD at h
  rw [big_val] at h
  split at h
  · cases h
    rename_i h
    exact ⟨h, rfl⟩
  · cases h
theorem si_rng (G : Good p Φ X k W) {tg : Expr} {q : Pos} (hn : BuN Φ "range") (hs : nostar a = true) (ha : SE p X k W a ia) : SI p X k W tg (.Call (.Name "range" q) [a] [] pos) (.rng ia) :=
  weakI (pi_range1 (gl_of G hn.1) (bu_of G hn.2) (pa_cons ha pa_nil (star1 hs)) (star1 hs)) fun σ H Q ⟨w, r, e, ok, rs, st⟩ => ⟨w, r, e, ok, rs, (show Sat p.g w _ ((p.E k ia r w.mu).bind _) _ from st).bind.imp fun x w1 g1 ok1 s1 v1 r1 => by
    cases r1 with
    | int j =>
      have s1 : Sat p.g w1 _ (.opt ((rangeD 0 j).map .its) w1.mu) (fun sc w' => ∀ J, SrcOk p.g w' sc J → Q J w'.H) := s1
      obtain ⟨sc, h1, h2⟩ := s1.opt ok1
      obtain ⟨ds, h3, rfl⟩ := Option.map_eq_some_iff.mp h1
      obtain ⟨h4, rfl⟩ := rangeD_of h3
      refine ⟨j, rfl, h4.2.2.1, h4.2.2.2, h2 _ ?_⟩
      rw [show (j - 0).toNat = j.toNat by omega]
      exact src_rng 0 j.toNat
    | _ => exact s1.elim⟩
theorem si_rng2 (G : Good p Φ X k W) {tg : Expr} {q : Pos} (hn : BuN Φ "range") (hs : nostar a = true) (hs2 : nostar b = true) (ha : SE p X k W a ia) (hb : SE p X k W b ib) : SI p X k W tg (.Call (.Name "range" q) [a, b] [] pos) (.rng2 ia ib) :=
  weakI (pi_range2 (gl_of G hn.1) (bu_of G hn.2) (pa_cons ha (pa_cons hb pa_nil (star1 hs2)) (star1 hs)) (by rw [star1 hs, star1 hs2]; rfl) (star1 hs2)) fun σ H Q ⟨w, r, e, ok, rs, st⟩ => ⟨w, r, e, ok, rs, (show Sat p.g w _ ((p.E k ia r w.mu).bind _) _ from st).bind.imp fun x w1 g1 ok1 s1 v1 r1 => by
    refine ⟨w1, r, rfl, ok1, rs.grow g1, (show Sat p.g w1 _ ((p.E k ib r w1.mu).bind _) _ from s1).bind.imp fun y w2 g2 ok2 s2 v2 r2 => ?_⟩
    have r1 := r1.grow g2
    have s2 : Sat p.g w2 _ (match x, y with
      | .int i, .int j => .opt ((rangeD i j).map .its) w2.mu
      | _, _ => .bad) (fun sc w' => ∀ J, SrcOk p.g w' sc J → Q J w'.H) := s2
    cases r1 with
    | int i =>
      cases r2 with
      | int j =>
        obtain ⟨sc, h1, h2⟩ := Sat.opt s2 ok2
        obtain ⟨ds, h3, rfl⟩ := Option.map_eq_some_iff.mp h1
        obtain ⟨h4, rfl⟩ := rangeD_of h3
        exact ⟨i, j, rfl, h4, h2 _ (src_rng i _)⟩
      | _ => exact s2.elim
    | _ => exact s2.elim⟩
end
end Rs

/-! part RsX10 -/
set_option Elab.async false
set_option linter.all false
set_option maxRecDepth 100000
set_option maxHeartbeats 4000000
namespace Rs
open PySem L2
theorem R.bind_inv {α β : Type} {r : R α} {f : α → Mu → R β} {b : β} {m : Mu} (h : r.bind f = .ok b m) : ∃ a m1, r = .ok a m1 ∧ f a m1 = .ok b m := by
  cases r with
  | ok a m1 => exact ⟨a, m1, rfl, h⟩
  | exc c fs m1 => cases h
  | bad => cases h
theorem Sat.of_ok {α : Type} {g : Gm} {w : Wd} {V' : WR} {r : R α} {a : α} {m : Mu} {P : α → Wd → Prop} (h : r = .ok a m) (f : ∀ w', w'.mu = m → Grow w w' → Ok g w' → P a w') : Sat g w V' r P := by
  rw [h]
  exact f
section
variable {g : Gm} {w w0 : Wd}
theorem Ok.alienW {D : Addr} {o : HO} (ok : Ok g w) (hG : w.G D = none) (hl : D ∉ w.la) : Ok g { w with H := upd w.H D o } where
  sub := fun a u e => by
    show upd w.H D o a = some u
    rw [upd_ne (fun z => by rw [z] at e; rw [show w.G D = some u from e] at hG; cases hG)]
    exact ok.sub a u e
  len := ok.len
  nd := ok.nd
  liv := fun n a mo e1 e2 => (ok.liv n a mo e1 e2).ups (fun _ _ z => z) (fun _ _ z => z) (upd_ne fun z => hl (z ▸ List.mem_of_getElem? e1))
  sep := ok.sep
  inH := fun a ha e => by
    have hp : a ≠ D := fun z => hl (z ▸ ha)
    exact ok.inH a ha ((upd_ne hp).symm.trans e)
theorem Grow.alienW {D : Addr} {o : HO} (gr : Grow w0 w) (h : w0.H D = none) : Grow w0 { w with H := upd w.H D o } where
  G := gr.G
  la := gr.la
  newG := gr.newG
  newL := gr.newL
  keep := fun b u e e1 e2 => by
    show upd w.H D o b = some u
    rw [upd_ne (ne_of_none e h)]
    exact gr.keep b u e e1 e2
  there := fun b e => by
    by_cases hb : b = D
    · rw [hb]
      exact h
    · exact gr.there b ((upd_ne hb).symm.trans e)
/-- without a foreign object -/
def without1 (H : Hp) (D : Addr) : Hp := fun b => if b = D then none else H b
theorem without_ne {H : Hp} {D b : Addr} (h : b ≠ D) : without1 H D b = H b := if_neg h
theorem without_at {H : Hp} {D : Addr} : without1 H D D = none := if_pos rfl
theorem without_upd {H : Hp} {D : Addr} {o : HO} (h : H D = some o) : upd (without1 H D) D o = H := by
  funext b
  by_cases hb : b = D
  · rw [hb, upd_same, h]
  · rw [upd_ne hb, without_ne hb]
theorem Ok.drop {D : Addr} (ok : Ok g w) (hG : w.G D = none) (hl : D ∉ w.la) : Ok g { w with H := without1 w.H D } where
  sub := fun a u e => by
    show without1 w.H D a = some u
    rw [without_ne (fun z => by rw [z] at e; rw [show w.G D = some u from e] at hG; cases hG)]
    exact ok.sub a u e
  len := ok.len
  nd := ok.nd
  liv := fun n a mo e1 e2 => (ok.liv n a mo e1 e2).ups (fun _ _ z => z) (fun _ _ z => z) (without_ne fun z => hl (z ▸ List.mem_of_getElem? e1))
  sep := ok.sep
  inH := fun a ha e => by
    have hp : a ≠ D := fun z => hl (z ▸ ha)
    exact ok.inH a ha ((without_ne hp).symm.trans e)
theorem Grow.drop {D : Addr} (gr : Grow w0 w) (h : w0.H D = none) : Grow w0 { w with H := without1 w.H D } where
  G := gr.G
  la := gr.la
  newG := gr.newG
  newL := gr.newL
  keep := fun b u e e1 e2 => by
    show without1 w.H D b = some u
    rw [without_ne (ne_of_none e h)]
    exact gr.keep b u e e1 e2
  there := fun b e => by
    by_cases hb : b = D
    · rw [hb]
      exact h
    · exact gr.there b ((without_ne hb).symm.trans e)
/-- a foreign object stays foreign -/
structure Far (w : Wd) (D : Addr) (o : HO) : Prop where
  at_ : w.H D = some o
  G : w.G D = none
  la : D ∉ w.la
theorem Far.grow {w' : Wd} {D : Addr} {o : HO} (h : Far w D o) (gr : Grow w w') : Far w' D o where
  at_ := gr.keep D o h.at_ h.G h.la
  G := by
    cases q : w'.G D with
    | none => rfl
    | some u =>
      rcases gr.newG D (by rw [q]; exact fun z => nomatch z) with z | z | z
      · exact absurd h.G z
      · exact absurd z h.la
      · rw [h.at_] at z
        cases z
  la := fun hm => by
    rcases gr.newL D hm with z | z
    · exact h.la z
    · rw [h.at_] at z
      cases z
theorem Ok.far {D : Addr} {o : HO} (ok : Ok g w) (h : w.H D = none) : Far { w with H := upd w.H D o } D o := ⟨upd_same, (ok.fresh h).1, (ok.fresh h).2⟩
end
theorem RelS.wipe {g : Gm} {w : Wd} {r : Ev} {σ : L2.St} (h : RelS g w r σ) : ∀ vs : List Nat, RelS g w (wipeE r vs) (L2.wipe σ vs)
  | [] => h
  | v :: vs => by
    have ih := RelS.wipe h vs
    refine ⟨by show ((wipeE r vs).set v none).length = ((L2.wipe σ vs).set v none).length; rw [List.length_set, List.length_set]; exact ih.1, fun i d hi => ?_⟩
    have hi : ((wipeE r vs).set v none)[i]? = some (some d) := hi
    show ∃ u, ((L2.wipe σ vs).set v none)[i]? = some (some u) ∧ _
    by_cases hv : v = i
    · subst hv
      rw [List.getElem?_set_self'] at hi
      cases q : (wipeE r vs)[v]? with
      | none =>
        rw [q] at hi
        cases hi
      | some _ =>
        rw [q] at hi
        cases hi
    · rw [List.getElem?_set_ne hv] at hi ⊢
      exact ih.2 i d hi
theorem same_wipe {σ : L2.St} {vs : List Nat} : Same vs σ (L2.wipe σ vs) := ⟨L2.wipe_length σ vs, fun i h => L2.wipe_out h⟩
section
variable {p : Pgm} {Φ : Ctx} {X : Cx} {k : Nat} {W : WX} {a b c e : Expr} {ia ib ic ie : IE} {pos apos : Pos} {rest es : List Expr} {ies : IEs} {f : IF} {t : IT} {ts : ITs}
noncomputable abbrev Pgm.Eb (p : Pgm) (k : Nat) (io : IO) : Ev → Mu → R Bool := Rs.Eb p.T k (run p.T p.fns k) io
def tB' (g : Gm) (sem : Ev → Mu → R Bool) (W : WX) : TT := fun σ H Q => ∃ (w : Wd) (r : Ev), w.H = H ∧ Ok g w ∧ RelS g w r σ ∧ Sat g w (wr g (WE W σ)) (sem r w.mu) (fun b w' => Q b w'.H)
abbrev SBs (p : Pgm) (X : Cx) (k : Nat) (W : WX) (es : List Expr) (io : IO) : Prop := PTs X es (tB' p.g (p.Eb k io) W)
theorem weakBs {X : Cx} {es : List Expr} {t t' : TT} (h : PTs X es t) (f : ∀ σ H Q, t' σ H Q → t σ H Q) : PTs X es t' := ⟨fun pins s σ H Q I q => h.run pins s σ H Q I (f σ H Q q)⟩
theorem sb_no : SBs p X k W [] .no := weakBs pts_nil fun σ H Q ⟨w, r, e, ok, rs, st⟩ => by
  subst e
  exact (show Sat p.g w _ (.ok true w.mu) (fun b w' => Q b w'.H) from st).now ok
theorem sb_yes (h : ST p X k W e ie) : SBs p X k W [e] (.yes ie) := weakBs (pts_one h) fun σ H Q ⟨w, r, e, ok, rs, st⟩ => ⟨w, r, e, ok, rs, (show Sat p.g w _ ((p.E k ie r w.mu).bind _) _ from st).bind.imp fun x w1 g1 ok1 s1 v1 r1 => by
  cases r1 with
  | bl b => exact ⟨b, rfl, (show Sat p.g w1 _ (.ok b w1.mu) (fun b w' => Q b w'.H) from s1).now ok1⟩
  | _ => exact s1.elim⟩
def Ctx.blk (Φ : Ctx) (scope : Scope) : Ctx := ⟨Φ.N, relS scope Φ.sc, fun x => scope.names.lookup x == some .cell, Φ.gl⟩
theorem Good.blk (G : Good p Φ X k W) (s : Shared) (H : Hp) (scope : Scope) (C : Addr) (cl : List (Str × Addr)) (fp : List Addr) : Good p (Φ.blk scope) (X.blk s H scope (compEnvC scope cl C X.env) fp) k (fun _ _ _ _ => False) where
  of := ⟨G.of.prog, G.of.w, G.of.K, G.of.mg, G.of.base⟩
  N := G.N
  sc := by
    show relS scope X.env.scope = _
    rw [G.sc]
    rfl
  nd := G.nd
  calm := G.calm
  cel := fun x h => h
  room := G.room
  tab := G.tab
  tk := fun u s' ⟨_, _, _, _, _, _, _, _, _, _, _, _, _, _, _, _, h⟩ => h
  own := PassesOwn.never
  fx := G.fx
theorem turnsC_exc {f : D → Mu → R (Option D)} {sc : Sc} {c : Nat} {fs : List (Nat × D)} {m' : Mu} : ∀ (t i : Nat) (m : Mu), turnsC f sc t i m ≠ .exc c fs m'
  | 0, i, m, h => by
    unfold turnsC at h
    split at h <;> cases h
  | t + 1, i, m, h => by
    unfold turnsC at h
    split at h
    · split at h
      · split at h <;> cases h
      · cases h
    · cases h
theorem turnsC_zero {f : D → Mu → R (Option D)} {sc : Sc} {i : Nat} {m m' : Mu} {ds : List D} (h : turnsC f sc 0 i m = .ok ds m') : ds = [] ∧ m' = m ∧ ∃ es, sc.now m = some es := by
  unfold turnsC at h
  split at h
  · rename_i es he
    cases h
    exact ⟨rfl, rfl, es, he⟩
  · cases h
theorem turnsC_succ {f : D → Mu → R (Option D)} {sc : Sc} {t i : Nat} {m m' : Mu} {ds : List D} (h : turnsC f sc (t + 1) i m = .ok ds m') : ∃ es x o m1 ds1, sc.now m = some es ∧ es[i]? = some x ∧ f x m = .ok o m1 ∧ turnsC f sc t (i + 1) m1 = .ok ds1 m' ∧ ds = (match o with
    | some d => d :: ds1
    | none => ds1) := by
  unfold turnsC at h
  split at h
  · rename_i x hx
    obtain ⟨es, h1, h2⟩ := Option.bind_eq_some_iff.mp hx
    split at h
    · rename_i o m1 hf
      split at h
      · rename_i ds1 m2 ht
        cases h
        exact ⟨es, x, o, m1, ds1, h1, h2, hf, ht, rfl⟩
      · cases h
    · cases h
  · cases h
theorem cmp_imp {own : List Nat} {s : II} {ci : IO} (hsl : ∀ i ∈ slT t, i ∈ own) {σ : L2.St} {H : Hp} {Q : VK} (h : tF p.g (p.EF k (.cmp ie t s ci own)) W σ H Q) :
    tLc (tI p.g (p.EI k s) W) (tG p.g t) (tB' p.g (p.Eb k ci) fun _ _ _ _ => False) (tE p.g (p.E k ie) fun _ _ _ _ => False) own σ H Q := by
  obtain ⟨w, r, e, ok, rs, st⟩ := h
  refine ⟨w, r, e, ok, rs, (show Sat p.g w _ ((p.EI k s r w.mu).bind _) _ from st).bind.imp fun sc w1 g1 ok1 s1 J hJ D hD => ?_⟩
  have s1 : Sat p.g w1 _ ((turnsC (fun x m => match bindT t x (wipeE r own) with
    | some r1 => (p.Eb k ci r1 m).bind fun b m => (match b with
      | true => (p.E k ie r1 m).bind fun d m => .ok (some d) m
      | false => .ok none m)
    | none => .bad) sc sc.len 0 w1.mu).bind fun ds m => if ds.length ≤ line then R.ok (.lst ds) m else .bad) (fun mo w' => ∀ p' o, w'.H p' = none → MObj p.g w' o mo → Q (.ref p') (upd w'.H p' o)) := s1
  generalize hf : (fun x m => match bindT t x (wipeE r own) with
    | some r1 => (p.Eb k ci r1 m).bind fun b m => (match b with
      | true => (p.E k ie r1 m).bind fun d m => R.ok (some d) m
      | false => .ok none m)
    | none => .bad) = f at s1
  cases ht : turnsC f sc sc.len 0 w1.mu with
  | bad =>
    rw [ht] at s1
    exact s1.elim
  | exc c fs m => exact absurd ht (turnsC_exc _ _ _)
  | ok ds mE =>
    rw [ht] at s1
    have s1 : Sat p.g w1 _ (if ds.length ≤ line then R.ok (.lst ds) mE else .bad) (fun mo w' => ∀ p' o, w'.H p' = none → MObj p.g w' o mo → Q (.ref p') (upd w'.H p' o)) := s1
    split at s1
    · rename_i hlen
      refine ⟨fun i t H => ∃ (w2 : Wd) (accv : List V) (acc rest : List Rs.D), w2.H = H ∧ Ok p.g w2 ∧ Grow w1 w2 ∧ Far w2 D (.lst accv) ∧ RepL p.g w2.G w2.la acc accv ∧ turnsC f sc t i w2.mu = .ok rest mE ∧ acc ++ rest = ds ∧ i + t = sc.len, ⟨sc.len, { w1 with H := upd w1.H D (.lst []) }, [], [], ds, rfl, ok1.alien hD, Grow.alien hD, ok1.far hD, .nil, ht, rfl, by omega⟩, ?_⟩
      rintro i tt H2 ⟨w2, accv, acc, rest, rfl, ok2, gr2, far, racc, hrun, hds, hit⟩
      cases tt with
      | zero =>
        refine .inl ?_
        obtain ⟨rfl, rfl, es, hes⟩ := turnsC_zero hrun
        obtain ⟨h1, h2, h3⟩ := hJ w2 gr2 ok2 es hes
        refine ⟨h2 i (by omega), ?_⟩
        have z := s1 { w2 with H := without1 w2.H D } rfl (gr2.drop hD) (ok2.drop far.G far.la) D (.lst accv) without_at ⟨accv, rfl, by rw [← hds, List.append_nil]; exact racc⟩
        rw [without_upd far.at_] at z
        exact z
      | succ tt =>
        refine .inr ?_
        obtain ⟨es, x, o, m1, ds1, hes, hx, hfx, hrun1, hdd⟩ := turnsC_succ hrun
        obtain ⟨h1, h2, h3⟩ := hJ w2 gr2 ok2 es hes
        obtain ⟨h4, h5⟩ := h3 i x hx
        refine ⟨h4, fun H' => ∃ (w2 : Wd) (accv : List V) (acc rest : List Rs.D), w2.H = H' ∧ Ok p.g w2 ∧ Grow w1 w2 ∧ Far w2 D (.lst accv) ∧ RepL p.g w2.G w2.la acc accv ∧ turnsC f sc tt (i + 1) w2.mu = .ok rest mE ∧ acc ++ rest = ds ∧ (i + 1) + tt = sc.len, fun H' z => ⟨tt, Nat.lt_succ_self _, z⟩, fun y H' hy => ?_⟩
        obtain ⟨w2, rfl, em, gb, ok2, ry⟩ := h5 y H' hy
        have gr2 := gr2.trans gb
        have far := far.grow gb
        have racc := racc.grow gb
        rw [← em] at hfx
        subst hf
        dsimp only at hfx
        cases hbd : bindT t x (wipeE r own) with
        | none =>
          rw [hbd] at hfx
          cases hfx
        | some r1 =>
          rw [hbd] at hfx
          obtain ⟨b, mb, hEb, hrest⟩ := R.bind_inv hfx
          refine ⟨w2, wipeE r own, r1, x, rfl, ok2, ((rs.grow g1).grow gr2).wipe _, ry, hbd, fun σ' rs' sm => ⟨?_, w2, r1, rfl, ok2, rs', Sat.of_ok hEb fun w3 e3 g3 ok3 => ?_⟩⟩
          · exact (same_wipe.trans sm).wipe fun i hi => by
              rcases List.mem_append.mp hi with z | z
              · exact z
              · exact hsl i z
          · subst e3
            cases b with
            | true =>
              obtain ⟨d, md, hE, hfin⟩ := R.bind_inv hrest
              cases hfin
              refine ⟨w3, r1, rfl, ok3, rs'.grow g3, Sat.of_ok hE fun w4 e4 g4 ok4 v4 rv4 => ?_⟩
              subst e4
              have far4 := (far.grow g3).grow g4
              refine ⟨accv, far4.at_, ?_, { w4 with H := upd w4.H D (.lst (accv ++ [v4])) }, accv ++ [v4], acc ++ [d], ds1, rfl, ok4.alienW far4.G far4.la, ((gr2.trans g3).trans g4).alienW hD, ⟨upd_same, far4.G, far4.la⟩, ((racc.grow g3).grow g4).app (.one rv4), hrun1, by rw [List.append_assoc, ← hds, hdd]; rfl, by omega⟩
              have z : ds.length = acc.length + (ds1.length + 1) := by
                rw [← hds, hdd, List.length_append]
                rfl
              rw [← racc.length, ← line_eq]
              omega
            | false =>
              cases hrest
              exact ⟨w3, accv, acc, ds1, rfl, ok3, gr2.trans g3, far.grow g3, racc.grow g3, hrun1, by rw [← hds, hdd], by omega⟩
    · exact s1.elim
theorem sf_cmp (G : Good p Φ X k W) {tg iter : Expr} {ifs : List Expr} {scope : Scope} {own : List (Str × Nat)} {s : II} {ci : IO} (hb : BlkOk Φ.N Φ.sc scope own) (hn : noSet iter = true) (hsl : ∀ i ∈ slT t, i ∈ own.map (·.2))
    (hi : SI p X k W tg iter s) (hg : ∀ Y W', Good p (Φ.blk scope) Y k W' → PG Y tg (tG p.g t)) (hc : ∀ Y W', Good p (Φ.blk scope) Y k W' → SBs p Y k W' ifs ci) (he : ∀ Y W', Good p (Φ.blk scope) Y k W' → SE p Y k W' e ie) :
    SF p X k W (.ListComp e [⟨tg, iter, ifs, 0⟩] scope pos) (.cmp ie t s ci (own.map (·.2))) :=
  weakE (pe_lc (own := own) G.calm G.nd hi (by rw [G.N, G.sc]; exact hb) (fun s H C cl fp => hg _ _ (G.blk s H scope C cl fp)) (fun s H C cl fp => hc _ _ (G.blk s H scope C cl fp)) (fun s H C cl fp => he _ _ (G.blk s H scope C cl fp)) (folded_of hn)) fun σ H Q q => cmp_imp hsl q
end
end Rs

/-! part RsX11 -/
set_option Elab.async false
set_option linter.all false
set_option maxRecDepth 100000
set_option maxHeartbeats 4000000
namespace Rs
open PySem L2
def KVR (g : Gm) (G : Hp) (la : List Addr) (kvs : List (Key × D)) (kws : List (Key × V)) : Prop := kws.map (·.1) = kvs.map (·.1) ∧ RepL g G la (kvs.map (·.2)) (kws.map (·.2))
section
variable {g : Gm} {G : Hp} {la : List Addr}
theorem KVR.app {kvs lvs : List (Key × D)} {kws lws : List (Key × V)} (h : KVR g G la kvs kws) (h' : KVR g G la lvs lws) : KVR g G la (kvs ++ lvs) (kws ++ lws) :=
  ⟨by rw [List.map_append, List.map_append, h.1, h'.1], by rw [List.map_append, List.map_append]; exact h.2.app h'.2⟩
theorem KVR.any (q : Key) : ∀ {kvs : List (Key × D)} {kws : List (Key × V)}, kws.map (·.1) = kvs.map (·.1) → (kws.any fun kv => decide (kv.1 = q)) = kvs.any fun kv => decide (kv.1 = q)
  | [], [], _ => rfl
  | [], _ :: _, h => by cases h
  | _ :: _, [], h => by cases h
  | a :: kvs, b :: kws, h => by
    have h1 : b.1 = a.1 := (List.cons.inj h).1
    have ih := KVR.any q (List.cons.inj h).2
    simp only [List.any_cons, h1, ih]
theorem KVR.repl (q : Key) {d : D} {v : V} (r : Rep g G la d v) : ∀ {kvs : List (Key × D)} {kws : List (Key × V)}, KVR g G la kvs kws →
    KVR g G la (kvs.map fun kv => if kv.1 = q then (kv.1, d) else kv) (kws.map fun kv => if kv.1 = q then (kv.1, v) else kv)
  | [], [], _ => ⟨rfl, .nil⟩
  | [], _ :: _, h => by cases h.1
  | _ :: _, [], h => by cases h.1
  | a :: kvs, b :: kws, h => by
    have h1 : b.1 = a.1 := (List.cons.inj h.1).1
    obtain ⟨h2, h3⟩ := h
    cases h3 with
    | cons r1 r2 =>
      obtain ⟨i1, i2⟩ := KVR.repl q r ⟨(List.cons.inj h2).2, r2⟩
      obtain ⟨bk, bv⟩ := b
      obtain ⟨ak, ad⟩ := a
      have h1 : bk = ak := h1
      subst h1
      by_cases hk : bk = q
      · subst hk
        refine ⟨?_, ?_⟩
        · simpa using i1
        · simpa using RepL.cons r (by simpa using i2)
      · refine ⟨?_, ?_⟩
        · simpa [hk] using i1
        · simpa [hk] using RepL.cons r1 (by simpa using i2)
theorem KVR.put {q : Key} {d : D} {v : V} (r : Rep g G la d v) {kvs : List (Key × D)} {kws : List (Key × V)} (h : KVR g G la kvs kws) : KVR g G la (putD kvs q d) (putK kws q v) := by
  unfold putD putK
  rw [KVR.any q h.1]
  split
  · exact KVR.repl q r h
  · exact h.app ⟨rfl, .one r⟩
theorem KVR.merge : ∀ {more : List (Key × D)} {mws : List (Key × V)} {kvs : List (Key × D)} {kws : List (Key × V)}, KVR g G la more mws → KVR g G la kvs kws → KVR g G la (mergeD kvs more) (mergeK kws mws)
  | [], [], _, _, _, h => h
  | [], _ :: _, _, _, h, _ => by cases h.1
  | _ :: _, [], _, _, h, _ => by cases h.1
  | a :: more, b :: mws, kvs, kws, h, h' => by
    obtain ⟨h1, h2⟩ := h
    obtain ⟨bk, bv⟩ := b
    obtain ⟨ak, ad⟩ := a
    have h3 : bk = ak := (List.cons.inj h1).1
    subst h3
    cases h2 with
    | cons r1 r2 => exact KVR.merge (more := more) (mws := mws) ⟨(List.cons.inj h1).2, r2⟩ (KVR.put r1 h')
theorem KVR.zip : ∀ {ks : List Key} {ds : List D} {vs : List V}, RepL g G la ds vs → KVR g G la (ks.zip ds) (ks.zip vs)
  | [], _, _, _ => ⟨rfl, .nil⟩
  | _ :: _, _, _, .nil => ⟨rfl, .nil⟩
  | k :: ks, _, _, .cons r1 r2 => by
    obtain ⟨h1, h2⟩ := KVR.zip (ks := ks) r2
    exact ⟨congrArg (k :: ·) h1, .cons r1 h2⟩
end
section
variable {p : Pgm} {Φ : Ctx} {X : Cx} {k : Nat} {W : WX} {a b c e : Expr} {ia ib ic ie : IE} {pos apos : Pos} {rest es : List Expr} {ies : IEs} {f : IF} {t : IT} {ts : ITs}
inductive SDs (p : Pgm) (X : Cx) (k : Nat) (W : WX) : List (Option Expr) → List Expr → List Key → IEs → Prop
  | nil : SDs p X k W [] [] [] .nil
  | cons {ke ve : Expr} {key : Key} {iv : IE} {kes : List (Option Expr)} {ves : List Expr} {ks : List Key} {ivs : IEs} : PE X ke (tC (kV key)) → SE p X k W ve iv → SDs p X k W kes ves ks ivs → SDs p X k W (some ke :: kes) (ve :: ves) (key :: ks) (.cons iv ivs)
theorem SDs.pps {kes : List (Option Expr)} {ves : List Expr} {ks : List Key} {ivs : IEs} (h : SDs p X k W kes ves ks ivs) : ∃ trs, PPs X pos kes ves trs ∧ kes.all (·.isSome) = true ∧ kes.length = ves.length ∧ kes.length = ks.length ∧
    ∀ (σ : L2.St) (H : Hp) (Q : List (V × V) → Hp → Prop), (∃ (w : Wd) (r : Ev), w.H = H ∧ Ok p.g w ∧ RelS p.g w r σ ∧ Sat p.g w (wr p.g (WE W σ)) (p.Es k ivs r w.mu) (fun ds w' => ∀ vs, RepL p.g w'.G w'.la ds vs → Q ((ks.zip vs).map fun kv => (kV kv.1, kv.2)) w'.H)) → tPairs trs σ H Q := by
  induction h with
  | nil => exact ⟨[], pps_nil, rfl, rfl, rfl, fun σ H Q ⟨w, r, e, ok, rs, st⟩ => by
      subst e
      exact (show Sat p.g w _ (.ok [] w.mu) (fun ds w' => ∀ vs, RepL p.g w'.G w'.la ds vs → Q (([].zip vs).map fun kv => (kV kv.1, kv.2)) w'.H) from st).now ok [] .nil⟩
  | @cons ke ve key iv kes ves ks ivs h1 h2 h3 ih =>
    obtain ⟨trs, i1, i2, i3, i4, i5⟩ := ih
    refine ⟨_, pps_cons h1 h2 i1, by simpa using i2, by simp [i3], by simp [i4], fun σ H Q ⟨w, r, e, ok, rs, st⟩ => ?_⟩
    refine ⟨w, r, e, ok, rs, (show Sat p.g w _ ((p.E k iv r w.mu).bind _) _ from st).bind.imp fun x w1 g1 ok1 s1 v1 r1 => ?_⟩
    refine i5 σ w1.H _ ⟨w1, r, rfl, ok1, rs.grow g1, (show Sat p.g w1 _ ((p.Es k ivs r w1.mu).bind _) _ from s1).bind.imp fun ds w2 g2 ok2 s2 vs r2 => ?_⟩
    exact (show Sat p.g w2 _ (.ok (x :: ds) w2.mu) (fun ds w' => ∀ vs, RepL p.g w'.G w'.la ds vs → Q (((key :: ks).zip vs).map fun kv => (kV kv.1, kv.2)) w'.H) from s2).now ok2 (v1 :: vs) (.cons (r1.grow g2) r2)
theorem sf_dct {kes : List (Option Expr)} {ves : List Expr} {ks : List Key} {ivs : IEs} (h : SDs p X k W kes ves ks ivs) (h0 : kes ≠ []) (h15 : ks.length ≤ 15) : SF p X k W (.Dict kes ves pos) (.dct ks ivs) := by
  obtain ⟨trs, i1, i2, i3, i4, i5⟩ := h.pps (pos := pos)
  refine weakE (pe_disp i1 i2 i3 h0 (by omega)) fun σ H Q ⟨w, r, e, ok, rs, st⟩ q hq => ?_
  subst e
  have gr0 := Grow.alien (o := .dK []) hq
  refine i5 σ _ _ ⟨{ w with H := upd w.H q (.dK []) }, r, rfl, ok.alien hq, rs.grow gr0, ?_⟩
  have st : Sat p.g w _ ((p.Es k ivs r w.mu).bind fun vd m => if ks.length = vd.length ∧ ks.length ≤ 15 then R.ok (.dct (mergeD [] (ks.zip vd))) m else .bad) (fun mo w' => ∀ p' o, w'.H p' = none → MObj p.g w' o mo → Q (.ref p') (upd w'.H p' o)) := st
  show Sat p.g { w with H := upd w.H q (.dK []) } _ (p.Es k ivs r w.mu) _
  cases hE : p.Es k ivs r w.mu with
  | ok ds m1 =>
    rw [hE] at st
    have st : Sat p.g w _ (if ks.length = ds.length ∧ ks.length ≤ 15 then R.ok (.dct (mergeD [] (ks.zip ds))) m1 else .bad) (fun mo w' => ∀ p' o, w'.H p' = none → MObj p.g w' o mo → Q (.ref p') (upd w'.H p' o)) := st
    split at st
    · intro w1 em g1 ok1 vs r1
      have far := (ok.far (o := .dK []) hq).grow g1
      refine ⟨far.at_, ks.zip vs, rfl, Nat.le_trans (by rw [List.length_zip]; exact Nat.min_le_left _ _) h15, ?_⟩
      have km := KVR.merge (kvs := []) (kws := []) (KVR.zip (ks := ks) r1) ⟨rfl, .nil⟩
      have z := st { w1 with H := without1 w1.H q } em ((gr0.trans g1).drop hq) (ok1.drop far.G far.la) q (.dK (mergeK [] (ks.zip vs))) without_at ⟨_, rfl, km.1, km.2⟩
      rw [← upd_upd (o := .dK []), without_upd far.at_] at z
      exact z
    · exact st.elim
  | exc c fs m =>
    rw [hE] at st
    exact fun w' em gr ok' => st w' em (gr0.trans gr) ok'
  | bad =>
    rw [hE] at st
    exact st.elim
/-- {} -/
theorem sf_dct0 : SF p X k W (.Dict [] [] pos) (.dct [] .nil) := weakE pe_dnewK fun σ H Q ⟨w, r, e, ok, rs, st⟩ => fun q hq => by
  subst e
  have st : Sat p.g w _ (R.ok (.dct []) w.mu) (fun mo w' => ∀ p' o, w'.H p' = none → MObj p.g w' o mo → Q (.ref p') (upd w'.H p' o)) := st
  exact st.now ok q (.dK []) hq ⟨[], rfl, rfl, .nil⟩
end
end Rs

/-! part RsX12 -/
set_option Elab.async false
set_option linter.all false
set_option maxRecDepth 100000
set_option maxHeartbeats 4000000
namespace Rs
open PySem L2
section
variable {p : Pgm} {Φ : Ctx} {X : Cx} {k : Nat} {W : WX} {a b c e : Expr} {ia ib ic ie : IE} {pos apos : Pos} {rest es : List Expr} {ies : IEs} {f : IF} {t : IT} {ts : ITs}
/-! methods of texts and sequences -/
theorem strsD_of : ∀ {ds : List D} {ss : List Str}, strsD ds = some ss → ds = ss.map D.str
  | [], ss, h => by cases h; rfl
  | d :: ds, ss, h => by
    cases d with
    | str z =>
      obtain ⟨ms, h1, rfl⟩ := Option.map_eq_some_iff.mp (show (strsD ds).map (z :: ·) = some ss from h)
      rw [strsD_of h1]
      rfl
    | _ => cases h
theorem strs_vs {g : Gm} {G : Hp} {la : List Addr} : ∀ {ss : List Str} {vs : List V}, RepL g G la (ss.map D.str) vs → vs = ss.map V.str
  | [], _, .nil => rfl
  | n :: ns, _, .cons (.str _) r => by rw [strs_vs r]; rfl
theorem look_strX {w : Wd} {d : D} {z : Str} {v : V} {g : Gm} (r : Rep g w.G w.la d v) (h : look w.mu d = .str z) : v = .str z := (repS r h).1
theorem se_join (G : Good p Φ X k W) (h0 : noCall0 a = true) (hs : nostar b = true) (hl : (apos.endLine == pos.line) = true) (ha : SE p X k W a ia) (hb : SE p X k W b ib) : SE p X k W (.Call (.Attribute a "join" apos) [b] [] pos) (.bmt .join ia (.cons ib .nil)) :=
  weakE (pe_m1 PySem.F.slot_str_join PySem.F.type_str_join mt_join ha hb (star1 hs) (attBase_of h0) hl) fun σ H Q ⟨w, r, e, ok, rs, st⟩ => ⟨w, r, e, ok, rs, (show Sat p.g w _ ((p.E k ia r w.mu).bind _) _ from st).bind.imp fun x w1 g1 ok1 s1 v1 r1 => by
    have s1 : Sat p.g w1 _ (if bmTy .join (look w1.mu x) then (p.Es k (.cons ib .nil) r w1.mu).bind fun ds m => .opt (bmD .join (look m x) (ds.map (look m))) m else .bad) (pv1 p.g Q) := s1
    cases ea : look w1.mu x with
    | str z =>
      rw [ea] at s1
      obtain ⟨rfl, rfl⟩ := repS r1 ea
      refine ⟨⟨z, rfl⟩, w1, r, rfl, ok1, rs.grow g1, ?_⟩
      have s1 : Sat p.g w1 (wr p.g (WE W σ)) (((p.E k ib r w1.mu).bind fun y m => R.ok [y] m).bind fun ds m => .opt (bmD .join (.str z) (ds.map (look m))) m) (pv1 p.g Q) := s1
      have s2 : Sat p.g w1 (wr p.g (WE W σ)) ((p.E k ib r w1.mu).bind fun y m => R.opt (bmD .join (.str z) [look m y]) m) (pv1 p.g Q) := by
        cases hE : p.E k ib r w1.mu with
        | ok y m => rw [hE] at s1; exact s1
        | exc c fs m => rw [hE] at s1; exact s1
        | bad => rw [hE] at s1; exact s1
      refine s2.bind.imp fun y w2 g2 ok2 s3 v2 r2 => ?_
      obtain ⟨d, hd, q⟩ := s3.opt ok2
      rw [G.hK]
      cases eb : look w2.mu y with
      | lst ds =>
        rw [eb] at hd
        obtain ⟨ss, h1, h2⟩ := Option.bind_eq_some_iff.mp (show (strsD ds).bind _ = some d from hd)
        split at h2
        · rename_i hz
          cases h2
          obtain ⟨ad, vs, rfl, h3, h4⟩ := repL ok2 r2 eb
          rw [strsD_of h1] at h4
          have h5 := strs_vs h4
          subst h5
          exact ⟨z, ad, ss, rfl, rfl, .inl (.of h3), by rw [line_val] at hz; exact hz, q _ (.str _)⟩
        · cases h2
      | tup ds =>
        rw [eb] at hd
        obtain ⟨ss, h1, h2⟩ := Option.bind_eq_some_iff.mp (show (strsD ds).bind _ = some d from hd)
        split at h2
        · rename_i hz
          cases h2
          obtain ⟨ad, vs, rfl, h3, h4⟩ := repT ok2 r2 eb
          rw [strsD_of h1] at h4
          have h5 := strs_vs h4
          subst h5
          exact ⟨z, ad, ss, rfl, rfl, .inr h3, by rw [line_val] at hz; exact hz, q _ (.str _)⟩
        · cases h2
      | _ =>
        rw [eb] at hd
        cases hd
    | _ =>
      rw [ea] at s1
      exact s1.elim⟩
end
end Rs

/-! part RsS1 -/
set_option Elab.async false
set_option linter.all false
set_option maxRecDepth 100000
set_option maxHeartbeats 4000000
namespace Rs
open PySem L2
/-- what is known of the names for ever -/
def SubE (ρ r : Ev) : Prop := ρ.length = r.length ∧ ∀ (i : Nat) (d : D), ρ[i]? = some (some d) → r[i]? = some (some d)
theorem SubE.rel {g : Gm} {w : Wd} {ρ r : Ev} {σ : L2.St} (h : SubE ρ r) (q : RelS g w r σ) : RelS g w ρ σ := ⟨h.1.trans q.1, fun i d e => q.2 i d (h.2 i d e)⟩
abbrev wrA (g : Gm) (W : WX) (ρ : Ev) : WR := fun c fs w' => ∀ cls d σ', ExcR g w' c fs cls d → RelS g w' ρ σ' → W cls d σ' w'.H
def flP (g : Gm) (D : Ends) : Fl → Wd → Prop := fun fl w' => match fl with
  | .nx r' => ∀ σ', RelS g w' r' σ' → D.nx σ' w'.H
  | .rt d => ∀ v, Rep g w'.G w'.la d v → D.rt v w'.H
  | .ct r' => ∀ σ', RelS g w' r' σ' → D.ct σ' w'.H
  | .bk r' => ∀ σ', RelS g w' r' σ' → D.bk σ' w'.H
def tS (g : Gm) (sem : Ev → Mu → R Fl) (W : WX) (ρ : Ev) : TS := fun D σ H => ∃ (w : Wd) (r : Ev), w.H = H ∧ Ok g w ∧ RelS g w r σ ∧ SubE ρ r ∧ Sat g w (wrA g W ρ) (sem r w.mu) (flP g D)
theorem Sat.wr {α : Type} {g : Gm} {w : Wd} {W : WX} {ρ : Ev} {σ : L2.St} {x : R α} {P : α → Wd → Prop} (h : Sat g w (wrA g W ρ) x P) (rs : RelS g w ρ σ) : Sat g w (wr g (WE W σ)) x P := by
  cases x with
  | ok a m => exact h
  | exc c fs m => exact fun w' em gr ok' cls d he => h w' em gr ok' cls d σ he (rs.grow gr)
  | bad => exact h
noncomputable abbrev Pgm.S (p : Pgm) (k : Nat) (s : IS) : Ev → Mu → R Fl := Rs.S p.T k (run p.T p.fns k) s
noncomputable abbrev Pgm.Ss (p : Pgm) (k : Nat) (s : ISs) : Ev → Mu → R Fl := Rs.Ss p.T k (run p.T p.fns k) s
abbrev SS (p : Pgm) (X : Cx) (k : Nat) (W : WX) (ρ : Ev) (st : Stmt) (is : IS) : Prop := PS X st (tS p.g (p.S k is) W ρ)
abbrev SSs (p : Pgm) (X : Cx) (k : Nat) (W : WX) (ρ : Ev) (st : List Stmt) (is : ISs) : Prop := PSs X st (tS p.g (p.Ss k is) W ρ)
theorem weakS {X : Cx} {st : Stmt} {t t' : TS} (h : PS X st t) (f : ∀ D σ H, t' D σ H → t D σ H) : PS X st t' := ⟨fun pins s σ H D I q => h.run pins s σ H D I (f D σ H q)⟩
theorem weakSs {X : Cx} {st : List Stmt} {t t' : TS} (h : PSs X st t) (f : ∀ D σ H, t' D σ H → t D σ H) : PSs X st t' := ⟨fun pins s σ H D I q => h.run pins s σ H D I (f D σ H q)⟩
section
variable {p : Pgm} {Φ : Ctx} {X : Cx} {k : Nat} {W : WX} {ρ : Ev} {a b c e : Expr} {ia ib ic ie : IE} {pos apos : Pos} {rest es : List Expr} {ies : IEs} {f : IF} {t : IT} {ts : ITs} {tg : Expr}
/-- an expression ahead of a rest -/
theorem sE {sem : Ev → Mu → R D} {K : D → Mu → R Fl} {Dn : Ends} {w : Wd} {r : Ev} {σ : L2.St} {Q : VK} (ok : Ok p.g w) (rs : RelS p.g w r σ) (sb : SubE ρ r) (st : Sat p.g w (wrA p.g W ρ) ((sem r w.mu).bind K) (flP p.g Dn))
    (f : ∀ x w1, Grow w w1 → Ok p.g w1 → Sat p.g w1 (wrA p.g W ρ) (K x w1.mu) (flP p.g Dn) → pv1 p.g Q x w1) : tE p.g sem W σ w.H Q :=
  ⟨w, r, rfl, ok, rs, (st.bind.wr (sb.rel rs)).imp fun x w1 g1 ok1 s1 => f x w1 g1 ok1 s1⟩
theorem flNow {Dn : Ends} {w : Wd} {r : Ev} {σ : L2.St} (st : Sat p.g w (wrA p.g W ρ) (.ok (.nx r) w.mu) (flP p.g Dn)) (ok : Ok p.g w) (rs : RelS p.g w r σ) : Dn.nx σ w.H := (show ∀ σ', RelS p.g w r σ' → Dn.nx σ' w.H from st.now ok) σ rs
theorem ss_pas : SS p X k W ρ (.Pass pos) .pas := weakS ps_pass fun D σ H ⟨w, r, e, ok, rs, sb, st⟩ => by
  subst e
  exact flNow st ok rs
theorem ss_con : SS p X k W ρ (.Continue pos) .con := weakS ps_continue fun D σ H ⟨w, r, e, ok, rs, sb, st⟩ => by
  subst e
  exact (show ∀ σ', RelS p.g w r σ' → D.ct σ' w.H from Sat.now (a := Fl.ct r) st ok) σ rs
theorem ss_brk : SS p X k W ρ (.Break pos) .brk := weakS ps_break fun D σ H ⟨w, r, e, ok, rs, sb, st⟩ => by
  subst e
  exact (show ∀ σ', RelS p.g w r σ' → D.bk σ' w.H from Sat.now (a := Fl.bk r) st ok) σ rs
theorem ss_doc {x : Str} {j : Nat} {p2 : Pos} : SS p X k W ρ (.Expr (.Constant (.str x) j p2) pos) .pas := weakS ps_doc fun D σ H ⟨w, r, e, ok, rs, sb, st⟩ => by
  subst e
  exact flNow st ok rs
theorem ss_exp (he : SE p X k W e ie) (hs : noComp e = true) : SS p X k W ρ (.Expr e pos) (.exp ie) := weakS (ps_expr he (swaps_of hs)) fun D σ H ⟨w, r, e, ok, rs, sb, st⟩ => by
  subst e
  exact sE ok rs sb st fun x w1 g1 ok1 s1 v1 r1 => flNow s1 ok1 (rs.grow g1)
theorem ss_ret (he : SE p X k W e ie) : SS p X k W ρ (.Return (some e) pos) (.ret ie) := weakS (ps_ret he) fun D σ H ⟨w, r, e, ok, rs, sb, st⟩ => by
  subst e
  exact sE ok rs sb st fun x w1 g1 ok1 s1 v1 r1 => (show ∀ v, Rep p.g w1.G w1.la x v → D.rt v w1.H from Sat.now (a := Fl.rt x) s1 ok1) v1 r1
theorem ss_retN : SS p X k W ρ (.Return none pos) (.ret (.cst .non)) := weakS ps_retN fun D σ H ⟨w, r, e, ok, rs, sb, st⟩ => by
  subst e
  exact (show ∀ v, Rep p.g w.G w.la .non v → D.rt v w.H from Sat.now (a := Fl.rt .non) st ok) _ .non
theorem ss_if {sa sb' : List Stmt} {isa isb : ISs} (hc : ST p X k W c ic) (ha : SSs p X k W ρ sa isa) (hb : SSs p X k W ρ sb' isb) : SS p X k W ρ (.If c sa sb' pos) (.ifs ic isa isb) := weakS (ps_if hc ha hb) fun D σ H ⟨w, r, e, ok, rs, sb, st⟩ => by
  subst e
  refine sE ok rs sb st fun x w1 g1 ok1 s1 v1 r1 => ?_
  cases r1 with
  | bl b =>
    refine ⟨b, rfl, ?_⟩
    cases b with
    | true => exact ⟨w1, r, rfl, ok1, rs.grow g1, sb, s1⟩
    | false => exact ⟨w1, r, rfl, ok1, rs.grow g1, sb, s1⟩
  | _ => exact s1.elim
def noTup : Expr → Bool
  | .Tuple .. => false
  | .List .. => false
  | _ => true
theorem ss_asg (he : SE p X k W e ie) (hg : PG X tg (tG p.g t)) (hs : swapsWithSole [tg] e pos.line X.env = pure false) (hw : swappedStores [tg] e X.env = pure none) (h1 : nostar tg = true) : SS p X k W ρ (.Assign [tg] e pos) (.asg t ie) :=
  weakS (ps_asg he hg hs hw (by cases tg <;> first | rfl | cases h1)) fun D σ H ⟨w, r, e, ok, rs, sb, st⟩ => by
    subst e
    refine sE ok rs sb st fun x w1 g1 ok1 s1 v1 r1 => ?_
    obtain ⟨fl, hf, _⟩ := (show Sat p.g w1 _ (R.opt ((bindT t x r).map Fl.nx) w1.mu) _ from s1).opt ok1
    obtain ⟨r', hb, rfl⟩ := Option.map_eq_some_iff.mp hf
    have s1 : Sat p.g w1 _ (R.opt ((bindT t x r).map Fl.nx) w1.mu) (flP p.g D) := s1
    rw [hb] at s1
    exact ⟨w1, r, r', x, rfl, ok1, rs.grow g1, r1, hb, fun σ' rs' _ => flNow s1 ok1 rs'⟩
/-- x = a comprehension whose value goes straight to the name -/
theorem ss_setLc (G : Good p Φ X k W) {i : Nat} {y : Str} {py spos : Pos} {iter : Expr} {ifs : List Expr} {scope : Scope} {own : List (Str × Nat)} {s : II} {ci : IO} {md : IF → IE} (hm : md = IE.fz ∨ md = IE.mk) (hy : Φ.N[i]? = some y) (hyl : Φ.sc.names.lookup y = some .local) (hk : Φ.sc.kind = .function) (hl : (py.line == pos.line) = true)
    (hsc : (scope.names.any fun (n, k) => n == y && (k == .local || k == .cell)) = false) (hb : BlkOk Φ.N Φ.sc scope own) (hn : noSet iter = true) (hsl : ∀ i ∈ slT t, i ∈ own.map (·.2))
    (hi : SI p X k W tg iter s) (hg : ∀ Y W', Good p (Φ.blk scope) Y k W' → PG Y tg (tG p.g t)) (hc : ∀ Y W', Good p (Φ.blk scope) Y k W' → SBs p Y k W' ifs ci) (he : ∀ Y W', Good p (Φ.blk scope) Y k W' → SE p Y k W' e ie) :
    SS p X k W ρ (.Assign [.Name y py] (.ListComp e [⟨tg, iter, ifs, 0⟩] scope pos) spos) (.asg (.nm i) (md (.cmp ie t s ci (own.map (·.2))))) :=
  weakS (ps_setLc (own := own) G.calm G.nd (by rw [G.N]; exact hy) (by rw [G.sc]; exact hyl) (sw_true (by rw [G.sc]; exact hk) (by rw [G.sc]; exact hyl) hl hsc) hi (by rw [G.N, G.sc]; exact hb) (fun s H C cl fp => hg _ _ (G.blk s H scope C cl fp)) (fun s H C cl fp => hc _ _ (G.blk s H scope C cl fp)) (fun s H C cl fp => he _ _ (G.blk s H scope C cl fp)) (folded_of hn)) fun D σ H ⟨w, r, e, ok, rs, sb, st⟩ => by
    subst e
    refine cmp_imp hsl ?_
    have key : tE p.g (p.E k (md (.cmp ie t s ci (own.map (·.2))))) W σ w.H (fun x H1 => D.nx (σ.set i (some x)) H1) := sE ok rs sb st fun x w1 g1 ok1 s1 v1 r1 => by
      have s1 : Sat p.g w1 _ (R.opt ((bindT (.nm i) x r).map Fl.nx) w1.mu) (flP p.g D) := s1
      obtain ⟨fl, hf, _⟩ := s1.opt ok1
      obtain ⟨r', hb, rfl⟩ := Option.map_eq_some_iff.mp hf
      rw [hb] at s1
      have hb : (if i < r.length then some (r.set i (some x)) else none) = some r' := hb
      split at hb
      · cases hb
        exact flNow s1 ok1 ((rs.grow g1).set i r1)
      · cases hb
    rcases hm with rfl | rfl
    · exact fz_imp key
    · exact mk_imp key
end
end Rs

/-! part RsK -/
set_option Elab.async false
set_option linter.all false
set_option maxRecDepth 100000
set_option maxHeartbeats 4000000
namespace Rs
open PySem L2
/-! which names a statement may write -/
mutual
def asgS : IS → List Nat
  | .asg t _ => slT t
  | .par i j _ _ => [i, j]
  | .pr3 i j l _ _ _ => [i, j, l]
  | .aug i _ _ => [i]
  | .ifs _ a b => asgSs a ++ asgSs b
  | .for_ t _ b => slT t ++ asgSs b
  | _ => []
def asgSs : ISs → List Nat
  | .nil => []
  | .cons s ss => asgS s ++ asgSs ss
end
def kpE (i : Nat) (r r' : Ev) : Prop := r'[i]? = r[i]? ∧ r'.length = r.length
def flK (i : Nat) (r : Ev) : Fl → Prop
  | .nx r' => kpE i r r'
  | .ct r' => kpE i r r'
  | .bk r' => kpE i r r'
  | .rt _ => True
theorem kpE.rfl' {i : Nat} {r : Ev} : kpE i r r := ⟨rfl, rfl⟩
theorem kpE.trans {i : Nat} {r r1 r2 : Ev} (a : kpE i r r1) (b : kpE i r1 r2) : kpE i r r2 := ⟨b.1.trans a.1, b.2.trans a.2⟩
theorem flK.trans {i : Nat} {r r1 : Ev} {fl : Fl} (a : kpE i r r1) (b : flK i r1 fl) : flK i r fl := by
  cases fl <;> first | exact a.trans b | trivial
theorem kpE.set {i j : Nat} {r : Ev} {o : Option D} (h : i ≠ j) : kpE i r (r.set j o) := ⟨List.getElem?_set_ne fun z => h z.symm, List.length_set⟩
mutual
theorem bindT_keep {i : Nat} : ∀ {t : IT} {d : D} {r r' : Ev}, bindT t d r = some r' → i ∉ slT t → kpE i r r'
  | .nm j, d, r, r', h, hi => by
    have h : (if j < r.length then some (r.set j (some d)) else none) = some r' := h
    split at h
    · cases h
      exact kpE.set fun z => hi (List.mem_singleton.mpr z)
    · cases h
  | .tp ts, d, r, r', h, hi => by
    cases d with
    | tup xs => exact bindTs_keep (show bindTs ts xs r = some r' from h) hi
    | _ => cases h
theorem bindTs_keep {i : Nat} : ∀ {ts : ITs} {ds : List D} {r r' : Ev}, bindTs ts ds r = some r' → i ∉ slTs ts → kpE i r r'
  | .nil, [], _, _, h, _ => by cases h; exact kpE.rfl'
  | .nil, _ :: _, _, _, h, _ => by cases h
  | .cons _ _, [], _, _, h, _ => by cases h
  | .cons t ts, d :: ds, r, r', h, hi => by
    obtain ⟨r1, h1, h2⟩ := Option.bind_eq_some_iff.mp (show (bindT t d r).bind (bindTs ts ds) = some r' from h)
    have hi : i ∉ slT t ++ slTs ts := hi
    exact (bindT_keep h1 fun z => hi (List.mem_append.mpr (.inl z))).trans (bindTs_keep h2 fun z => hi (List.mem_append.mpr (.inr z)))
end
theorem turnsS_keep {i : Nat} {f : D → Ev → Mu → R Fl} {sc : Sc} (hf : ∀ x r m fl m', f x r m = .ok fl m' → flK i r fl) : ∀ (t j : Nat) (r : Ev) (m : Mu) (fl : Fl) (m' : Mu), turnsS f sc t j r m = .ok fl m' → flK i r fl
  | 0, j, r, m, fl, m', h => by
    unfold turnsS at h
    split at h
    · cases h
      exact kpE.rfl'
    · cases h
  | t + 1, j, r, m, fl, m', h => by
    unfold turnsS at h
    split at h
    · obtain ⟨fl1, m1, h1, h2⟩ := R.bind_inv h
      have k1 := hf _ _ _ _ _ h1
      cases fl1 with
      | nx r1 => exact flK.trans k1 (turnsS_keep hf t (j + 1) r1 m1 fl m' h2)
      | ct r1 => exact flK.trans k1 (turnsS_keep hf t (j + 1) r1 m1 fl m' h2)
      | bk r1 =>
        cases h2
        exact k1
      | rt d =>
        cases h2
        trivial
    · cases h
theorem opt_inv {α : Type} {o : Option α} {m m' : Mu} {a : α} (h : R.opt o m = .ok a m') : o = some a ∧ m' = m := by
  cases o with
  | none => cases h
  | some b =>
    cases h
    exact ⟨rfl, rfl⟩
section
variable {T : Tab} {k : Nat} {F : Nat → List D → Mu → R D} {i : Nat}
mutual
theorem S_keep : ∀ (s : IS) {r : Ev} {m : Mu} {fl : Fl} {m' : Mu}, S T k F s r m = .ok fl m' → i ∉ asgS s → flK i r fl
  | .asg t e, r, m, fl, m', h, hi => by
    obtain ⟨d, m1, _, h2⟩ := R.bind_inv (show (E T k F e r m).bind _ = .ok fl m' from h)
    obtain ⟨h3, _⟩ := opt_inv h2
    obtain ⟨r', h4, rfl⟩ := Option.map_eq_some_iff.mp h3
    exact bindT_keep h4 hi
  | .par a b x y, r, m, fl, m', h, hi => by
    obtain ⟨d, m1, _, h2⟩ := R.bind_inv (show (E T k F x r m).bind _ = .ok fl m' from h)
    obtain ⟨d2, m2, _, h3⟩ := R.bind_inv h2
    have h3 : (if a < r.length ∧ b < r.length then R.ok (.nx ((r.set a (some d)).set b (some d2))) m2 else .bad) = .ok fl m' := h3
    split at h3
    · cases h3
      have hi : i ∉ [a, b] := hi
      exact (kpE.set fun z => hi (by rw [z]; simp)).trans (kpE.set fun z => hi (by rw [z]; simp))
    · cases h3
  | .sta o f e, r, m, fl, m', h, hi => by
    obtain ⟨d, m1, _, h2⟩ := R.bind_inv (show (E T k F e r m).bind _ = .ok fl m' from h)
    obtain ⟨d2, m2, _, h3⟩ := R.bind_inv h2
    split at h3
    · cases h3
      exact kpE.rfl'
    · cases h3
  | .sti o j e, r, m, fl, m', h, hi => by
    obtain ⟨d, m1, _, h2⟩ := R.bind_inv (show (E T k F e r m).bind _ = .ok fl m' from h)
    obtain ⟨d2, m2, _, h3⟩ := R.bind_inv h2
    obtain ⟨d3, m3, _, h4⟩ := R.bind_inv h3
    split at h4
    · cases h4
      exact kpE.rfl'
    · cases h4
  | .aug j op e, r, m, fl, m', h, hi => by
    have h : (match r[j]? with
      | some (some x) => (E T k F e r m).bind fun y m => R.opt ((augD op x y).map fun d => Fl.nx (r.set j (some d))) m
      | _ => .bad) = .ok fl m' := h
    split at h
    · obtain ⟨d, m1, _, h2⟩ := R.bind_inv h
      obtain ⟨h3, _⟩ := opt_inv h2
      obtain ⟨r', h4, rfl⟩ := Option.map_eq_some_iff.mp h3
      exact kpE.set fun z => hi (List.mem_singleton.mpr z)
    · cases h
  | .exp e, r, m, fl, m', h, hi => by
    obtain ⟨d, m1, _, h2⟩ := R.bind_inv (show (E T k F e r m).bind _ = .ok fl m' from h)
    cases h2
    exact kpE.rfl'
  | .mut mm o a, r, m, fl, m', h, hi => by
    obtain ⟨d, m1, _, h2⟩ := R.bind_inv (show (E T k F o r m).bind _ = .ok fl m' from h)
    split at h2
    · obtain ⟨d2, m2, _, h3⟩ := R.bind_inv h2
      split at h3
      · cases h3
        exact kpE.rfl'
      · cases h3
    · cases h2
  | .ret e, r, m, fl, m', h, hi => by
    obtain ⟨d, m1, _, h2⟩ := R.bind_inv (show (E T k F e r m).bind _ = .ok fl m' from h)
    cases h2
    trivial
  | .ifs c a b, r, m, fl, m', h, hi => by
    obtain ⟨d, m1, _, h2⟩ := R.bind_inv (show (E T k F c r m).bind _ = .ok fl m' from h)
    have hi : i ∉ asgSs a ++ asgSs b := hi
    split at h2
    · exact Ss_keep a h2 fun z => hi (List.mem_append.mpr (.inl z))
    · exact Ss_keep b h2 fun z => hi (List.mem_append.mpr (.inr z))
    · cases h2
  | .for_ t s b, r, m, fl, m', h, hi => by
    obtain ⟨sc, m1, _, h2⟩ := R.bind_inv (show (EI T k F s r m).bind _ = .ok fl m' from h)
    have hi : i ∉ slT t ++ asgSs b := hi
    refine turnsS_keep (fun x r m fl m' hx => ?_) _ _ _ _ _ _ h2
    split at hx
    · rename_i r1 hb
      exact flK.trans (bindT_keep hb fun z => hi (List.mem_append.mpr (.inl z))) (Ss_keep b hx fun z => hi (List.mem_append.mpr (.inr z)))
    · cases hx
  | .rai c as, r, m, fl, m', h, hi => by
    obtain ⟨ds, m1, _, h2⟩ := R.bind_inv (show (Es T k F as r m).bind _ = .ok fl m' from h)
    split at h2
    · split at h2 <;> cases h2
    · cases h2
  | .sup c f as, r, m, fl, m', h, hi => by
    have h : (match r[0]? with
      | some (some x) => if clsOf m x = some c then (Es T k F as r m).bind fun ds m => (F f (x :: ds) m).bind fun _ m => R.ok (Fl.nx r) m else .bad
      | _ => .bad) = .ok fl m' := h
    split at h
    · split at h
      · obtain ⟨ds, m1, _, h2⟩ := R.bind_inv h
        obtain ⟨d, m2, _, h3⟩ := R.bind_inv h2
        cases h3
        exact kpE.rfl'
      · cases h
    · cases h
  | .pas, r, m, fl, m', h, hi => by
    cases (show R.ok (Fl.nx r) m = .ok fl m' from h)
    exact kpE.rfl'
  | .con, r, m, fl, m', h, hi => by
    cases (show R.ok (Fl.ct r) m = .ok fl m' from h)
    exact kpE.rfl'
  | .brk, r, m, fl, m', h, hi => by
    cases (show R.ok (Fl.bk r) m = .ok fl m' from h)
    exact kpE.rfl'
  | .pr3 j1 j2 j3 a b c, r, m, fl, m', h, hi => by
    obtain ⟨x, m1, _, h2⟩ := R.bind_inv (show (E T k F a r m).bind _ = .ok fl m' from h)
    obtain ⟨y, m2, _, h3⟩ := R.bind_inv h2
    obtain ⟨z, m3, _, h4⟩ := R.bind_inv h3
    split at h4
    · cases h4
      have hi : i ∉ [j1, j2, j3] := hi
      simp only [List.mem_cons, List.not_mem_nil, or_false, not_or] at hi
      exact (kpE.set hi.1).trans ((kpE.set hi.2.1).trans (kpE.set hi.2.2))
    · cases h4
  | .dea, r, m, fl, m', h, hi => by cases h
theorem Ss_keep : ∀ (s : ISs) {r : Ev} {m : Mu} {fl : Fl} {m' : Mu}, Ss T k F s r m = .ok fl m' → i ∉ asgSs s → flK i r fl
  | .nil, r, m, fl, m', h, hi => by
    cases (show R.ok (Fl.nx r) m = .ok fl m' from h)
    exact kpE.rfl'
  | .cons s ss, r, m, fl, m', h, hi => by
    obtain ⟨fl1, m1, h1, h2⟩ := R.bind_inv (show (S T k F s r m).bind _ = .ok fl m' from h)
    have hi : i ∉ asgS s ++ asgSs ss := hi
    have k1 := S_keep s h1 fun z => hi (List.mem_append.mpr (.inl z))
    cases fl1 with
    | nx r1 => exact flK.trans k1 (Ss_keep ss h2 fun z => hi (List.mem_append.mpr (.inr z)))
    | ct r1 =>
      cases h2
      exact k1
    | bk r1 =>
      cases h2
      exact k1
    | rt d =>
      cases h2
      trivial
end
end
end Rs

/-! part RsS2 -/
set_option Elab.async false
set_option linter.all false
set_option maxRecDepth 100000
set_option maxHeartbeats 4000000
namespace Rs
open PySem L2
theorem Sat.eqn {α : Type} {g : Gm} {w : Wd} {V' : WR} {r : R α} {P : α → Wd → Prop} (h : Sat g w V' r P) : Sat g w V' r (fun a w' => r = .ok a w'.mu ∧ P a w') := by
  cases r with
  | ok a m => exact fun w' em gr ok => ⟨by rw [em], h w' em gr ok⟩
  | exc c fs m => exact h
  | bad => exact h
def FreeE (ρ : Ev) (is : List Nat) : Prop := ∀ i ∈ is, ∀ d, ρ[i]? ≠ some (some d)
theorem FreeE.app {ρ : Ev} {is js : List Nat} (h : FreeE ρ (is ++ js)) : FreeE ρ is ∧ FreeE ρ js := ⟨fun i hi => h i (List.mem_append.mpr (.inl hi)), fun i hi => h i (List.mem_append.mpr (.inr hi))⟩
theorem SubE.keep {ρ r r' : Ev} {is : List Nat} (h : SubE ρ r) (hf : FreeE ρ is) (hl : r'.length = r.length) (k : ∀ i, i ∉ is → r'[i]? = r[i]?) : SubE ρ r' :=
  ⟨h.1.trans hl.symm, fun i d e => by
    have hi : i ∉ is := fun z => hf i z d e
    rw [k i hi]
    exact h.2 i d e⟩
theorem bindT_len : (∀ (t : IT) (d : D) (r r' : Ev), bindT t d r = some r' → r'.length = r.length) := fun t d r r' h => by
  by_cases h0 : ∃ i, i ∉ slT t
  · obtain ⟨i, hi⟩ := h0
    exact (bindT_keep h hi).2
  · exfalso
    apply h0
    refine ⟨(slT t).foldr max 0 + 1, fun hm => ?_⟩
    have key : ∀ (l : List Nat) (x : Nat), x ∈ l → x ≤ l.foldr max 0 := by
      intro l
      induction l with
      | nil => intro x hx; cases hx
      | cons a l ih =>
        intro x hx
        show x ≤ max a (l.foldr max 0)
        rcases List.mem_cons.mp hx with z | z
        · subst z
          exact Nat.le_max_left _ _
        · exact Nat.le_trans (ih x z) (Nat.le_max_right _ _)
    have z := key _ _ hm
    omega
theorem fresh_not (is : List Nat) : ∃ i, i ∉ is := by
  refine ⟨is.foldr max 0 + 1, fun hm => ?_⟩
  have key : ∀ (l : List Nat) (x : Nat), x ∈ l → x ≤ l.foldr max 0 := by
    intro l
    induction l with
    | nil => intro x hx; cases hx
    | cons a l ih =>
      intro x hx
      show x ≤ max a (l.foldr max 0)
      rcases List.mem_cons.mp hx with z | z
      · subst z
        exact Nat.le_max_left _ _
      · exact Nat.le_trans (ih x z) (Nat.le_max_right _ _)
  have z := key _ _ hm
  omega
section
variable {p : Pgm} {Φ : Ctx} {X : Cx} {k : Nat} {W : WX} {ρ : Ev} {a b c e : Expr} {ia ib ic ie : IE} {pos apos : Pos} {rest es : List Expr} {ies : IEs} {f : IF} {t : IT} {ts : ITs} {tg : Expr}
theorem SubE.st {r r' : Ev} {m m' : Mu} {is : IS} (h : SubE ρ r) (hf : FreeE ρ (asgS is)) (e : p.S k is r m = .ok (.nx r') m') : SubE ρ r' := by
  obtain ⟨j, hj⟩ := fresh_not (asgS is)
  exact h.keep hf (S_keep is e hj).2 fun i hi => (S_keep is e hi).1
theorem flAt {Dn : Ends} {w : Wd} {fl : Fl} (st : Sat p.g w (wrA p.g W ρ) (.ok fl w.mu) (flP p.g Dn)) (ok : Ok p.g w) : flP p.g Dn fl w := st w rfl (Grow.refl w) ok
theorem sole_of {e t : Expr} {l : Nat} {env : Env} (h : noComp e = true) : swapsWithSole [t] e l env = pure false := by
  unfold swapsWithSole
  exact swaps_of h
theorem asg_sub {o i : Expr} {q : Pos} {env : Env} (h : noSlice i = true) : ∀ v, assign (.Subscript o i q) env v = (do
      let ov ← holding [v] (eval o env)
      let iv ← holding [v, ov] (eval i env)
      standAt q
      holding [v, ov, iv] (setItem ov iv v)
      release [v, ov, iv] []) := fun v => by
  cases i <;> first | rfl | cases h
theorem sss_nil : SSs p X k W ρ [] .nil := weakSs pss_nil fun D σ H ⟨w, r, e, ok, rs, sb, st⟩ => by
  subst e
  exact flNow st ok rs
theorem sss_cons {st : Stmt} {sts : List Stmt} {is : IS} {iss : ISs} (hf : FreeE ρ (asgS is)) (h1 : SS p X k W ρ st is) (h2 : SSs p X k W ρ sts iss) : SSs p X k W ρ (st :: sts) (.cons is iss) :=
  weakSs (pss_cons h1 h2) fun D σ H ⟨w, r, e, ok, rs, sb, st⟩ => ⟨w, r, e, ok, rs, sb, (show Sat p.g w _ ((p.S k is r w.mu).bind _) _ from st).bind.eqn.imp fun fl w1 g1 ok1 ⟨he, s1⟩ => by
    cases fl with
    | nx r' => exact fun σ' rs' => ⟨w1, r', rfl, ok1, rs', sb.st hf he, s1⟩
    | rt d => exact flAt (W := W) (ρ := ρ) (fl := .rt d) s1 ok1
    | ct r' => exact flAt (W := W) (ρ := ρ) (fl := .ct r') s1 ok1
    | bk r' => exact flAt (W := W) (ρ := ρ) (fl := .bk r') s1 ok1⟩
/-! a place is written -/
def MOb (g : Gm) (w : Wd) (o : HO) : MO → Prop
  | .lst ds => ∃ vs, o = .lst vs ∧ RepL g w.G w.la ds vs
  | .dct kvs => ∃ kws : List (Key × V), o = .dK kws ∧ kws.map (·.1) = kvs.map (·.1) ∧ RepL g w.G w.la (kvs.map (·.2)) (kws.map (·.2))
  | .ins c fs => ∃ (dx : Addr) (fvs : List (Str × V)), o = .ins (g.C c) dx fvs ∧ fvs.map (·.1) = fs.map (fun p => g.nm p.1) ∧ RepL g w.G w.la (fs.map (·.2)) (fvs.map (·.2))
  | .dead => False
theorem wr_place {g : Gm} {w : Wd} {n : Nat} {ad : Addr} {mo0 mo : MO} {o : HO} (ok : Ok g w) (hl : w.la[n]? = some ad) (h0 : w.mu[n]? = some mo0) (hd : mo0 ≠ .dead) (m : MOb g w o mo) :
    ∃ w', w'.H = upd w.H ad o ∧ w'.mu = w.mu.set n mo ∧ Grow w w' ∧ Ok g w' ∧ w'.G = w.G ∧ w'.la = w.la := by
  have h1 : upd w.H ad o ad = some o := upd_same
  refine ⟨{ w with H := upd w.H ad o, mu := w.mu.set n mo }, rfl, rfl, Grow.write hl, ok.write hl h0 hd ?_, rfl, rfl⟩
  cases mo with
  | lst ds =>
    obtain ⟨vs, rfl, r⟩ := m
    exact ⟨vs, h1, r⟩
  | dct kvs =>
    obtain ⟨kws, rfl, e, r⟩ := m
    exact ⟨kws, h1, e, r⟩
  | ins c fs =>
    obtain ⟨dx, fvs, rfl, e, r⟩ := m
    exact ⟨dx, fvs, h1, e, r⟩
  | dead => trivial
theorem pset_or {t u : TSet} (h : PSet X t) (h' : PSet X u) : PSet X (fun o i v H Q => t o i v H Q ∨ u o i v H Q) := fun pins s σ H o i v ov iv w Q I ro ri rv q => q.elim (h pins s σ H o i v ov iv w Q I ro ri rv) (h' pins s σ H o i v ov iv w Q I ro ri rv)
theorem ss_sti (G : Good p Φ X k W) {apos' : Pos} (hsl : noSlice b = true) (hs : noComp e = true) (he : SE p X k W e ie) (ho : SE p X k W a ia) (hi : SE p X k W b ib) : SS p X k W ρ (.Assign [.Subscript a b apos'] e pos) (.sti ia ib ie) :=
  weakS (ps_asg he (pg_sub ho hi (pset_or set_list (set_dict (units1 G.rm))) (asg_sub hsl)) (sole_of hs) (by rfl) (by rfl)) fun D σ H ⟨w, r, e, ok, rs, sb, st⟩ => by
    subst e
    refine sE ok rs sb st fun d w1 g1 ok1 s1 dv rd => sE ok1 (rs.grow g1) sb s1 fun x w2 g2 ok2 s2 xv rx => sE ok2 ((rs.grow g1).grow g2) sb s2 fun y w3 g3 ok3 s3 yv ry => ?_
    have rd := (rd.grow g2).grow g3
    have rx := rx.grow g3
    have rs3 := ((rs.grow g1).grow g2).grow g3
    have s3 : Sat p.g w3 _ (match stiD x y d w3.mu with
      | some m => R.ok (.nx r) m
      | none => .bad) (flP p.g D) := s3
    cases x with
    | loc n =>
      cases rx with
      | loc hl =>
        rename_i ad
        cases hm : w3.mu[n]? with
        | none =>
          simp only [stiD, hm] at s3
          exact s3.elim
        | some mo =>
          cases mo with
          | lst ds =>
            cases ry with
            | int i =>
              have e1 : stiD (.loc n) (.int i) d w3.mu = (ixN ds.length i).map fun j => w3.mu.set n (.lst (ds.set j d)) := by simp only [stiD, hm]
              rw [e1] at s3
              cases hx : ixN ds.length i with
              | none =>
                rw [hx] at s3
                exact s3.elim
              | some j =>
                rw [hx] at s3
                obtain ⟨vs, h1, h2⟩ := ok3.liv n ad _ hl hm
                obtain ⟨w', eH, em, gr, ok', _, _⟩ := wr_place (mo := .lst (ds.set j d)) ok3 hl hm (by simp) ⟨vs.set j dv, rfl, h2.set j rd⟩
                refine .inl ⟨ad, vs, i, j, rfl, rfl, h1, by rw [← h2.length]; exact hx, ?_⟩
                rw [← eH]
                exact (show ∀ w', w'.mu = w3.mu.set n (.lst (ds.set j d)) → Grow w3 w' → Ok p.g w' → ∀ σ', RelS p.g w' r σ' → D.nx σ' w'.H from s3) w' em gr ok' σ (rs3.grow gr)
            | _ =>
              simp only [stiD, hm] at s3
              exact s3.elim
          | dct kvs =>
            have e1 : stiD (.loc n) y d w3.mu = (keyD y).bind fun q => if kvs.length < line then some (w3.mu.set n (.dct (putD kvs q d))) else none := by simp only [stiD, hm]
            rw [e1] at s3
            cases hk : keyD y with
            | none =>
              rw [hk] at s3
              exact s3.elim
            | some q =>
              rw [hk] at s3
              have s3 : Sat p.g w3 _ (match (if kvs.length < line then some (w3.mu.set n (.dct (putD kvs q d))) else none) with
                | some m => R.ok (.nx r) m
                | none => .bad) (flP p.g D) := s3
              by_cases hlen : kvs.length < line
              · rw [if_pos hlen] at s3
                obtain ⟨kws, h1, h2, h3⟩ := ok3.liv n ad _ hl hm
                obtain ⟨h4, h5⟩ := KVR.put (q := q) rd ⟨h2, h3⟩
                obtain ⟨w', eH, em, gr, ok', _, _⟩ := wr_place (mo := .dct (putD kvs q d)) ok3 hl hm (by simp) ⟨putK kws q dv, rfl, h4, h5⟩
                have ek : yv = kV q := by
                  cases y with
                  | int i => cases hk; cases ry; rfl
                  | str i => cases hk; cases ry; rfl
                  | _ => cases hk
                have z := congrArg List.length h2
                rw [List.length_map, List.length_map] at z
                refine .inr ⟨ad, _, rfl, .inl ⟨kws, q, h1, ek, by rw [z, ← line_eq]; exact hlen, rfl⟩, ?_⟩
                rw [← eH]
                exact (show ∀ w', w'.mu = w3.mu.set n (.dct (putD kvs q d)) → Grow w3 w' → Ok p.g w' → ∀ σ', RelS p.g w' r σ' → D.nx σ' w'.H from s3) w' em gr ok' σ (rs3.grow gr)
              · rw [if_neg hlen] at s3
                exact s3.elim
          | _ =>
            cases y <;> (simp only [stiD, hm] at s3; exact s3.elim)
    | _ => exact s3.elim
end
end Rs

/-! part RsS3 -/
set_option Elab.async false
set_option linter.all false
set_option maxRecDepth 100000
set_option maxHeartbeats 4000000
namespace Rs
open PySem L2
section
variable {p : Pgm} {Φ : Ctx} {X : Cx} {k : Nat} {W : WX} {ρ : Ev} {a b c e : Expr} {ia ib ic ie : IE} {pos apos : Pos} {rest es : List Expr} {ies : IEs} {f : IF} {t : IT} {ts : ITs} {tg : Expr}
/-! o.f = e -/
theorem KVF.put {g : Gm} {G : Hp} {la : List Addr} (nmi : ∀ i j, g.nm i = g.nm j → i = j) (f : Nat) {d : D} {v : V} (rd : Rep g G la d v) : ∀ {fs : List (Nat × D)} {fvs : List (Str × V)}, fvs.map (·.1) = fs.map (fun p => g.nm p.1) → RepL g G la (fs.map (·.2)) (fvs.map (·.2)) →
    (putF (g.nm f) v fvs).map (·.1) = (putA f d fs).map (fun p => g.nm p.1) ∧ RepL g G la ((putA f d fs).map (·.2)) ((putF (g.nm f) v fvs).map (·.2))
  | [], [], _, _ => ⟨rfl, .one rd⟩
  | [], _ :: _, h, _ => by cases h
  | _ :: _, [], h, _ => by cases h
  | (f1, d1) :: fs, (s1, v1) :: fvs, h, r => by
    have h1 : s1 = g.nm f1 := (List.cons.inj h).1
    subst h1
    cases r with
    | cons r1 r2 =>
      have ih := KVF.put nmi f rd (List.cons.inj h).2 r2
      by_cases hk : f1 = f
      · subst hk
        have e1 : putF (g.nm f1) v ((g.nm f1, v1) :: fvs) = (g.nm f1, v) :: fvs := if_pos rfl
        have e2 : putA f1 d ((f1, d1) :: fs) = (f1, d) :: fs := if_pos rfl
        rw [e1, e2]
        exact ⟨h, .cons rd r2⟩
      · have e1 : putF (g.nm f) v ((g.nm f1, v1) :: fvs) = (g.nm f1, v1) :: putF (g.nm f) v fvs := if_neg fun z => hk (nmi _ _ z)
        have e2 : putA f d ((f1, d1) :: fs) = (f1, d1) :: putA f d fs := if_neg hk
        rw [e1, e2]
        exact ⟨congrArg (g.nm f1 :: ·) ih.1, .cons r1 ih.2⟩
theorem ss_sta (G : Good p Φ X k W) {fi : Nat} {x : Str} {apos' : Pos} (hx : p.nm fi = x) (he : SE p X k W e ie) (ho : SE p X k W a ia) : SS p X k W ρ (.Assign [.Attribute a x apos'] e pos) (.sta ia fi ie) :=
  weakS (ps_fld ho he swaps_att) fun D σ H ⟨w, r, e, ok, rs, sb, st⟩ => by
    subst e
    refine sE ok rs sb st fun d w1 g1 ok1 s1 dv rd => sE ok1 (rs.grow g1) sb s1 fun x w2 g2 ok2 s2 xv rx => ?_
    have rd := rd.grow g2
    have rs2 := (rs.grow g1).grow g2
    rw [G.hK]
    subst hx
    have s2 : Sat p.g w2 (wrA p.g W ρ) (match staD p.T x fi d w2.mu with
      | some m => R.ok (.nx r) m
      | none => .bad) (flP p.g D) := s2
    cases x with
    | loc n =>
      cases rx with
      | loc hl =>
        rename_i ad
        cases hm : w2.mu[n]? with
        | none =>
          simp only [staD, hm] at s2
          exact s2.elim
        | some mo =>
          cases mo with
          | ins c fs =>
            cases hc : p.T[c]? with
            | none =>
              simp only [staD, hm, hc] at s2
              exact s2.elim
            | some q =>
              have e1 : staD p.T (.loc n) fi d w2.mu = if q.exf.isNone && q.flds.contains fi && decide (fs.length < 900) then some (w2.mu.set n (.ins c (putA fi d fs))) else none := by simp only [staD, hm, hc]
              rw [e1] at s2
              by_cases hh : (q.exf.isNone && q.flds.contains fi && decide (fs.length < 900)) = true
              · rw [if_pos hh] at s2
                obtain ⟨h1, h2⟩ := Bool.and_eq_true_iff.mp hh
                obtain ⟨h0, h1⟩ := Bool.and_eq_true_iff.mp h1
                obtain ⟨dx, fvs, h3, h4, h5⟩ := ok2.liv n ad _ hl hm
                obtain ⟨h6, h7⟩ := KVF.put (g := p.g) (fun i j => G.fx.nmi i j) fi rd h4 h5
                obtain ⟨w', eH, em, gr, ok', _, _⟩ := wr_place (mo := .ins c (putA fi d fs)) ok2 hl hm (by simp) ⟨dx, putF (p.nm fi) dv fvs, rfl, h6, h7⟩
                obtain ⟨h8, h9⟩ := fld_cls G.fx hc (Option.isNone_iff_eq_none.mp h0) h1
                have z := congrArg List.length h4
                rw [List.length_map, List.length_map] at z
                have h2 := of_decide_eq_true h2
                refine ⟨ad, p.C c, dx, fvs, rfl, h3, h8, h9, by omega, ?_⟩
                have eH : w'.H = upd w2.H ad (.ins (p.C c) dx (putF (p.nm fi) dv fvs)) := eH
                rw [← eH]
                exact (show ∀ w', w'.mu = w2.mu.set n (.ins c (putA fi d fs)) → Grow w2 w' → Ok p.g w' → ∀ σ', RelS p.g w' r σ' → D.nx σ' w'.H from s2) w' em gr ok' σ (rs2.grow gr)
              · rw [if_neg hh] at s2
                exact s2.elim
          | _ =>
            simp only [staD, hm] at s2
            exact s2.elim
    | _ => exact s2.elim
/-! x += e -/
def flV : D → V
  | .int i => .int i
  | .str s => .str s
  | _ => .non
def augOk : Operator → Bool
  | .Add => true
  | .Sub => true
  | _ => false
theorem ip_all {op : Operator} (h : augOk op = true) : PIp X op (fun x y H Q => (∃ (d e z : D), x = flV d ∧ y = flV e ∧ augD op d e = some z ∧ ∀ v, (∀ (g : Gm) (G : Hp) (la : List Addr), Rep g G la z v) → Q v H)) := by
  intro pins s σ H x y v u Q I rx ry ⟨d, e, z, ex, ey, hz, q⟩
  cases op with
  | Add =>
    cases d with
    | int i =>
      cases e with
      | int j =>
        cases hz
        exact iop_add pins s σ H x y v u Q I rx ry ⟨i, j, ex, ey, q _ fun _ _ _ => .int _⟩
      | _ => cases hz
    | str i =>
      cases e with
      | str j =>
        have hz : (if i.length + j.length ≤ line then some (D.str (i ++ j)) else none) = some z := hz
        split at hz
        · rename_i hl
          cases hz
          exact iop_add_str pins s σ H x y v u Q I rx ry ⟨i, j, ex, ey, line_eq ▸ hl, q _ fun _ _ _ => .str _⟩
        · cases hz
      | _ => cases hz
    | _ => cases hz
  | Sub =>
    cases d with
    | int i =>
      cases e with
      | int j =>
        cases hz
        exact iop_sub pins s σ H x y v u Q I rx ry ⟨i, j, ex, ey, q _ fun _ _ _ => .int _⟩
      | _ => cases hz
    | _ => cases hz
  | _ => cases h
theorem aug_flat {op : Operator} {d e z : D} (h : augD op d e = some z) {g : Gm} {G : Hp} {la : List Addr} {x y : V} (rx : Rep g G la d x) (ry : Rep g G la e y) : x = flV d ∧ y = flV e ∧ ((∃ i, z = .int i) ∨ ∃ s, z = .str s) := by
  cases op with
  | Add =>
    cases d with
    | int i =>
      cases e with
      | int j => cases h; cases rx; cases ry; exact ⟨rfl, rfl, .inl ⟨_, rfl⟩⟩
      | _ => cases h
    | str i =>
      cases e with
      | str j =>
        have h : (if i.length + j.length ≤ line then some (D.str (i ++ j)) else none) = some z := h
        split at h
        · cases h; cases rx; cases ry; exact ⟨rfl, rfl, .inr ⟨_, rfl⟩⟩
        · cases h
      | _ => cases h
    | _ => cases h
  | Sub =>
    cases d with
    | int i =>
      cases e with
      | int j => cases h; cases rx; cases ry; exact ⟨rfl, rfl, .inl ⟨_, rfl⟩⟩
      | _ => cases h
    | _ => cases h
  | _ => cases d <;> cases e <;> cases h
theorem ss_aug (G : Good p Φ X k W) {i : Nat} {x : Str} {q : Pos} {op : Operator} (ho : augOk op = true) (hN : Φ.N[i]? = some x) (h : StN Φ x) (he : SE p X k W e ie) : SS p X k W ρ (.AugAssign (.Name x q) op e pos) (.aug i op ie) :=
  weakS (ps_aug G.nd (by rw [G.N]; exact hN) (stN_loc G h).1 he (ip_all ho) (stN_loc G h).2) fun D σ H ⟨w, r, e, ok, rs, sb, st⟩ => by
    subst e
    have st : Sat p.g w (wrA p.g W ρ) (match r[i]? with
      | some (some x) => (p.E k ie r w.mu).bind fun y m => R.opt ((augD op x y).map fun d => Fl.nx (r.set i (some d))) m
      | _ => .bad) (flP p.g D) := st
    cases hr : r[i]? with
    | none =>
      rw [hr] at st
      exact st.elim
    | some o =>
      cases o with
      | none =>
        rw [hr] at st
        exact st.elim
      | some d =>
        rw [hr] at st
        obtain ⟨v, h1, h2⟩ := rs.2 i d hr
        refine ⟨v, h1, sE ok rs sb st fun y w1 g1 ok1 s1 yv ry => ?_⟩
        have s1 : Sat p.g w1 (wrA p.g W ρ) (R.opt ((augD op d y).map fun d => Fl.nx (r.set i (some d))) w1.mu) (flP p.g D) := s1
        cases ha : augD op d y with
        | none =>
          rw [ha] at s1
          exact s1.elim
        | some z =>
          rw [ha] at s1
          obtain ⟨e1, e2, e3⟩ := aug_flat ha (h2.grow g1) ry
          refine ⟨d, y, z, e1, e2, ha, fun v' hv => ?_⟩
          exact (show ∀ σ', RelS p.g w1 (r.set i (some z)) σ' → D.nx σ' w1.H from flAt (W := W) (ρ := ρ) (fl := .nx (r.set i (some z))) s1 ok1) _ ((rs.grow g1).set i (hv _ _ _))
end
end Rs

/-! part RsS4 -/
set_option Elab.async false
set_option linter.all false
set_option maxRecDepth 100000
set_option maxHeartbeats 4000000
namespace Rs
open PySem L2
section
variable {p : Pgm} {Φ : Ctx} {X : Cx} {k : Nat} {W : WX} {ρ : Ev} {a b c e : Expr} {ia ib ic ie : IE} {pos apos : Pos} {rest es : List Expr} {ies : IEs} {f : IF} {t : IT} {ts : ITs} {tg : Expr}
/-! for -/
theorem turnsS_zero {f : D → Ev → Mu → R Fl} {sc : Sc} {i : Nat} {r : Ev} {m : Mu} : turnsS f sc 0 i r m = (match sc.now m with
    | some _ => R.ok (.nx r) m
    | none => .bad) := rfl
theorem ss_for (G : Good p Φ X k W) {iter : Expr} {body : List Stmt} {s : II} {ib : ISs} (hn : noSet iter = true) (hf : FreeE ρ (slT t ++ asgSs ib)) (hi : SI p X k W tg iter s) (hg : PG X tg (tG p.g t)) (hb : SSs p X k W ρ body ib) :
    SS p X k W ρ (.For tg iter body [] pos) (.for_ t s ib) :=
  weakS (ps_for G.own G.calm hi hg hb (folded_of hn)) fun D σ H ⟨w, r, e, ok, rs, sb, st⟩ => by
    subst e
    refine ⟨w, r, rfl, ok, rs, ((show Sat p.g w (wrA p.g W ρ) ((p.EI k s r w.mu).bind _) (flP p.g D) from st).bind.wr (sb.rel rs)).imp fun sc w1 g1 ok1 s1 J hJ => ?_⟩
    have s1 : Sat p.g w1 (wrA p.g W ρ) (turnsS (fun x r m => match bindT t x r with
      | some r1 => p.Ss k ib r1 m
      | none => .bad) sc sc.len 0 r w1.mu) (flP p.g D) := s1
    generalize hF : (fun (x : Rs.D) (r : Ev) (m : Mu) => match bindT t x r with
      | some r1 => p.Ss k ib r1 m
      | none => R.bad) = F at s1
    obtain ⟨fr1, fr2⟩ := hf.app
    refine ⟨fun i tt σ H => ∃ (w2 : Wd) (r2 : Ev), w2.H = H ∧ Ok p.g w2 ∧ Grow w1 w2 ∧ RelS p.g w2 r2 σ ∧ SubE ρ r2 ∧ i + tt = sc.len ∧ Sat p.g w2 (wrA p.g W ρ) (turnsS F sc tt i r2 w2.mu) (flP p.g D), ⟨sc.len, w1, r, rfl, ok1, Grow.refl _, rs.grow g1, sb, by omega, s1⟩, ?_⟩
    rintro i tt σ2 H2 ⟨w2, r2, rfl, ok2, gr2, rs2, sb2, hit, st2⟩
    cases tt with
    | zero =>
      refine .inl ?_
      have st2 : Sat p.g w2 (wrA p.g W ρ) (match sc.now w2.mu with
        | some _ => R.ok (.nx r2) w2.mu
        | none => .bad) (flP p.g D) := st2
      cases hs : sc.now w2.mu with
      | none =>
        rw [hs] at st2
        exact st2.elim
      | some es =>
        rw [hs] at st2
        obtain ⟨h1, h2, _⟩ := hJ w2 gr2 ok2 es hs
        exact ⟨h2 i (by omega), flNow st2 ok2 rs2⟩
    | succ tt =>
      refine .inr ?_
      have st2 : Sat p.g w2 (wrA p.g W ρ) (match (sc.now w2.mu).bind (fun ds => ds[i]?) with
        | some x => (F x r2 w2.mu).bind fun fl m => (match fl with
          | .nx r => turnsS F sc tt (i + 1) r m
          | .ct r => turnsS F sc tt (i + 1) r m
          | .bk r => .ok (.nx r) m
          | .rt d => .ok (.rt d) m)
        | none => .bad) (flP p.g D) := st2
      cases hs : (sc.now w2.mu).bind (fun ds => ds[i]?) with
      | none =>
        rw [hs] at st2
        exact st2.elim
      | some x =>
        rw [hs] at st2
        have st2 : Sat p.g w2 (wrA p.g W ρ) ((F x r2 w2.mu).bind fun fl m => (match fl with
          | .nx r => turnsS F sc tt (i + 1) r m
          | .ct r => turnsS F sc tt (i + 1) r m
          | .bk r => .ok (.nx r) m
          | .rt d => .ok (.rt d) m)) (flP p.g D) := st2
        obtain ⟨es, he, hx⟩ := Option.bind_eq_some_iff.mp hs
        obtain ⟨h1, h2, h3⟩ := hJ w2 gr2 ok2 es he
        obtain ⟨h4, h5⟩ := h3 i x hx
        refine ⟨h4, fun σ' H' => ∃ (w3 : Wd) (r3 : Ev), w3.H = H' ∧ Ok p.g w3 ∧ Grow w1 w3 ∧ RelS p.g w3 r3 σ' ∧ SubE ρ r3 ∧ (i + 1) + tt = sc.len ∧ Sat p.g w3 (wrA p.g W ρ) (turnsS F sc tt (i + 1) r3 w3.mu) (flP p.g D), fun σ' H' z => ⟨tt, Nat.lt_succ_self _, z⟩, fun y H' hy => ?_⟩
        obtain ⟨w2, rfl, em, gb, ok2, ry⟩ := h5 y H' hy
        have gr2 := gr2.trans gb
        have rs2 := rs2.grow gb
        have st2 := Sat.up st2 gb
        rw [← em] at st2
        have hFx : F x r2 w2.mu = (match bindT t x r2 with
          | some r1 => p.Ss k ib r1 w2.mu
          | none => R.bad) := by rw [← hF]
        cases hbd : bindT t x r2 with
        | none =>
          rw [hbd] at hFx
          rw [hFx] at st2
          exact st2.elim
        | some r3 =>
          rw [hbd] at hFx
          rw [hFx] at st2
          have sb3 : SubE ρ r3 := sb2.keep fr1 (bindT_len t x r2 r3 hbd) fun j hj => (bindT_keep hbd hj).1
          refine ⟨w2, r2, r3, x, rfl, ok2, rs2, ry, hbd, fun σ3 rs3 _ => ⟨w2, r3, rfl, ok2, rs3, sb3, ?_⟩⟩
          refine (Sat.bind (r := p.Ss k ib r3 w2.mu) st2).eqn.imp fun fl w4 g4 ok4 ⟨heq, s4⟩ => ?_
          have kp : ∀ {r4 : Ev}, (∀ j, j ∉ asgSs ib → kpE j r3 r4) → SubE ρ r4 := fun {r4} h => by
            obtain ⟨j, hj⟩ := fresh_not (asgSs ib)
            exact sb3.keep fr2 (h j hj).2 fun j hj => (h j hj).1
          cases fl with
          | nx r4 => exact fun σ4 rs4 => ⟨w4, r4, rfl, ok4, gr2.trans g4, rs4, kp fun j hj => Ss_keep ib heq hj, by omega, s4⟩
          | ct r4 => exact fun σ4 rs4 => ⟨w4, r4, rfl, ok4, gr2.trans g4, rs4, kp fun j hj => Ss_keep ib heq hj, by omega, s4⟩
          | bk r4 => exact fun σ4 rs4 => flNow (W := W) (ρ := ρ) (r := r4) s4 ok4 rs4
          | rt d => exact flAt (W := W) (ρ := ρ) (fl := .rt d) s4 ok4
end
end Rs

/-! part RsS5 -/
set_option Elab.async false
set_option linter.all false
set_option maxRecDepth 100000
set_option maxHeartbeats 4000000
namespace Rs
open PySem L2
section
variable {p : Pgm} {Φ : Ctx} {X : Cx} {k : Nat} {W : WX} {ρ : Ev} {a b c e : Expr} {ia ib ic ie : IE} {pos apos spos : Pos} {rest es : List Expr} {ies : IEs} {f : IF} {t : IT} {ts : ITs} {tg : Expr}
/-! xs.append(e), xs.extend(e) -/
theorem few1 {env : Env} {cpos : Pos} (hs : nostar b = true) : ((backTo cpos (starEach [b] env)).all (fun x => !x.1) && (backToKw cpos (keywordEach [] env)).all (fun x => x.1.isSome)
      && decide ([b].length + ([] : List Keyword).length + (if ([] : List Keyword).isEmpty then 0 else 1) < 30)) = true := by
  rw [star1 hs]
  rfl
theorem mut_app {n : Nat} {ds : List D} {d : D} {m : Mu} (h : m[n]? = some (.lst ds)) : mutD .append (.loc n) d m = if ds.length < line then some (m.set n (.lst (ds ++ [d]))) else none := by
  simp only [mutD, h]
theorem mut_ext {n : Nat} {ds : List D} {d : D} {m : Mu} (h : m[n]? = some (.lst ds)) : mutD .extend (.loc n) d m = (match look m d with
        | .lst xs => if ds.length + xs.length ≤ line then some (m.set n (.lst (ds ++ xs))) else none
        | _ => none) := by
  simp only [mutD, h]
  try (cases look m d <;> rfl)
theorem ss_app (h0 : noCall0 a = true) (hs : nostar b = true) (hl : (apos.endLine == pos.line) = true) (ha : SE p X k W a ia) (hb : SE p X k W b ib) :
    SS p X k W ρ (.Expr (.Call (.Attribute a "append" apos) [b] [] pos) spos) (.mut .append ia ib) :=
  weakS (ps_expr (pe_bm PySem.F.plainAttrs_list PySem.F.slot_list_append PySem.F.type_list_append mt_append ha (pa_cons hb pa_nil (star1 hs)) (attBase_of h0) (few1 hs) hl (star1 hs) rfl) (swaps_of rfl)) fun D σ H ⟨w, r, e, ok, rs, sb, st⟩ => by
    subst e
    refine sE ok rs sb st fun x w1 g1 ok1 s1 xv rx => ?_
    have s1 : Sat p.g w1 (wrA p.g W ρ) (if lstAt w1.mu x then (p.E k ib r w1.mu).bind fun y m => (match mutD .append x y m with
      | some m => R.ok (.nx r) m
      | none => .bad) else .bad) (flP p.g D) := s1
    split at s1
    · rename_i hl1
      cases x with
      | loc n =>
        cases rx with
        | loc hla =>
          rename_i ad
          have hl1 : (match w1.mu[n]? with
            | some (.lst _) => true
            | _ => false) = true := hl1
          cases hm : w1.mu[n]? with
          | none =>
            rw [hm] at hl1
            cases hl1
          | some mo =>
            rw [hm] at hl1
            cases mo with
            | lst ds =>
              obtain ⟨vs, h1, h2⟩ := ok1.liv n ad _ hla hm
              refine ⟨.inl ⟨rfl, _, .inl (.inl h1)⟩, ?_⟩
              refine sE ok1 (rs.grow g1) sb s1 fun y w2 g2 ok2 s2 yv ry => ?_
              have hla2 := g2.la _ _ hla
              cases hm2 : w2.mu[n]? with
              | none =>
                simp only [mutD, hm2] at s2
                exact s2.elim
              | some mo2 =>
                cases mo2 with
                | lst ds2 =>
                  rw [mut_app hm2] at s2
                  by_cases hlen : ds2.length < line
                  · rw [if_pos hlen] at s2
                    obtain ⟨vs2, h3, h4⟩ := ok2.liv n ad _ hla2 hm2
                    obtain ⟨w', eH, em, gr, ok', _, _⟩ := wr_place (mo := .lst (ds2 ++ [y])) ok2 hla2 hm2 (by simp) ⟨vs2 ++ [yv], rfl, h4.app (.one ry)⟩
                    refine ⟨ad, vs2, yv, rfl, rfl, h3, by rw [← h4.length, ← line_eq]; exact hlen, ?_⟩
                    rw [← eH]
                    exact (show ∀ w', w'.mu = w2.mu.set n (.lst (ds2 ++ [y])) → Grow w2 w' → Ok p.g w' → ∀ σ', RelS p.g w' r σ' → D.nx σ' w'.H from s2) w' em gr ok' σ (((rs.grow g1).grow g2).grow gr)
                  · rw [if_neg hlen] at s2
                    exact s2.elim
                | _ =>
                  simp only [mutD, hm2] at s2
                  exact s2.elim
            | _ => cases hl1
      | _ => cases hl1
    · exact s1.elim
theorem ss_ext (h0 : noCall0 a = true) (hs : nostar b = true) (hl : (apos.endLine == pos.line) = true) (ha : SE p X k W a ia) (hb : SE p X k W b ib) :
    SS p X k W ρ (.Expr (.Call (.Attribute a "extend" apos) [b] [] pos) spos) (.mut .extend ia ib) :=
  weakS (ps_expr (pe_bm PySem.F.plainAttrs_list PySem.F.slot_list_extend PySem.F.type_list_extend mt_extend ha (pa_cons hb pa_nil (star1 hs)) (attBase_of h0) (few1 hs) hl (star1 hs) rfl) (swaps_of rfl)) fun D σ H ⟨w, r, e, ok, rs, sb, st⟩ => by
    subst e
    refine sE ok rs sb st fun x w1 g1 ok1 s1 xv rx => ?_
    have s1 : Sat p.g w1 (wrA p.g W ρ) (if lstAt w1.mu x then (p.E k ib r w1.mu).bind fun y m => (match mutD .extend x y m with
      | some m => R.ok (.nx r) m
      | none => .bad) else .bad) (flP p.g D) := s1
    split at s1
    · rename_i hl1
      cases x with
      | loc n =>
        cases rx with
        | loc hla =>
          rename_i ad
          have hl1 : (match w1.mu[n]? with
            | some (.lst _) => true
            | _ => false) = true := hl1
          cases hm : w1.mu[n]? with
          | none =>
            rw [hm] at hl1
            cases hl1
          | some mo =>
            rw [hm] at hl1
            cases mo with
            | lst ds =>
              obtain ⟨vs, h1, h2⟩ := ok1.liv n ad _ hla hm
              refine ⟨.inl ⟨rfl, _, .inl (.inl h1)⟩, ?_⟩
              refine sE ok1 (rs.grow g1) sb s1 fun y w2 g2 ok2 s2 yv ry => ?_
              have hla2 := g2.la _ _ hla
              cases hm2 : w2.mu[n]? with
              | none =>
                simp only [mutD, hm2] at s2
                exact s2.elim
              | some mo2 =>
                cases mo2 with
                | lst ds2 =>
                  rw [mut_ext hm2] at s2
                  cases ey : look w2.mu y with
                  | lst ys =>
                    rw [ey] at s2
                    dsimp only at s2
                    obtain ⟨ad2, vs3, rfl, h5, h6⟩ := repL ok2 ry ey
                    by_cases hlen : ds2.length + ys.length ≤ line
                    · rw [if_pos hlen] at s2
                      obtain ⟨vs2, h3, h4⟩ := ok2.liv n ad _ hla2 hm2
                      obtain ⟨w', eH, em, gr, ok', _, _⟩ := wr_place (mo := .lst (ds2 ++ ys)) ok2 hla2 hm2 (by simp) ⟨vs2 ++ vs3, rfl, h4.app h6⟩
                      refine ⟨ad, ad2, vs2, vs3, rfl, rfl, h3, h5, by rw [← h4.length, ← h6.length, ← line_eq]; exact hlen, ?_⟩
                      rw [← eH]
                      exact (show ∀ w', w'.mu = w2.mu.set n (.lst (ds2 ++ ys)) → Grow w2 w' → Ok p.g w' → ∀ σ', RelS p.g w' r σ' → D.nx σ' w'.H from s2) w' em gr ok' σ (((rs.grow g1).grow g2).grow gr)
                    · rw [if_neg hlen] at s2
                      exact s2.elim
                  | _ =>
                    rw [ey] at s2
                    exact s2.elim
                | _ =>
                  simp only [mutD, hm2] at s2
                  exact s2.elim
            | _ => cases hl1
      | _ => cases hl1
    · exact s1.elim
/-! x, y = a, b -/
theorem str_ne_nodup {x y : Str} (h : x ≠ y) : [x, y].eraseDups.length = 2 := by
  have h2 : (y == x) = false := beq_eq_false_iff_ne.mpr fun z => h z.symm
  simp [List.eraseDups_cons, List.filter, h2]
theorem ss_par (G : Good p Φ X k W) {i j : Nat} {x y : Str} {px py pt pt2 : Pos} {kt k2 : Nat} (hx : Φ.N[i]? = some x) (hy : Φ.N[j]? = some y) (hij : i ≠ j) (hxl : Φ.sc.names.lookup x = some .local) (hyl : Φ.sc.names.lookup y = some .local)
    (hsa : nostar a = true) (hsb : nostar b = true) (hk : Φ.sc.kind = .function) (hl : (py.line == px.line) = true) (hff : ([a, b].all (foldedForSure 8) || [a, b].all (constantsAlone 8)) = false)
    (ha : SE p X k W a ia) (hb : SE p X k W b ib) :
    SS p X k W ρ (.Assign [.Tuple [.Name x px, .Name y py] kt pt] (.Tuple [a, b] k2 pt2) pos) (.par i j ia ib) := by
  have hxy : x ≠ y := fun z => hij (by
    subst z
    have nd := G.nd
    rw [G.N] at nd
    obtain ⟨h1, e1⟩ := List.getElem?_eq_some_iff.mp hx
    obtain ⟨h2, e2⟩ := List.getElem?_eq_some_iff.mp hy
    exact (List.getElem_inj nd).mp (e1.trans e2.symm))
  refine weakS (ps_par (i := i) (j := j) G.calm G.nd (by rw [G.N]; exact hx) (by rw [G.N]; exact hy) hij (by rw [G.sc]; exact hxl) (by rw [G.sc]; exact hyl) (pa_cons ha (pa_cons hb pa_nil (star1 hsb)) (star1 hsa)) ?_ ?_) fun D σ H ⟨w, r, e, ok, rs, sb, st⟩ => ?_
  · obtain ⟨hf1, hf2⟩ := Bool.or_eq_false_iff.mp hff
    have hkx : X.env.kindOf x = some .local := by
      show X.env.scope.names.lookup x = _
      rw [G.sc]; exact hxl
    have hky : X.env.kindOf y = some .local := by
      show X.env.scope.names.lookup y = _
      rw [G.sc]; exact hyl
    have hbk : X.env.blockKind = .function := by
      show (if X.env.scope.kind.isAnnotationScope then _ else _) = _
      rw [G.sc, hk]
      rfl
    have hany : (([a, b] : List Expr).any fun | .Starred .. => true | _ => false) = false := by
      have q : ∀ {e : Expr}, nostar e = true → (match e with | .Starred .. => true | _ => false) = false := fun {e} h => by cases e <;> first | rfl | cases h
      simp only [List.any_cons, List.any_nil, Bool.or_false]
      rw [q hsa, q hsb]
      rfl
    unfold swappedStores
    simp only [List.length_cons, List.length_nil]
    rw [hbk]
    simp only [hany, List.head?_cons, Option.map_some, Option.getD_some, List.filterMap_cons, List.filterMap_nil, hkx, hky]
    simp [hl, hf1, hf2, str_ne_nodup hxy, Expr.pos]
    have e1 : (py.line == px.line) = true := hl
    simp_all
    intro z
    exfalso
    rcases z with z | z
    · cases a <;> first | (cases hsa; done) | (cases z; done)
    · cases b <;> first | (cases hsb; done) | (cases z; done)
  · rfl
  · subst e
    refine sE ok rs sb st fun u w1 g1 ok1 s1 uv ru => ?_
    refine sE ok1 (rs.grow g1) sb s1 fun v w2 g2 ok2 s2 vv rv => ?_
    refine ⟨uv, vv, rfl, ?_⟩
    have s2 : Sat p.g w2 (wrA p.g W ρ) (if i < r.length ∧ j < r.length then R.ok (.nx ((r.set i (some u)).set j (some v))) w2.mu else .bad) (flP p.g D) := s2
    split at s2
    · exact flNow s2 ok2 ((((rs.grow g1).grow g2).set i (ru.grow g2)).set j rv)
    · exact s2.elim
end
end Rs

/-! part RsX13 -/
set_option Elab.async false
set_option linter.all false
set_option maxRecDepth 100000
set_option maxHeartbeats 4000000
/-! [a, .., *x]; dict of pairs -/
namespace Rs
open PySem L2 StX
section
variable {p : Pgm} {Φ : Ctx} {X : Cx} {k : Nat} {W : WX} {a b c e : Expr} {ia ib ic ie : IE} {pos q : Pos} {rest es : List Expr} {ies : IEs} {f : IF}
theorem starR_cons {y x : D} {ds : List D} {m : Mu} : starR y (x :: ds) m = (starR y ds m).bind fun ds m => .ok (x :: ds) m := by
  unfold starR
  cases look m y <;> rfl
theorem star_assoc {sE : R D} {sA : Mu → R (List D)} {sB : Mu → R D} :
    ((sE.bind fun x m => (sA m).bind fun ds m => R.ok (x :: ds) m).bind fun ds m => (sB m).bind fun y m => starR y ds m) = sE.bind fun x m => ((sA m).bind fun ds m => (sB m).bind fun y m => starR y ds m).bind fun ds m => .ok (x :: ds) m := by
  cases sE with
  | ok x m =>
    show ((sA m).bind fun ds m => R.ok (x :: ds) m).bind _ = ((sA m).bind _).bind _
    cases sA m with
    | ok ds m1 =>
      show (sB m1).bind _ = ((sB m1).bind _).bind _
      cases sB m1 with
      | ok y m2 => exact starR_cons
      | exc => rfl
      | bad => rfl
    | exc => rfl
    | bad => rfl
  | exc => rfl
  | bad => rfl
theorem pa_lsx (G : Good p Φ X k W) (hb : SE p X k W b ib) (h : SJ p X k W es ies) (hs : es.all nostar = true) : PA X (es ++ [.Starred b q]) (tA p.g (fun r m => (p.Es k ies r m).bind fun ds m => (p.E k ib r m).bind fun y m => starR y ds m) W) := by
  induction h with
  | nil =>
    refine weakA (pa_star hb pa_nil rfl) fun σ H Q ⟨w, r, e, ok, rs, st⟩ => ⟨w, r, e, ok, rs, (show Sat p.g w _ ((p.E k ib r w.mu).bind _) _ from st).bind.imp fun y w1 g1 ok1 s1 v1 r1 => ?_⟩
    have s1 : Sat p.g w1 _ (starR y [] w1.mu) (fun ds w' => ∀ vs, RepL p.g w'.G w'.la ds vs → Q vs w'.H) := s1
    unfold starR at s1
    cases ea : look w1.mu y with
    | lst ds =>
      rw [ea] at s1
      obtain ⟨ad, vs, rfl, h1, h2⟩ := repL ok1 r1 ea
      refine ⟨ad, vs, rfl, .inr (.of h1), ?_⟩
      show Q (vs ++ []) w1.H
      rw [List.append_nil]
      exact (show Sat p.g w1 _ (.ok ds w1.mu) _ from s1).now ok1 vs h2
    | tup ds =>
      rw [ea] at s1
      obtain ⟨ad, vs, rfl, h1, h2⟩ := repT ok1 r1 ea
      refine ⟨ad, vs, rfl, .inl (by rw [G.hK]; exact h1), ?_⟩
      show Q (vs ++ []) w1.H
      rw [List.append_nil]
      exact (show Sat p.g w1 _ (.ok ds w1.mu) _ from s1).now ok1 vs h2
    | _ =>
      rw [ea] at s1
      exact s1.elim
  | @cons e1 i1 es1 is1 h1 h2 ih =>
    obtain ⟨h3, h4⟩ := Bool.and_eq_true_iff.mp hs
    refine weakA (pa_cons h1 (ih h4) (star1 h3)) fun σ H Q ⟨w, r, e, ok, rs, st⟩ => ⟨w, r, e, ok, rs, ?_⟩
    have st : Sat p.g w _ (((p.E k i1 r w.mu).bind fun x m => (p.Es k is1 r m).bind fun ds m => R.ok (x :: ds) m).bind fun ds m => (p.E k ib r m).bind fun y m => starR y ds m) (fun ds w' => ∀ vs, RepL p.g w'.G w'.la ds vs → Q vs w'.H) := st
    rw [star_assoc] at st
    exact st.bind.imp fun x w1 g1 ok1 s1 v1 r1 => ⟨w1, r, rfl, ok1, rs.grow g1, (show Sat p.g w1 _ (R.bind _ _) _ from s1).bind.imp fun ds w2 g2 ok2 s2 vs r2 =>
      (show Sat p.g w2 _ (.ok (x :: ds) w2.mu) (fun ds w' => ∀ vs, RepL p.g w'.G w'.la ds vs → Q vs w'.H) from s2).now ok2 (v1 :: vs) (.cons (r1.grow g2) r2)⟩
theorem sf_lsx (G : Good p Φ X k W) (hb : SE p X k W b ib) (h : SJ p X k W es ies) (hs : es.all nostar = true) : SF p X k W (.List (es ++ [.Starred b q]) pos) (.lsx ies ib) :=
  weakE (pe_lst (pa_lsx G hb h hs)) fun σ H Q ⟨w, r, e, ok, rs, st⟩ => ⟨w, r, e, ok, rs, (show Sat p.g w _ (R.bind _ _) _ from st).bind.imp fun ds w1 g1 ok1 s1 vs r1 => by
    have s1 : Sat p.g w1 _ (if ds.length ≤ line then R.ok (.lst ds) w1.mu else .bad) (fun mo w' => ∀ p' o, w'.H p' = none → MObj p.g w' o mo → Q (.ref p') (upd w'.H p' o)) := s1
    split at s1
    · rename_i hl
      exact ⟨by rw [← r1.length, ← line_eq]; exact hl, fun q hq => s1.now ok1 q _ hq ⟨vs, rfl, r1⟩⟩
    · exact s1.elim⟩
/-! the pairs of a list -/
theorem key_rep {g : Gm} {G : Hp} {la : List Addr} {d : D} {v : V} {key : Key} (h : keyD d = some key) (r : Rep g G la d v) : v = kV key := by
  cases d with
  | int i => cases h; cases r; rfl
  | str z => cases h; cases r; rfl
  | _ => cases h
theorem pairs_rep {g : Gm} {w : Wd} (ok : Ok g w) : ∀ {ds : List D} {vs : List V} {kvs : List (Key × D)}, pairsD ds = some kvs → RepL g w.G w.la ds vs →
    ∃ (ps : List Addr) (kws : List (Key × V)), vs = ps.map V.ref ∧ Paired (fun p kv => SqT g.K w.H p [kV kv.1, kv.2]) ps kws ∧ KVR g w.G w.la kvs kws
  | [], _, _, h, .nil => by
    cases h
    exact ⟨[], [], rfl, .nil, rfl, .nil⟩
  | d :: ds, _, _, h, .cons r1 r2 => by
    unfold pairsD at h
    cases h1 : pairD d with
    | none => rw [h1] at h; cases h
    | some kv =>
      cases h2 : pairsD ds with
      | none => rw [h1, h2] at h; cases h
      | some kvs =>
        rw [h1, h2] at h
        cases h
        obtain ⟨ps, kws, e, hp, hk1, hk2⟩ := pairs_rep ok h2 r2
        cases d with
        | tup xs =>
          match xs, h1 with
          | [x, y], h1 =>
            obtain ⟨key, hkey, rfl⟩ := Option.map_eq_some_iff.mp h1
            obtain ⟨a, us, rfl, hs, ru⟩ := repT (ds := [x, y]) ok r1 rfl
            obtain ⟨u, v, rfl, rx, ry⟩ := repL2 ru
            have ek := key_rep hkey rx
            subst ek
            exact ⟨a :: ps, (key, v) :: kws, by rw [e]; rfl, .cons hs hp, congrArg (key :: ·) hk1, .cons ry hk2⟩
        | _ => cases h1
theorem sf_dtp (G : Good p Φ X k W) {q : Pos} (h1 : BuN Φ "dict") (ha : SE p X k W a ia) (hs : starEach [a] X.env = [(false, eval a X.env)]) : SF p X k W (.Call (.Name "dict" q) [a] [] pos) (.dtp ia) :=
  weakE (pe_callTy (call_dictP G.calm) (gl_of G h1.1) (bu_of G h1.2) (by rfl) (pa_cons ha pa_nil hs) (he := hs)) fun σ H Q ⟨w, r, e, ok, rs, st⟩ => ⟨w, r, e, ok, rs, (show Sat p.g w _ ((p.E k ia r w.mu).bind _) _ from st).bind.imp fun x w1 g1 ok1 s1 v1 r1 => by
    have s1 : Sat p.g w1 _ (match look w1.mu x with
      | .lst xs => (match pairsD xs with
        | some kvs => R.ok (.dct (mergeD [] kvs)) w1.mu
        | none => .bad)
      | _ => .bad) (fun mo w' => ∀ p' o, w'.H p' = none → MObj p.g w' o mo → Q (.ref p') (upd w'.H p' o)) := s1
    cases ea : look w1.mu x with
    | lst ds =>
      rw [ea] at s1
      obtain ⟨ad, vs, rfl, h1, h2⟩ := repL ok1 r1 ea
      cases hp : pairsD ds with
      | none =>
        simp only [hp] at s1
        exact s1.elim
      | some kvs =>
        simp only [hp] at s1
        obtain ⟨ps, kws, rfl, hps, hk⟩ := pairs_rep ok1 hp h2
        have km := KVR.merge (kvs := []) (kws := []) hk ⟨rfl, .nil⟩
        rw [G.hK]
        exact ⟨ad, ps, kws, rfl, .of h1, hps, fun l hl => s1.now ok1 l _ hl ⟨_, rfl, km.1, km.2⟩⟩
    | _ =>
      rw [ea] at s1
      exact s1.elim⟩
end
end Rs

/-! part RsSet1 -/
set_option Elab.async false
set_option linter.all false
set_option maxRecDepth 100000
set_option maxHeartbeats 4000000
/-! set(list) for any kind of elements: what a kind must say of itself, the loop, the call -/
namespace RsSet
open PySem PySem.Spec PyProof.Rows
def Up (h h' : Heap) : Prop := ∀ b o, h.get? b = some o → h'.get? b = some o
def newSet (w : World) : Obj := { cls := .type "set", dict := none, data := .set #[] 0 (.fresh 0 0 (!w.params.followText "set-order")) }
/-- a kind of elements of sets: which values stand for which keys (in a heap of old), what a set of such is -/
structure Elt (P : Program) (w : World) (K : Type) where
  is : Heap → K → Value → Prop
  R : Heap → Heap → Addr → List K → Prop
  ok : Around → Prop
  few : Nat
  keep : ∀ {h0 h h' : Heap} {a : Addr} {L : List K}, R h0 h a L → (∀ o, h.get? a = some o → h'.get? a = some o) → R h0 h' a L
  fresh : ∀ {h0 h : Heap} {a : Addr}, h.get? a = some (newSet w) → R h0 h a []
  add : ∀ {A : Around} {E : Value → Shared → Prop} {s : Shared} {h0 : Heap} {a : Addr} {L : List K} {k : K} {v : Value} {Q : Bool → Shared → Prop}, ok A → is h0 k v → Up h0 s.heap → R h0 s.heap a L → L.length + 1 < few →
    (∀ b h' tk L', Heap.SameBut a s.heap h' → s.toks ≤ tk → R h0 h' a L' → (k ∈ L → L' = L) → (k ∉ L → L'.Perm (k :: L)) → Q b { s with heap := h', toks := tk }) → wpAny (model P w) A (setAdd a v) Q E s
/-- what has been met of the first items -/
structure Met {K : Type} (ks : List K) (i : Nat) (L : List K) : Prop where
  nd : L.Nodup
  mem : ∀ k, k ∈ L ↔ k ∈ ks.take i
  len : L.length ≤ i
theorem Met.zero {K : Type} (ks : List K) : Met ks 0 [] := ⟨List.nodup_nil, fun k => by simp, Nat.le_refl _⟩
theorem Met.next {K : Type} {ks L L' : List K} {i : Nat} {k : K} (g : Met ks i L) (h : ks[i]? = some k) (h1 : k ∈ L → L' = L) (h2 : k ∉ L → L'.Perm (k :: L)) : Met ks (i + 1) L' := by
  have e : ks.take (i + 1) = ks.take i ++ [k] := by rw [List.take_succ, h]; rfl
  by_cases hk : k ∈ L
  · rw [h1 hk]
    refine ⟨g.nd, fun x => ?_, Nat.le_succ_of_le g.len⟩
    rw [e, List.mem_append, g.mem x, List.mem_singleton]
    exact ⟨.inl, fun z => z.elim id fun z => by rw [z]; exact (g.mem k).mp hk⟩
  · have p := h2 hk
    refine ⟨p.nodup_iff.mpr (List.nodup_cons.mpr ⟨hk, g.nd⟩), fun x => ?_, by rw [p.length_eq, List.length_cons]; exact Nat.succ_le_succ g.len⟩
    rw [p.mem_iff, List.mem_cons, e, List.mem_append, List.mem_singleton, g.mem x]
    exact Or.comm
section
variable {P : Program} {w : World} {A : Around} {E : Value → Shared → Prop} {s : Shared} {K : Type} (T : Elt P w K)
/-- the loop behind set(..) -/
theorem loop_set {I : Addr} {fp wr : List Addr} {G : Array GenState → Array GenState → Prop} {n : Nat} {Pv : Nat → Value → Prop} {St : Nat → Shared → Prop} {R : Result → Shared → Prop}
    (W : WalksS P w A.in1 I fp wr G n Pv St) (S : Addr) (hS : S ∉ fp) (ks : List K) (hn : n = ks.length) (hf : ks.length + 1 < T.few) (h0 : Heap) (hval : ∀ i v, Pv i v → ∃ k, ks[i]? = some k ∧ T.is h0 k v)
    (hS0 : h0.get? S = none) (hw0 : ∀ b ∈ wr, h0.get? b = none) (hA : T.ok A.in1) :
    ∀ (left i : Nat) (s : Shared), i + left = n → St i s → Up h0 s.heap → (∃ L, T.R h0 s.heap S L ∧ Met ks i L) →
      (∀ s' L, Moved (S :: wr) G s s' → T.R h0 s'.heap S L → Met ks n L → R (.ok (.ret .none)) s') →
      codeAny (model P w) A (.builtin "set.update.loop" ⟨[.ref S, .ref I], []⟩) R s := by
  have out : S ∉ wr := fun z => hS (W.sub S z)
  have up : ∀ b ∈ wr, b ∈ S :: wr := fun b z => .tail _ z
  have old : ∀ {s s' : Shared}, Up h0 s.heap → Moved wr G s s' → Up h0 s'.heap := fun hk mv b o e =>
    mv.heap b o (fun z => nomatch (hw0 b z).symm.trans e) (hk b o e)
  intro left
  induction left with
  | zero =>
    rintro i s hi hst hk ⟨L, hR, g⟩ fin
    obtain rfl : i = n := by omega
    apply codeAny_builtin F.entry_set_update_loop
    rw [Around.under_plainId F.plain_set_update_loop]
    show wpAny _ A.in1 (pyNext (.ref I) >>= _) _ _ s
    apply wpAny_bind
    refine W.done s _ _ hst fun s' mv => ?_
    show wpAny _ A.in1 (ret Value.none) _ _ s'
    exact wpAny_pure (fin s' L (mv.mono up) (T.keep hR fun o e => mv.heap S o out e) g)
  | succ left ih =>
    rintro i s hi hst hk ⟨L, hR, g⟩ fin
    apply codeAny_builtin F.entry_set_update_loop
    rw [Around.under_plainId F.plain_set_update_loop]
    show wpAny _ A.in1 (pyNext (.ref I) >>= _) _ _ s
    apply wpAny_bind
    refine W.item i s _ _ (by omega) hst fun v s1 hv hst1 mv => ?_
    obtain ⟨k, hki, his⟩ := hval i v hv
    have hR1 : T.R h0 s1.heap S L := T.keep hR fun o e => mv.heap S o out e
    show wpAny _ A.in1 (holding [v] (setAdd S v) >>= _) _ _ s1
    apply wpAny_bind
    apply wpAny_holding
    refine T.add hA his (old hk mv) hR1 (by have := g.len; omega) fun b h' tk L' same htk hR2 c1 c2 => ?_
    have up2 : Up h0 h' := fun c o e => (same.2 c fun z => nomatch (show h0.get? S = some o from z ▸ e).symm.trans hS0).trans (old hk mv c o e)
    refine wpAny_pure ⟨plainId_quiet F.plain_set_update_loop _, ?_⟩
    refine ih (i + 1) { s1 with heap := h', toks := tk } (by omega) (W.frame _ s1 _ _ hst1 htk fun c hc o e => ?_) up2 ⟨L', hR2, g.next hki c1 c2⟩ fun s2 L2 mv2 hR3 g3 => ?_
    · exact (same.2 c fun z => hS (z ▸ hc)).trans e
    · refine fin s2 L2 (Moved.trans W.gtrans ((mv.mono up).then_heap htk fun c o hc e => ?_) mv2) hR3 g3
      exact (same.2 c fun z => hc (z ▸ .head _)).trans e
/-- set(l) of a list -/
theorem call_set {l : Addr} {items : Array Value} (ks : List K) {Q : Value → Shared → Prop} (hh : A.handled = none) (hl : s.heap.IsList l items) (hn : items.size = ks.length)
    (hi : ∀ (i : Nat) (v : Value), items[i]? = some v → ∃ k, ks[i]? = some k ∧ T.is s.heap k v) (hf : ks.length + 1 < T.few) (hA : T.ok A.in1.in1.in1)
    (h : ∀ (h' : Heap) (tk : Nat) (L : List K), T.R s.heap h' s.heap.objs.size L → Met ks ks.length L → Up s.heap h' → Q (.ref s.heap.objs.size) { s with heap := h', toks := tk }) :
    wpAny (model P w) A (call (.type "set") [.ref l]) Q E s := by
  obtain ⟨_, _, mro⟩ := F.called_set.mro
  have made := F.called_set.made
  have sub := F.called_set.sub
  have nt := F.called_set.notType
  have cc := F.called_set.canCreate
  have tc := F.typeCall_set_1 (.ref l)
  apply wpAny_call
  apply codeAny_of_tree
  show wpAny _ _ (callAny (.type "set") _) _ _ _
  refine wpAny_pure ⟨Code.quiet_builtin _ (by decide +kernel), ?_⟩
  apply codeAny_builtin F.entry_type_call
  rw [Around.under_plain (weight_type_call_type "set" [.ref l] []) rfl]
  all_goals repeat (any_goals (first | assumption | wp_step))
  generalize hh1 : s.heap.push (newSet w) = h1
  have got : h1.get? s.heap.objs.size = some (newSet w) := by rw [← hh1]; exact Heap.get?_push_size _ rfl
  have up1 : Up s.heap h1 := fun b o e => by rw [← hh1]; exact Heap.get?_push_of_some _ e
  have size1 : h1.objs.size = s.heap.objs.size + 1 := by rw [← hh1]; exact Heap.size_push ..
  have free : ∀ b, s.heap.objs.size ≤ b → s.heap.get? b = none := fun b hb => by
    cases q : s.heap.get? b with
    | none => rfl
    | some o => exact absurd (Heap.lt_size q) (Nat.not_lt.mpr hb)
  refine codeAny_mono (L2.code_set_led1 (.ref l) (E := E) (Q₁ := fun obj s1 => obj = .ref s.heap.objs.size ∧ s1 = { s with heap := h1 }) ⟨rfl, by rw [← hh1]; rfl⟩) fun r s1 hr => ?_
  rcases r with _ | fl
  · exact hr
  · cases fl with
    | ret obj =>
      obtain ⟨rfl, rfl⟩ := hr
      have isSet : Shared.TypeIs { s with heap := h1 } (.ref s.heap.objs.size) "set" := ⟨_, got, rfl⟩
      have li := F.called_set.init.lookup
      have bi := F.called_set.init.bind (.ref s.heap.objs.size)
      all_goals repeat (any_goals (first | assumption | wp_step))
      refine codeAny_mono (codeAny_call_builtin (R := wants (fun r s2 => r = .none ∧ ∃ h' tk L, s2 = { s with heap := h', toks := tk } ∧ T.R s.heap h' s.heap.objs.size L ∧ Met ks ks.length L ∧ Up s.heap h') E) F.called_set.init.plain F.entry_set_init (check_set_init_1 isSet ?_)) fun r2 s2 hr2 => ?_
      · have l1 : h1.IsList l items := by rw [← hh1]; exact hl.push _
        obtain ⟨⟨oc, od, odata, os⟩, hol, hcl, nl, hdl⟩ := l1
        simp only at hcl hdl
        subst hcl hdl
        have lS : l < s.heap.objs.size := by
          obtain ⟨o, e, _⟩ := hl
          exact Heap.lt_size e
        have l1 : h1.IsList l items := ⟨_, hol, rfl, nl, rfl⟩
        have s1 := F.sub_list_set
        have s2 := F.sub_list_frozenset
        have nd : (Value.type "list" == Value.type "dict") = false := by decide
        unfold Builtin.«set.__init__» noKeywords Builtin.Frozenset.updateFrom
        generalize hI : pyIter = PI
        wp_walk
        subst hI
        apply wpAny_pyIter_list l1
        apply wpAny_bind
        apply wpAny_runValue
        have hh3 : A.in1.in1.in1.handled = none := by simp [hh]
        refine loop_set T ((Walks.list hh3 _ l (fun z => absurd lS (by rw [z, size1]; exact Nat.not_lt.mpr (Nat.le_succ _))) items).toS) s.heap.objs.size ?_ ks hn hf s.heap hi (free _ (Nat.le_refl _)) (fun b hb => free b ?_) hA items.size 0 _ (by omega) ⟨⟨_, Heap.get?_push_size _ rfl, rfl, rfl⟩, l1.push _⟩ ?_ ⟨[], T.fresh (Heap.get?_push_of_some _ got), Met.zero ks⟩ fun s' L mv hR g => ?_
        · intro z
          rcases List.mem_cons.mp z with z | z
          · rw [size1] at z
            exact absurd z (Nat.ne_of_lt (Nat.lt_succ_self _))
          · exact absurd (List.mem_singleton.mp z) (Nat.ne_of_gt lS)
        · rw [List.mem_singleton.mp hb, size1]
          exact Nat.le_succ _
        · exact fun b o e => Heap.get?_push_of_some _ (up1 b o e)
        · obtain ⟨h', g2, d', tk, o2⟩ := s'
          have e1 : g2 = s.gens := mv.gens
          have e2 : d' = s.drawn := mv.drawn
          have e3 : o2 = s.os := mv.os
          subst e1 e2 e3
          apply wpAny_pure
          show wpAny _ _ (ret Value.none) _ _ _
          refine wpAny_pure ⟨rfl, h', tk, L, rfl, hR, hn ▸ g, fun b o e => ?_⟩
          have hb := Heap.lt_size e
          refine mv.heap b o ?_ (Heap.get?_push_of_some _ (up1 b o e))
          intro z
          rcases List.mem_cons.mp z with z | z
          · exact absurd z (Nat.ne_of_lt hb)
          · rw [List.mem_singleton.mp z, size1] at hb
            exact absurd hb (Nat.not_lt.mpr (Nat.le_succ _))
      · rcases r2 with _ | fl2
        · exact hr2
        · cases fl2 with
          | ret r =>
            obtain ⟨rfl, h', tk, L, rfl, hR, g, u⟩ := hr2
            all_goals repeat (any_goals (first | assumption | wp_step))
            exact h h' tk L hR g u
          | _ => exact hr2.elim
    | _ => exact hr.elim
end
end RsSet

/-! part RsSet2 -/
set_option Elab.async false
set_option linter.all false
set_option maxRecDepth 100000
set_option maxHeartbeats 4000000
/-! sets of ints and texts: what is added -/
namespace RsSet
open PySem PySem.Spec PyProof.Rows L2
def kOf : Value → Key
  | .int i _ => .inl i
  | .str x _ => .inr x
  | _ => .inl 0
theorem kOf_is {k : Key} {v : Value} (h : keyIs k v = true) : kOf v = k := by
  rcases keyIs_shape h with ⟨i, t, rfl, rfl⟩ | ⟨x, t, rfl, rfl⟩ <;> rfl
theorem scan_is {k : Key} {v : Value} (h : keyIs k v = true) : v.scannable = true := by
  rcases keyIs_shape h with ⟨i, t, rfl, rfl⟩ | ⟨x, t, rfl, rfl⟩ <;> rfl
def Good (w : World) (e : Int × Value) : Prop := keyIs (kOf e.2) e.2 = true ∧ e.1 = keyH w (kOf e.2)
def keysOf (es : Array (Int × Value)) : List Key := es.toList.map fun e => kOf e.2
/-- the set at a has these keys, in the order of its rows -/
def KR (w : World) (h : Heap) (a : Addr) (L : List Key) : Prop := ∃ (o : Obj) (es : Array (Int × Value)) (ep : Nat) (t : SetTable), h.get? a = some o ∧ o.ExactSet ∧ o.data = .set es ep t ∧ (∀ e ∈ es.toList, Good w e) ∧ keysOf es = L ∧ L.Nodup ∧
  es.size < scanBound ∧ t.fits es.size = true ∧ Ris t.place.toList ∧ (w.params.followText "set-order" = true ∨ t.led = true)
section
variable {P : Program} {w : World} {A : Around} {E : Value → Shared → Prop} {s : Shared} {a : Addr} {L : List Key}
theorem good_elem {es : List (Int × Value)} (g : ∀ e ∈ es, Good w e) : ElemsOf (mixKind P w) es := fun e he => ⟨⟨kOf e.2, (g e he).1, (g e he).2⟩, scan_is (g e he).1⟩
theorem good_key {e : Int × Value} {k : Key} (g : Good w e) : (mixKind P w).is k e.2 = true ↔ kOf e.2 = k := ⟨fun h => kOf_is h, fun h => by rw [← h]; exact g.1⟩
/-- what is stored behind a new row, the table laid anew where it is full -/
theorem put_tail {g : Bool → Sem Unit} (hg : ∀ (b : Bool) (s1 : Shared) (Q' : Unit → Shared → Prop), Q' () s1 → wpAny (model P w) A (g b) Q' E s1) {o : Obj} {es es1 : Array (Int × Value)} {ep : Nat} {t t2 : SetTable}
    (ho : s.heap.get? a = some o) (hex : o.ExactSet) (hd : o.data = .set es ep t) (g1 : ∀ e ∈ es1.toList, Good w e) (nd : (keysOf es1).Nodup) (hb : es1.size < scanBound) (hf : t2.fits es1.size = true) (hr : Ris t2.place.toList)
    (hl : w.params.followText "set-order" = true ∨ t2.led = true) {wasDummy : Bool} {R : Option Bool → Shared → Prop} (hR : ∀ h' L, Heap.SameBut a s.heap h' → KR w h' a L → L.Perm (keysOf es1) → R (some true) { s with heap := h' }) :
    wpAny (model P w) A (do
        storeSet a es1 t2
        if (!wasDummy && t2.tooFull) = true then
          let z := relayAll t2 es1 (SetTable.grown es1.size)
          g z.2.2
          storeSet a z.1 z.2.1
          pure (some true)
        else pure (some true)) R E s := by
  have o1 := store_at (es' := es1) (t' := t2) ho hd
  have b1 := Heap.SameBut.update s.heap a (Obj.putSet es1 t2)
  apply wpAny_bind
  refine wpAny_storeSet_of ho hd ?_ (fits_of_scanBound hb)
  split
  · have pm := relayAll_perm t2 es1 (SetTable.grown es1.size)
    have f3 := relayAll_fits t2 es1 (SetTable.grown es1.size)
    have r3 := relayAll_ris t2 es1 (SetTable.grown es1.size)
    have l3 := relayAll_led t2 es1 (SetTable.grown es1.size)
    generalize relayAll t2 es1 (SetTable.grown es1.size) = z at pm f3 r3 l3 ⊢
    rcases z with ⟨es2, t3, gave⟩
    dsimp only at pm f3 r3 l3 ⊢
    have n2 : es2.size = es1.size := pm.length_eq
    have b2 : es2.size < scanBound := n2 ▸ hb
    have pk : (keysOf es2).Perm (keysOf es1) := pm.map _
    apply wpAny_bind
    apply hg
    apply wpAny_bind
    refine wpAny_storeSet_of o1 rfl ?_ (fits_of_scanBound b2)
    refine wpAny_pure (hR _ (keysOf es2) (b1.trans (Heap.SameBut.update _ a _)) ⟨_, es2, _, t3, store_at o1 rfl, hex, rfl, fun e he => g1 e (pm.mem_iff.mp he), rfl, pk.nodup_iff.mpr nd, b2, f3, r3, ?_⟩ pk)
    exact hl.imp id fun z => l3.trans z
  · exact wpAny_pure (hR _ _ b1 ⟨_, es1, _, t2, o1, hex, rfl, g1, rfl, nd, hb, hf, hr, hl⟩ (.refl _))
theorem put_key {k : Key} {v : Value} {Q : Bool → Shared → Prop} (hk : keyIs k v = true) (R : KR w s.heap a L) (room : L.length + 1 < scanBound)
    (hQ : ∀ b h' L', Heap.SameBut a s.heap h' → KR w h' a L' → (k ∈ L → L' = L) → (k ∉ L → L'.Perm (k :: L)) → Q b { s with heap := h' }) :
    wpAny (model P w) A (setAddHashed a v (keyH w k)) Q E s := by
  obtain ⟨o, es, ep, t, ho, hex, hd, g, rfl, nd, hb, hf, hr, hl⟩ := id R
  have hkey : (mixKind P w).is k v = true := hk
  have sc := scan_is hk
  have hel : ElemsOf (mixKind P w) es.toList := good_elem g
  have quiet : ∀ (b : Bool) (s1 : Shared) (Q' : Unit → Shared → Prop), Q' () s1 → wpAny (model P w) A (match b with | true => rule "set.scan.the-table-gave-way" | false => pure ()) Q' E s1 := fun b s1 Q' q => by
    cases b
    · exact wpAny_pure q
    · exact wpAny_rule q
  unfold setAddHashed setAddHashedIn
  apply wpAny_holding
  apply wpAny_bind
  refine wpAny_setState_of ho hd hf ?_
  dsimp only
  rw [byScan_of sc hb hel]
  simp only [↓reduceIte]
  unfold setAddByScan
  apply wpAny_bind
  apply wpAny_bind
  apply wpAny_rule
  apply wpAny_bind
  refine wpAny_setScan_of (knd := mixKind P w) hkey ho hd hf hel ?_
  cases e : List.findIdx? (fun e => (mixKind P w).is k e.2) es.toList with
  | some j =>
    dsimp only
    obtain ⟨hj, pj, _⟩ := List.findIdx?_eq_some_iff_getElem.mp e
    have hm : k ∈ keysOf es := List.mem_map.mpr ⟨_, List.getElem_mem hj, (good_key (P := P) (g _ (List.getElem_mem hj))).mp pj⟩
    exact wpAny_pure (wpAny_pure (hQ _ _ _ (Heap.SameBut.refl a s.heap) R (fun _ => rfl) fun z => absurd hm z))
  | none =>
    dsimp only
    have hm : k ∉ keysOf es := fun z => by
      obtain ⟨x, hx, q⟩ := List.mem_map.mp z
      have c := List.findIdx?_eq_none_iff.mp e x hx
      rw [(good_key (P := P) (g x hx)).mpr q] at c
      cases c
    have pm := layNew_perm t es (keyH w k) v
    have f1 := layNew_fits t es (keyH w k) v
    have r1 := layNew_ris t es (keyH w k) v hr
    have l1 := layNew_led t es (keyH w k) v
    generalize layNew t es (keyH w k) v = z at pm f1 r1 l1 ⊢
    rcases z with ⟨es1, t1, wasDummy, gave⟩
    dsimp only at pm f1 r1 l1 ⊢
    rw [Array.toList_push] at pm
    have pc : es1.toList.Perm ((keyH w k, v) :: es.toList) := pm.trans (List.perm_append_singleton _ _)
    have pk : (keysOf es1).Perm (k :: keysOf es) := by
      have z := pc.map fun e => kOf e.2
      rw [List.map_cons] at z
      rw [show kOf (keyH w k, v).2 = k from kOf_is hk] at z
      exact z
    have g1 : ∀ e ∈ es1.toList, Good w e := fun e he => by
      rcases List.mem_cons.mp (pc.mem_iff.mp he) with z | z
      · rw [z]
        exact ⟨by rw [kOf_is hk]; exact hk, by rw [kOf_is hk]⟩
      · exact g e z
    have n1 : es1.size = (keysOf es).length + 1 := by
      have z := pk.length_eq
      unfold keysOf at z ⊢
      rw [List.length_cons, List.length_map] at z
      exact z
    have nd1 : (keysOf es1).Nodup := pk.nodup_iff.mpr (List.nodup_cons.mpr ⟨hm, nd⟩)
    have b1 : es1.size < scanBound := by rw [n1]; exact room
    have led1 : w.params.followText "set-order" = true ∨ t1.led = true := hl.imp id fun z => l1.trans z
    have last : ∀ h' L', Heap.SameBut a s.heap h' → KR w h' a L' → L'.Perm (keysOf es1) → Q true { s with heap := h' } := fun h' L' sb R' p => hQ true h' L' sb R' (fun z => absurd z hm) fun _ => p.trans pk
    apply wpAny_bind
    apply quiet
    split
    · apply wpAny_bind
      rw [hashByValue_scannable 8 sc]
      apply wpAny_pure
      refine put_tail quiet ho hex hd g1 nd1 b1 ?_ ?_ ?_ fun h' L' sb R' p => ?_
      · first | (split <;> first | exact f1 | exact SetTable.fits_plain_off f1) | exact f1
      · first | (split <;> exact r1) | exact r1
      · first | (split <;> exact led1) | exact led1
      · dsimp only
        exact wpAny_pure (last h' L' sb R' p)
    · apply wpAny_bind
      apply wpAny_pure
      simp only [↓reduceIte]
      refine put_tail quiet ho hex hd g1 nd1 b1 f1 r1 led1 fun h' L' sb R' p => ?_
      dsimp only
      exact wpAny_pure (last h' L' sb R' p)
theorem kr_new {h : Heap} (ho : h.get? a = some (newSet w)) : KR w h a [] :=
  ⟨_, #[], 0, _, ho, ⟨rfl, rfl, rfl⟩, rfl, fun e he => (by cases he), rfl, List.nodup_nil, by decide, by rfl, List.Pairwise.nil, by
    show _ ∨ (!w.params.followText "set-order") = true
    cases w.params.followText "set-order"
    · exact .inr rfl
    · exact .inl rfl⟩
/-- the kind of ints and texts -/
def keyElt (P : Program) (w : World) : Elt P w Key where
  is := fun _ k v => keyIs k v = true
  R := fun _ h a L => KR w h a L
  ok := fun _ => True
  few := scanBound
  keep := fun ⟨o, es, ep, t, ho, r⟩ k => ⟨o, es, ep, t, k o ho, r⟩
  fresh := fun ho => kr_new ho
  add := fun {A E s h0 a L k v Q} _ hk _ R room hQ => by
    unfold setAdd
    apply wpAny_holding
    apply wpAny_bind
    refine (mixKind P w).pyHash (k := k) hk ?_
    exact put_key (s := { s with toks := s.toks + 1 }) hk R room fun b h' L' sb R' c1 c2 => hQ b h' (s.toks + 1) L' sb (Nat.le_succ _) R' c1 c2
end
end RsSet

/-! part RsX14 -/
set_option Elab.async false
set_option linter.all false
set_option maxRecDepth 100000
set_option maxHeartbeats 4000000
/-! sets of ints and texts counted; enumerate -/
namespace Rs
open PySem L2
theorem hasK_iff {k : Key} {ks : List Key} : hasK k ks = true ↔ k ∈ ks := by
  unfold hasK
  rw [List.any_eq_true]
  exact ⟨fun ⟨q, h, e⟩ => by rw [decide_eq_true_eq] at e; rw [← e]; exact h, fun h => ⟨k, h, by simp⟩⟩
theorem ded_nd : ∀ ks : List Key, (dedK ks).Nodup
  | [] => List.nodup_nil
  | k :: ks => by
    unfold dedK
    split
    · exact ded_nd ks
    · rename_i h
      exact List.nodup_cons.mpr ⟨fun z => h (hasK_iff.mpr z), ded_nd ks⟩
theorem ded_mem : ∀ (ks : List Key) (k : Key), k ∈ dedK ks ↔ k ∈ ks
  | [], k => by unfold dedK; exact Iff.rfl
  | q :: ks, k => by
    unfold dedK
    split
    · rename_i h
      rw [ded_mem ks, List.mem_cons]
      exact ⟨.inr, fun z => z.elim (fun z => by rw [z]; exact (ded_mem ks q).mp (hasK_iff.mp h)) id⟩
    · rw [List.mem_cons, ded_mem ks, List.mem_cons]
theorem ded_perm {ks L : List Key} (h : RsSet.Met ks ks.length L) : L.Perm (dedK ks) :=
  (List.perm_ext_iff_of_nodup h.nd (ded_nd ks)).mpr fun k => by rw [h.mem k, List.take_length, ded_mem]
theorem keys_vals {P : Program} {w : World} : ∀ {ks : List Key} {us : List Value}, Vals (ks.map kV) us → us.length = ks.length ∧ ∀ (i : Nat) (v : Value), us[i]? = some v → ∃ k, ks[i]? = some k ∧ keyIs k v = true
  | [], _, .nil => ⟨rfl, fun i v h => by simp at h⟩
  | k :: ks, _, .cons r t => by
    obtain ⟨h1, h2⟩ := keys_vals (P := P) (w := w) t
    refine ⟨congrArg (· + 1) h1, fun i v h => ?_⟩
    cases i with
    | zero =>
      cases h
      exact ⟨k, rfl, kV_is (P := P) (w := w) r⟩
    | succ i => exact h2 i v h
/-- set(l), the keys -/
theorem set_new' {X : Cx} {pins : List (Addr × Obj)} {σ : L2.St} {H : Hp} {s : Shared} {E : Value → Shared → Prop} {l : Addr} {ks : List Key} {Q : Value → Shared → Prop} (I : Inv X pins σ H s) (hc : X.calm = true) (hq : SqL X.K H l (ks.map kV)) (hl : ks.length < 4000)
    (h : ∀ (h' : Heap) (tk : Nat) (L : List Key), RsSet.Up s.heap h' → RsSet.KR X.w h' s.heap.objs.size L → L.Perm (dedK ks) → Q (.ref s.heap.objs.size) { s with heap := h', toks := tk }) :
    wpAny (model X.prog X.w) X.A (PySem.call (.type "set") [.ref l]) Q E s := by
  obtain ⟨its, r, pl, _⟩ := I.list hq
  obtain ⟨h1, h2⟩ := keys_vals (P := X.prog) (w := X.w) r
  refine RsSet.call_set (RsSet.keyElt X.prog X.w) ks (I.ok.hd hc) pl.isList (by rw [List.size_toArray]; exact h1) (fun i v hv => ?_) (show ks.length + 1 < scanBound by unfold scanBound; omega) trivial fun h' tk L hR g u => ?_
  · exact h2 i v (by simpa using hv)
  · exact h h' tk L u hR (ded_perm g)
theorem set_new {X : Cx} {pins : List (Addr × Obj)} {σ : L2.St} {H : Hp} {s : Shared} {E : Value → Shared → Prop} {l : Addr} {ks : List Key} {Q : Value → Shared → Prop} (I : Inv X pins σ H s) (hc : X.calm = true) (hq : SqL X.K H l (ks.map kV)) (hl : ks.length < 4000)
    (h : ∀ (h' : Heap) (tk : Nat) (L : List Key), Inv X pins σ H { s with heap := h', toks := tk } → RsSet.KR X.w h' s.heap.objs.size L → L.Perm (dedK ks) → Q (.ref s.heap.objs.size) { s with heap := h', toks := tk }) :
    wpAny (model X.prog X.w) X.A (PySem.call (.type "set") [.ref l]) Q E s :=
  set_new' I hc hq hl fun h' tk L u hR pm => h h' tk L (I.kept fun b o e => u b o e) hR pm
section
variable {p : Pgm} {Φ : Ctx} {X : Cx} {k : Nat} {W : WX} {a b c e : Expr} {ia ib ic ie : IE} {pos apos : Pos} {rest es : List Expr} {ies : IEs} {f : IF} {t : IT} {ts : ITs}
def tSln (K : PySem.W.Frag) (ta : TE) : TE := fun σ H Q => ta σ H fun x H1 => ∃ (l : Addr) (ks : List Key), x = .ref l ∧ SqL K H1 l (ks.map kV) ∧ ks.length < 4000 ∧ Q (.int ((dedK ks).length : Nat)) H1
theorem pe_sln {ta : TE} {p1 p2 q pos : Pos} (hg : Gl X "len") (hm : X.mg "len" = none) (hg2 : Gl X "set") (hm2 : X.mg "set" = none) (ha : PE X a ta) (hc : X.calm = true) (na : starEach [a] X.env = (false, eval a X.env) :: starEach [] X.env) :
    PE X (.Call (.Name "len" p1) [.Call (.Name "set" p2) [a] [] q] [] pos) (tSln X.K ta) := by
  constructor
  intro pins s σ H Q I h
  refine PyProof.Rows.Call_ ?_
  refine ld_blt I hg hm boot_len ?_
  refine PyProof.Rows.callWith_builtin1 (PyProof.Rows.args_cons ?_ rfl) rfl rfl
  refine PyProof.Rows.Call_ ?_
  refine ld_blt I hg2 hm2 (show bootBuiltins "set" = some (.type "set") by rfl) ?_
  refine PyProof.Rows.callWith_type1 (PyProof.Rows.args_cons (thn (ha.run pins s σ H _ I h) fun v s1 ⟨x, H1, I1, r1, q1⟩ => PyProof.Rows.args_nil ?_) na) na rfl
  obtain ⟨l, ks, rfl, hq, hl, q1⟩ := q1
  cases r1
  refine set_new I1 hc hq hl fun h' tk L I2 hR pm => ?_
  apply PyProof.Rows.args_nil
  obtain ⟨o, es, ep, t, ho, hex, hd, _, e, _, hb, hf, _⟩ := hR
  have hn : es.size = (dedK ks).length := by
    rw [← pm.length_eq, ← e]
    unfold RsSet.keysOf
    rw [List.length_map, Array.length_toList]
  unfold scanBound at hb
  exact call_len_set ho hex hd hf (by omega) ⟨.int ((dedK ks).length : Nat), H1, I2.tok _, ⟨_, by rw [hn]⟩, q1⟩
theorem keys_rep {g : Gm} {G : Hp} {la : List Addr} : ∀ {ds : List D} {vs : List V} {ks : List Key}, keysD ds = some ks → RepL g G la ds vs → vs = ks.map kV
  | [], _, _, h, .nil => by cases h; rfl
  | d :: ds, _, _, h, .cons r1 r2 => by
    unfold keysD at h
    cases h1 : keyD d with
    | none => rw [h1] at h; cases h
    | some k =>
      cases h2 : keysD ds with
      | none => rw [h1, h2] at h; cases h
      | some ks =>
        rw [h1, h2] at h
        cases h
        rw [key_rep h1 r1, keys_rep h2 r2]
        rfl
theorem keysD_len : ∀ {ds : List D} {ks : List Key}, keysD ds = some ks → ks.length = ds.length
  | [], _, h => by cases h; rfl
  | d :: ds, _, h => by
    unfold keysD at h
    cases h1 : keyD d with
    | none => rw [h1] at h; cases h
    | some k =>
      cases h2 : keysD ds with
      | none => rw [h1, h2] at h; cases h
      | some ks =>
        rw [h1, h2] at h
        cases h
        exact congrArg (· + 1) (keysD_len h2)
/-- len(set(a)) -/
theorem se_sln (G : Good p Φ X k W) {p1 p2 q : Pos} (h1 : BuN Φ "len") (h2 : BuN Φ "set") (ha : SE p X k W a ia) (na : nostar a = true) : SE p X k W (.Call (.Name "len" p1) [.Call (.Name "set" p2) [a] [] q] [] pos) (.sln ia) :=
  weakE (pe_sln (gl_of G h1.1) (bu_of G h1.2) (gl_of G h2.1) (bu_of G h2.2) ha G.calm (star1 na)) fun σ H Q ⟨w, r, e, ok, rs, st⟩ => ⟨w, r, e, ok, rs, (show Sat p.g w _ ((p.E k ia r w.mu).bind _) _ from st).bind.imp fun x w1 g1 ok1 s1 v1 r1 => by
    have s1 : Sat p.g w1 _ (.opt ((slnD (look w1.mu x)).map fun (n : Nat) => D.int (n : Int)) w1.mu) (pv1 p.g Q) := s1
    obtain ⟨d, h3, h4⟩ := s1.opt ok1
    obtain ⟨n, h5, rfl⟩ := Option.map_eq_some_iff.mp h3
    unfold slnD at h5
    split at h5
    · rename_i xs ea
      split at h5
      · rename_i hl
        obtain ⟨ks, h6, rfl⟩ := Option.map_eq_some_iff.mp h5
        obtain ⟨ad, vs, rfl, h7, h8⟩ := repL ok1 r1 ea
        rw [G.hK]
        obtain rfl := keys_rep h6 h8
        exact ⟨ad, ks, rfl, .of h7, by rw [keysD_len h6]; exact hl, h4 _ (.int _)⟩
      · cases h5
    · cases h5⟩
/-! enumerate -/
theorem src_enm {g : Gm} {w : Wd} {ad : Addr} {vs : List V} {ds : List D} (h : w.G ad = some (.lst vs)) (r : RepL g w.G w.la ds vs) : SrcOk g w (.its (enmL ds)) (Ite g.K ad) := fun w' gr ok' es he => by
  cases he
  have h' := SqL.of (K := g.K) (ok'.sub _ _ (gr.G _ _ h))
  have el : (enmL ds).length = ds.length := by unfold enmL; rw [List.length_map, List.length_zipIdx]
  refine ⟨rfl, fun i hi => ⟨vs, h', by rw [← r.length, ← el]; exact hi⟩, fun i x hx => ?_⟩
  unfold enmL at hx
  rw [List.getElem?_map] at hx
  obtain ⟨⟨d, j⟩, hz, rfl⟩ := Option.map_eq_some_iff.mp hx
  rw [List.getElem?_zipIdx] at hz
  obtain ⟨d', hd, e⟩ := Option.map_eq_some_iff.mp hz
  obtain ⟨rfl, rfl⟩ := Prod.mk.inj e
  obtain ⟨v, hv, rv⟩ := r.get hd
  refine ⟨⟨vs, v, h', hv⟩, fun y H' ⟨T, x, ey, hT, eH, hx⟩ => ?_⟩
  have ex : x = v := by
    have z := hx vs h'
    rw [hv] at z
    cases z
    rfl
  subst ey ex
  obtain ⟨w2, e1, e2, e3, e4, e5⟩ := new_tup (ds := [.int ((0 + i : Nat) : Int), d']) ok' hT (.cons (.int _) (.one (rv.grow gr)))
  refine ⟨w2, ?_, e2, e3, e4, e5⟩
  rw [e1, eH, Nat.zero_add]
theorem si_enm (G : Good p Φ X k W) {elts : List Expr} {kk : Nat} {tpos q : Pos} (hn : BuN Φ "enumerate") (hs : nostar a = true) (ha : SE p X k W a ia) : SI p X k W (.Tuple elts kk tpos) (.Call (.Name "enumerate" q) [a] [] pos) (.enm ia) :=
  weakI (pi_enum (gl_of G hn.1) (bu_of G hn.2) (pa_cons ha pa_nil (star1 hs)) (star1 hs)) fun σ H Q ⟨w, r, e, ok, rs, st⟩ => ⟨w, r, e, ok, rs, (show Sat p.g w _ ((p.E k ia r w.mu).bind _) _ from st).bind.imp fun x w1 g1 ok1 s1 v1 r1 => by
    rw [G.hK]
    cases r1 with
    | lst h1 r1 => exact ⟨_, _, rfl, .of (ok1.sub _ _ h1), (Sat.now (a := Sc.its _) s1 ok1) _ (src_enm h1 r1)⟩
    | _ => exact s1.elim⟩
end
end Rs

/-! part RsX15 -/
set_option Elab.async false
set_option linter.all false
set_option maxRecDepth 100000
set_option maxHeartbeats 4000000
/-! sorted; dict comprehensions -/
namespace Rs
open PySem L2
/-! the order of texts -/
theorem lt_total : ∀ a b : List Nat, Spec.ltCps a b = false ∨ Spec.ltCps b a = false
  | [], [] => .inl rfl
  | [], _ :: _ => .inr rfl
  | _ :: _, [] => .inl rfl
  | a :: r, b :: t => by
    rcases Nat.lt_trichotomy a b with h | h | h
    · refine .inr ?_
      show (decide (b < a) || (b == a && Spec.ltCps t r)) = false
      simp [Nat.not_lt.mpr (Nat.le_of_lt h), (show (b == a) = false by rw [beq_eq_false_iff_ne]; omega)]
    · subst h
      rcases lt_total r t with q | q
      · refine .inl ?_
        show (decide (a < a) || (a == a && Spec.ltCps r t)) = false
        simp [q]
      · refine .inr ?_
        show (decide (a < a) || (a == a && Spec.ltCps t r)) = false
        simp [q]
    · refine .inl ?_
      show (decide (a < b) || (a == b && Spec.ltCps r t)) = false
      simp [Nat.not_lt.mpr (Nat.le_of_lt h), (show (a == b) = false by rw [beq_eq_false_iff_ne]; omega)]
theorem lt_step {a b : Nat} {r t : List Nat} : Spec.ltCps (a :: r) (b :: t) = false ↔ b < a ∨ (a = b ∧ Spec.ltCps r t = false) := by
  show (decide (a < b) || (a == b && Spec.ltCps r t)) = false ↔ _
  rcases Nat.lt_trichotomy a b with h | h | h
  · simp [h]
    omega
  · subst h
    simp
  · have h1 : (a == b) = false := by rw [beq_eq_false_iff_ne]; omega
    simp [h1, h]
    omega
theorem lt_asymm : ∀ {a b : List Nat}, Spec.ltCps a b = false → Spec.ltCps b a = false → a = b
  | [], [], _, _ => rfl
  | [], _ :: _, h, _ => by cases h
  | _ :: _, [], _, h => by cases h
  | a :: r, b :: t, h1, h2 => by
    rcases lt_step.mp h1 with g1 | ⟨e1, g1⟩
    · rcases lt_step.mp h2 with g2 | ⟨e2, g2⟩
      · omega
      · omega
    · rcases lt_step.mp h2 with g2 | ⟨_, g2⟩
      · omega
      · rw [e1, lt_asymm g1 g2]
theorem lt_trans' : ∀ {a b c : List Nat}, Spec.ltCps b a = false → Spec.ltCps c b = false → Spec.ltCps c a = false
  | [], _, [], _, _ => rfl
  | [], _, _ :: _, _, _ => rfl
  | _ :: _, [], _, h, _ => by cases h
  | _ :: _, _ :: _, [], _, h => by cases h
  | a :: r, b :: t, c :: u, h1, h2 => by
    rcases lt_step.mp h1 with g1 | ⟨e1, g1⟩
    · rcases lt_step.mp h2 with g2 | ⟨e2, g2⟩
      · exact lt_step.mpr (.inl (by omega))
      · exact lt_step.mpr (.inl (by omega))
    · rcases lt_step.mp h2 with g2 | ⟨e2, g2⟩
      · exact lt_step.mpr (.inl (by omega))
      · exact lt_step.mpr (.inr ⟨by omega, lt_trans' g1 g2⟩)
def leS (a b : Str) : Prop := Spec.ltCps b.cps.toList a.cps.toList = false
theorem rising_pw : ∀ {l : List Str} {p : Str}, PyProof.Rows.risingS p l = true → (p :: l).Pairwise leS
  | [], p, _ => List.pairwise_singleton _ _
  | x :: r, p, h => by
    obtain ⟨h1, h2⟩ := Bool.and_eq_true_iff.mp (show (!Spec.ltCps x.cps.toList p.cps.toList && PyProof.Rows.risingS x r) = true from h)
    have ih := rising_pw h2
    have h1 : leS p x := by unfold leS; simpa using h1
    refine List.pairwise_cons.mpr ⟨fun y hy => ?_, ih⟩
    rcases List.mem_cons.mp hy with rfl | hy
    · exact h1
    · exact lt_trans' h1 ((List.pairwise_cons.mp ih).1 y hy)
theorem sortedS_pw {l : List Str} (h : PyProof.Rows.sortedS l = true) : l.Pairwise leS := by
  cases l with
  | nil => exact List.Pairwise.nil
  | cons x r => exact rising_pw h
theorem sortS_pw (ss : List Str) : (sortS ss).Pairwise leS := by
  have z := List.pairwise_mergeSort (le := fun a b : Str => !Spec.ltCps b.cps.toList a.cps.toList) (fun a b c h1 h2 => by
    simp only [Bool.not_eq_true'] at h1 h2 ⊢
    exact lt_trans' h1 h2) (fun a b => by
    rcases lt_total a.cps.toList b.cps.toList with h | h <;> simp [h]) ss
  exact z.imp fun h => by unfold leS; simpa using h
theorem sortS_unique {xs ys : List Str} (p : ys.Perm xs) (h : PyProof.Rows.sortedS ys = true) : ys = sortS xs :=
  List.Perm.eq_of_pairwise (le := leS) (fun a b _ _ h1 h2 => by
    have z := lt_asymm h2 h1
    cases a; cases b
    simp only [Str.mk.injEq]
    exact Array.toList_inj.mp z) (sortedS_pw h) (sortS_pw xs) (p.trans (List.mergeSort_perm xs _).symm)
theorem sortI_pw (ns : List Int) : (sortI ns).Pairwise (· ≤ ·) := by
  have z := List.pairwise_mergeSort (le := fun a b : Int => decide (a ≤ b)) (fun a b c h1 h2 => by
    simp only [decide_eq_true_eq] at h1 h2 ⊢
    omega) (fun a b => by
    rcases Int.le_total a b with h | h <;> simp [h]) ns
  exact z.imp fun h => by simpa using h
theorem sortI_unique {xs ys : List Int} (p : ys.Perm xs) (h : ys.Pairwise (· ≤ ·)) : ys = sortI xs :=
  List.Perm.eq_of_pairwise (fun a b _ _ h1 h2 => Int.le_antisymm h1 h2) h (sortI_pw xs) (p.trans (List.mergeSort_perm xs _).symm)
section
variable {p : Pgm} {Φ : Ctx} {X : Cx} {k : Nat} {W : WX} {a b c e : Expr} {ia ib ic ie : IE} {pos apos : Pos} {rest es : List Expr} {ies : IEs} {f : IF} {t : IT} {ts : ITs}
/-- sorted: a dict of texts, a list of ints, of texts -/
def rSrt (K : PySem.W.Frag) : List V → Hp → VK → Prop := fun xs H Q =>
  (∃ (a : Addr) (kvs : List (Key × V)) (ks : List Str), xs = [.ref a] ∧ Rd H a (.dK kvs) ∧ kvs.map (·.1) = ks.map Sum.inr ∧ ks.length < 64 ∧ ∀ q, H q = none → Q (.ref q) (upd H q (.lst ((sortS ks).map V.str)))) ∨
  (∃ (a : Addr) (ns : List Int), xs = [.ref a] ∧ SqL K H a (ns.map V.int) ∧ ns.length < 64 ∧ ∀ q, H q = none → Q (.ref q) (upd H q (.lst ((sortI ns).map V.int)))) ∨
  (∃ (a : Addr) (ss : List Str), xs = [.ref a] ∧ SqL K H a (ss.map V.str) ∧ ss.length < 64 ∧ ∀ q, H q = none → Q (.ref q) (upd H q (.lst ((sortS ss).map V.str))))
theorem cr_srt (hc : X.calm = true) : CallR X (.builtin "sorted") (rSrt X.K) := by
  intro pins s σ H xs us Q I r h
  rcases h with ⟨a, kvs, ks, e, h1, h2, h3, q⟩ | ⟨a, ns, e, h1, h3, q⟩ | ⟨a, ss, e, h1, h3, q⟩
  · exact call_sortedD hc pins s σ H xs us Q I r ⟨a, kvs, ks, e, h1, h2, h3, fun ys z p h hz => by rw [sortS_unique p h]; exact q z hz⟩
  · exact cr_sorted pins s σ H xs us Q I r ⟨a, ns, e, h1, h3, fun ys z p h hz => by rw [sortI_unique p h]; exact q z hz⟩
  · exact cr_sortedS pins s σ H xs us Q I r ⟨a, ss, e, h1, h3, fun ys z p h hz => by rw [sortS_unique p h]; exact q z hz⟩
theorem strs_keys : ∀ {ks : List Key} {ss : List Str}, strsD (ks.map keyToD) = some ss → ks = ss.map Sum.inr
  | [], _, h => by cases h; rfl
  | .inl i :: ks, _, h => by cases h
  | .inr s :: ks, ss, h => by
    obtain ⟨r, h1, rfl⟩ := Option.map_eq_some_iff.mp (show (strsD (ks.map keyToD)).map (s :: ·) = some ss from h)
    rw [strs_keys h1]
    rfl
theorem repL_ints {g : Gm} {G : Hp} {la : List Addr} : ∀ ns : List Int, RepL g G la (ns.map D.int) (ns.map V.int)
  | [] => .nil
  | n :: ns => .cons (.int n) (repL_ints ns)
theorem repL_strs {g : Gm} {G : Hp} {la : List Addr} : ∀ ss : List Str, RepL g G la (ss.map D.str) (ss.map V.str)
  | [] => .nil
  | n :: ns => .cons (.str n) (repL_strs ns)
theorem ints_vals {g : Gm} {G : Hp} {la : List Addr} : ∀ {ds : List D} {vs : List V} {ns : List Int}, intsD ds = some ns → RepL g G la ds vs → vs = ns.map V.int
  | [], _, _, h, .nil => by cases h; rfl
  | .int i :: ds, _, _, h, .cons r1 r2 => by
    obtain ⟨ms, h1, rfl⟩ := Option.map_eq_some_iff.mp (show (intsD ds).map (i :: ·) = _ from h)
    cases r1
    rw [ints_vals h1 r2]
    rfl
theorem strs_vals {g : Gm} {G : Hp} {la : List Addr} : ∀ {ds : List D} {vs : List V} {ns : List Str}, strsD ds = some ns → RepL g G la ds vs → vs = ns.map V.str
  | [], _, _, h, .nil => by cases h; rfl
  | .str i :: ds, _, _, h, .cons r1 r2 => by
    obtain ⟨ms, h1, rfl⟩ := Option.map_eq_some_iff.mp (show (strsD ds).map (i :: ·) = _ from h)
    cases r1
    rw [strs_vals h1 r2]
    rfl
theorem intsD_len : ∀ {ds : List D} {ns : List Int}, intsD ds = some ns → ns.length = ds.length
  | [], _, h => by cases h; rfl
  | .int i :: ds, _, h => by
    obtain ⟨ms, h1, rfl⟩ := Option.map_eq_some_iff.mp (show (intsD ds).map (i :: ·) = _ from h)
    exact congrArg (· + 1) (intsD_len h1)
theorem strsD_len : ∀ {ds : List D} {ns : List Str}, strsD ds = some ns → ns.length = ds.length
  | [], _, h => by cases h; rfl
  | .str i :: ds, _, h => by
    obtain ⟨ms, h1, rfl⟩ := Option.map_eq_some_iff.mp (show (strsD ds).map (i :: ·) = _ from h)
    exact congrArg (· + 1) (strsD_len h1)
theorem sf_srt (G : Good p Φ X k W) {q : Pos} (hn : BuN Φ "sorted") (hs : nostar a = true) (ha : SE p X k W a ia) : SF p X k W (.Call (.Name "sorted" q) [a] [] pos) (.srt ia) :=
  weakE (pe_callB (cr_srt G.calm) (gl_of G hn.1) (bu_of G hn.2) (by rfl) (pa_cons ha pa_nil (star1 hs)) (he := star1 hs)) fun σ H Q ⟨w, r, e, ok, rs, st⟩ => ⟨w, r, e, ok, rs, (show Sat p.g w _ ((p.E k ia r w.mu).bind _) _ from st).bind.imp fun x w1 g1 ok1 s1 v1 r1 => by
    have s1 : Sat p.g w1 _ (.opt ((srtD (look w1.mu x)).map MO.lst) w1.mu) (fun mo w' => ∀ p' o, w'.H p' = none → MObj p.g w' o mo → Q (.ref p') (upd w'.H p' o)) := s1
    obtain ⟨mo, h3, h4⟩ := s1.opt ok1
    obtain ⟨ys, h5, rfl⟩ := Option.map_eq_some_iff.mp h3
    rw [G.hK]
    unfold srtD at h5
    split at h5
    · rename_i xs ea
      obtain ⟨ad, vs, rfl, h7, h8⟩ := repL ok1 r1 ea
      unfold srtL at h5
      split at h5
      · rename_i hl
        split at h5
        · rename_i ns hi
          cases h5
          rw [ints_vals hi h8] at h7
          exact .inr (.inl ⟨ad, ns, rfl, .of h7, by rw [intsD_len hi]; exact hl, fun z hz => h4 z _ hz ⟨_, rfl, repL_ints _⟩⟩)
        · split at h5
          · rename_i ss hi
            cases h5
            rw [strs_vals hi h8] at h7
            exact .inr (.inr ⟨ad, ss, rfl, .of h7, by rw [strsD_len hi]; exact hl, fun z hz => h4 z _ hz ⟨_, rfl, repL_strs _⟩⟩)
          · cases h5
      · cases h5
    · rename_i kvs ea
      obtain ⟨ad, kws, rfl, h7, h8, h9⟩ := repD ok1 r1 ea
      split at h5
      · rename_i hl
        obtain ⟨ss, hi, rfl⟩ := Option.map_eq_some_iff.mp h5
        have hks : kvs.map (·.1) = ss.map Sum.inr := by
          refine strs_keys (ks := kvs.map (·.1)) ?_
          rw [List.map_map]
          exact hi
        have hll := strsD_len hi
        rw [List.length_map] at hll
        exact .inl ⟨ad, kws, ss, rfl, .of h7, h8.trans hks, by rw [hll]; exact hl, fun z hz => h4 z _ hz ⟨_, rfl, repL_strs _⟩⟩
      · cases h5
    · cases h5⟩
end
end Rs

/-! part RsX16 -/
set_option Elab.async false
set_option linter.all false
set_option maxRecDepth 100000
set_option maxHeartbeats 4000000
/-! dict comprehensions -/
namespace Rs
open PySem L2
theorem pairsD_cons {d : D} {ds : List D} {kvs : List (Key × D)} (h : pairsD (d :: ds) = some kvs) : ∃ kv kvs1, pairD d = some kv ∧ pairsD ds = some kvs1 ∧ kvs = kv :: kvs1 := by
  unfold pairsD at h
  cases h1 : pairD d with
  | none => rw [h1] at h; cases h
  | some kv =>
    cases h2 : pairsD ds with
    | none => rw [h1, h2] at h; cases h
    | some kvs1 =>
      rw [h1, h2] at h
      cases h
      exact ⟨kv, kvs1, rfl, rfl, rfl⟩
theorem pairsD_len : ∀ {ds : List D} {kvs : List (Key × D)}, pairsD ds = some kvs → kvs.length = ds.length
  | [], _, h => by cases h; rfl
  | d :: ds, _, h => by
    obtain ⟨kv, kvs1, _, h2, rfl⟩ := pairsD_cons h
    exact congrArg (· + 1) (pairsD_len h2)
theorem merge_snoc (acc : List (Key × D)) (kv : Key × D) : mergeD [] (acc ++ [kv]) = putD (mergeD [] acc) kv.1 kv.2 := by
  unfold mergeD
  rw [List.foldl_append]
  rfl
theorem putD_len {kvs : List (Key × D)} {q : Key} {d : D} : (putD kvs q d).length ≤ kvs.length + 1 := by
  unfold putD
  split
  · rw [List.length_map]
    exact Nat.le_succ _
  · rw [List.length_append]
    exact Nat.le_refl _
theorem mergeD_len : ∀ (more acc : List (Key × D)), (mergeD acc more).length ≤ acc.length + more.length
  | [], acc => Nat.le_refl _
  | kv :: more, acc => by
    have h := mergeD_len more (putD acc kv.1 kv.2)
    have h2 := putD_len (kvs := acc) (q := kv.1) (d := kv.2)
    show (mergeD (putD acc kv.1 kv.2) more).length ≤ acc.length + (more.length + 1)
    omega
theorem pair_key {x y : D} {kv : Key × D} (h : pairD (.tup [x, y]) = some kv) : keyD x = some kv.1 ∧ kv.2 = y := by
  obtain ⟨q, h1, rfl⟩ := Option.map_eq_some_iff.mp (show (keyD x).map (fun q => (q, y)) = some kv from h)
  exact ⟨h1, rfl⟩
section
variable {p : Pgm} {Φ : Ctx} {X : Cx} {k : Nat} {W : WX} {a b c e : Expr} {ia ib ic ie : IE} {pos apos : Pos} {rest es : List Expr} {ies : IEs} {f : IF} {t : IT} {ts : ITs}
theorem dcm_imp {own : List Nat} {s : II} (hsl : ∀ i ∈ slT t, i ∈ own) {σ : L2.St} {H : Hp} {Q : VK} (h : tF p.g (p.EF k (.dcm ia ib t s own)) W σ H Q) :
    tDc (tI p.g (p.EI k s) W) (tG p.g t) (tB' p.g (p.Eb k .no) fun _ _ _ _ => False) (tE p.g (p.E k ia) fun _ _ _ _ => False) (tE p.g (p.E k ib) fun _ _ _ _ => False) own σ H Q := by
  obtain ⟨w, r, e, ok, rs, st⟩ := h
  refine ⟨w, r, e, ok, rs, (show Sat p.g w _ ((p.EI k s r w.mu).bind _) _ from st).bind.imp fun sc w1 g1 ok1 s1 J hJ D hD => ?_⟩
  have s1 : Sat p.g w1 _ ((turnsC (fun x m => match bindT t x (wipeE r own) with
    | some r1 => (p.E k ia r1 m).bind fun x m => (p.E k ib r1 m).bind fun y m => R.ok (some (Rs.D.tup [x, y])) m
    | none => .bad) sc sc.len 0 w1.mu).bind fun ds m => if ds.length ≤ line then (match pairsD ds with
      | some kvs => R.ok (MO.dct (mergeD [] kvs)) m
      | none => .bad) else .bad) (fun mo w' => ∀ p' o, w'.H p' = none → MObj p.g w' o mo → Q (.ref p') (upd w'.H p' o)) := s1
  generalize hf : (fun x m => match bindT t x (wipeE r own) with
    | some r1 => (p.E k ia r1 m).bind fun x m => (p.E k ib r1 m).bind fun y m => R.ok (some (Rs.D.tup [x, y])) m
    | none => .bad) = f at s1
  cases ht : turnsC f sc sc.len 0 w1.mu with
  | bad =>
    rw [ht] at s1
    exact s1.elim
  | exc c fs m => exact absurd ht (turnsC_exc _ _ _)
  | ok ds mE =>
    rw [ht] at s1
    have s1 : Sat p.g w1 _ (if ds.length ≤ line then (match pairsD ds with
      | some kvs => R.ok (MO.dct (mergeD [] kvs)) mE
      | none => .bad) else .bad) (fun mo w' => ∀ p' o, w'.H p' = none → MObj p.g w' o mo → Q (.ref p') (upd w'.H p' o)) := s1
    split at s1
    · rename_i hlen
      cases hall : pairsD ds with
      | none =>
        rw [hall] at s1
        exact s1.elim
      | some all =>
        rw [hall] at s1
        have hal := pairsD_len hall
        refine ⟨fun i t H => ∃ (w2 : Wd) (kws : List (Key × V)) (acc rp : List (Key × Rs.D)) (rest : List Rs.D), w2.H = H ∧ Ok p.g w2 ∧ Grow w1 w2 ∧ Far w2 D (.dK kws) ∧ KVR p.g w2.G w2.la (mergeD [] acc) kws ∧ turnsC f sc t i w2.mu = .ok rest mE ∧ pairsD rest = some rp ∧ acc ++ rp = all ∧ i + t = sc.len,
          ⟨sc.len, { w1 with H := upd w1.H D (.dK []) }, [], [], all, ds, rfl, ok1.alien hD, Grow.alien hD, ok1.far hD, ⟨rfl, .nil⟩, ht, hall, rfl, by omega⟩, ?_⟩
        rintro i tt H2 ⟨w2, kws, acc, rp, rest, rfl, ok2, gr2, far, rkv, hrun, hrp, hacc, hit⟩
        cases tt with
        | zero =>
          refine .inl ?_
          obtain ⟨rfl, rfl, es, hes⟩ := turnsC_zero hrun
          obtain ⟨h1, h2, h3⟩ := hJ w2 gr2 ok2 es hes
          cases hrp
          rw [List.append_nil] at hacc
          subst hacc
          refine ⟨h2 i (by omega), ?_⟩
          have z := s1 { w2 with H := without1 w2.H D } rfl (gr2.drop hD) (ok2.drop far.G far.la) D (.dK kws) without_at ⟨kws, rfl, rkv.1, rkv.2⟩
          rw [without_upd far.at_] at z
          exact z
        | succ tt =>
          refine .inr ?_
          obtain ⟨es, x, o, m1, ds1, hes, hx, hfx, hrun1, hdd⟩ := turnsC_succ hrun
          obtain ⟨h1, h2, h3⟩ := hJ w2 gr2 ok2 es hes
          obtain ⟨h4, h5⟩ := h3 i x hx
          refine ⟨h4, fun H' => ∃ (w2 : Wd) (kws : List (Key × V)) (acc rp : List (Key × Rs.D)) (rest : List Rs.D), w2.H = H' ∧ Ok p.g w2 ∧ Grow w1 w2 ∧ Far w2 D (.dK kws) ∧ KVR p.g w2.G w2.la (mergeD [] acc) kws ∧ turnsC f sc tt (i + 1) w2.mu = .ok rest mE ∧ pairsD rest = some rp ∧ acc ++ rp = all ∧ (i + 1) + tt = sc.len,
            fun H' z => ⟨tt, Nat.lt_succ_self _, z⟩, fun y H' hy => ?_⟩
          obtain ⟨w2, rfl, em, gb, ok2, ry⟩ := h5 y H' hy
          have gr2 := gr2.trans gb
          have far := far.grow gb
          have rkv : KVR p.g w2.G w2.la (mergeD [] acc) kws := ⟨rkv.1, rkv.2.grow gb⟩
          rw [← em] at hfx
          subst hf
          dsimp only at hfx
          cases hbd : bindT t x (wipeE r own) with
          | none =>
            rw [hbd] at hfx
            cases hfx
          | some r1 =>
            rw [hbd] at hfx
            obtain ⟨dk, mk, hEk, hrest⟩ := R.bind_inv hfx
            obtain ⟨dv, mv, hEv, hfin⟩ := R.bind_inv hrest
            cases hfin
            have hdd : rest = Rs.D.tup [dk, dv] :: ds1 := hdd
            subst hdd
            obtain ⟨kv, rp1, hkv, hrp1, rfl⟩ := pairsD_cons hrp
            obtain ⟨hkey, hval⟩ := pair_key hkv
            refine ⟨w2, wipeE r own, r1, x, rfl, ok2, ((rs.grow g1).grow gr2).wipe _, ry, hbd, fun σ' rs' sm => ⟨?_, w2, r1, rfl, ok2, rs', ?_⟩⟩
            · exact (same_wipe.trans sm).wipe fun i hi => by
                rcases List.mem_append.mp hi with z | z
                · exact z
                · exact hsl i z
            · refine Sat.of_ok (show p.Eb k .no r1 w2.mu = R.ok true w2.mu from rfl) fun w3 e3 g3 ok3 => ?_
              dsimp only
              rw [if_pos rfl]
              refine ⟨w3, r1, rfl, ok3, rs'.grow g3, ?_⟩
              rw [e3]
              refine Sat.of_ok hEk fun w4 e4 g4 ok4 v4 rv4 => ?_
              subst e4
              refine ⟨w4, r1, rfl, ok4, (rs'.grow g3).grow g4, Sat.of_ok hEv fun w5 e5 g5 ok5 v5 rv5 => ?_⟩
              subst e5
              have far5 := ((far.grow g3).grow g4).grow g5
              have ek := key_rep hkey rv4
              have hk : (mergeD [] acc).length < line := by
                have z1 := mergeD_len acc []
                have z2 := congrArg List.length hacc
                rw [List.length_append, List.length_cons] at z2
                rw [List.length_nil] at z1
                omega
              have rkv5 : KVR p.g w5.G w5.la (mergeD [] acc) kws := ⟨rkv.1, ((rkv.2.grow g3).grow g4).grow g5⟩
              have hkl : kws.length = (mergeD [] acc).length := by
                have z := congrArg List.length rkv.1
                rw [List.length_map, List.length_map] at z
                exact z
              refine ⟨kws, kv.1, ek, far5.at_, by rw [hkl, ← line_eq]; exact hk, { w5 with H := upd w5.H D (.dK (putK kws kv.1 v5)) }, putK kws kv.1 v5, acc ++ [kv], rp1, ds1, rfl, ok5.alienW far5.G far5.la, (((gr2.trans g3).trans g4).trans g5).alienW hD, ⟨upd_same, far5.G, far5.la⟩, ?_, hrun1, hrp1, by rw [List.append_assoc]; exact hacc, by omega⟩
              rw [merge_snoc]
              exact KVR.put (by rw [hval]; exact rv5) rkv5
    · exact s1.elim
theorem sf_dcm (G : Good p Φ X k W) {tg iter : Expr} {scope : Scope} {own : List (Str × Nat)} {s : II} (hb : BlkOk Φ.N Φ.sc scope own) (hn : noSet iter = true) (hsl : ∀ i ∈ slT t, i ∈ own.map (·.2))
    (hi : SI p X k W tg iter s) (hg : ∀ Y W', Good p (Φ.blk scope) Y k W' → PG Y tg (tG p.g t)) (ha : ∀ Y W', Good p (Φ.blk scope) Y k W' → SE p Y k W' a ia) (he : ∀ Y W', Good p (Φ.blk scope) Y k W' → SE p Y k W' b ib) :
    SF p X k W (.DictComp a b [⟨tg, iter, [], 0⟩] scope pos) (.dcm ia ib t s (own.map (·.2))) :=
  weakE (pe_dc (own := own) G.calm G.nd hi (by rw [G.N, G.sc]; exact hb) (fun s H C cl fp => hg _ _ (G.blk s H scope C cl fp)) (fun s H C cl fp => sb_no) (fun s H C cl fp => ha _ _ (G.blk s H scope C cl fp)) (fun s H C cl fp => he _ _ (G.blk s H scope C cl fp)) (folded_of hn))
    fun σ H Q q => dcm_imp hsl q
end
end Rs

/-! part RsS6 -/
set_option Elab.async false
set_option linter.all false
set_option maxRecDepth 100000
set_option maxHeartbeats 4000000
/-! what is never reached; x, y, z = a, b, c -/
namespace Rs
open PySem L2
section
variable {p : Pgm} {Φ : Ctx} {X : Cx} {k : Nat} {W : WX} {ρ : Ev} {a b c e : Expr} {ia ib ic ie : IE} {pos apos : Pos} {rest es : List Expr} {ies : IEs} {f : IF} {t : IT} {ts : ITs} {tg : Expr}
theorem ss_dea {st : Stmt} : SS p X k W ρ st .dea := ⟨fun pins s σ H D I ⟨w, r, e, ok, rs, sb, h⟩ => h.elim⟩
theorem three_nodup {x y z : Str} (h1 : x ≠ y) (h2 : x ≠ z) (h3 : y ≠ z) : [x, y, z].eraseDups.length = 3 := by
  have a1 : (y == x) = false := beq_eq_false_iff_ne.mpr fun q => h1 q.symm
  have a2 : (z == x) = false := beq_eq_false_iff_ne.mpr fun q => h2 q.symm
  have a3 : (z == y) = false := beq_eq_false_iff_ne.mpr fun q => h3 q.symm
  simp [List.eraseDups_cons, List.filter, a1, a2, a3]
theorem ss_pr3 (G : Good p Φ X k W) {i j l : Nat} {x y z : Str} {px py pz pt pt2 : Pos} {kt k2 : Nat} (hx : Φ.N[i]? = some x) (hy : Φ.N[j]? = some y) (hz : Φ.N[l]? = some z) (hij : i ≠ j) (hil : i ≠ l) (hjl : j ≠ l)
    (hxl : Φ.sc.names.lookup x = some .local) (hyl : Φ.sc.names.lookup y = some .local) (hzl : Φ.sc.names.lookup z = some .local)
    (hsa : nostar a = true) (hsb : nostar b = true) (hsc : nostar c = true) (hk : Φ.sc.kind = .function) (hl : (py.line == px.line) = true) (hl2 : (pz.line == px.line) = true) (hff : ([a, b, c].all (foldedForSure 8) || [a, b, c].all (constantsAlone 8)) = false)
    (ha : SE p X k W a ia) (hb : SE p X k W b ib) (hc : SE p X k W c ic) :
    SS p X k W ρ (.Assign [.Tuple [.Name x px, .Name y py, .Name z pz] kt pt] (.Tuple [a, b, c] k2 pt2) pos) (.pr3 i j l ia ib ic) := by
  have diff : ∀ {i j : Nat} {x y : Str}, Φ.N[i]? = some x → Φ.N[j]? = some y → i ≠ j → x ≠ y := fun {i j x y} hx hy hij z => hij (by
    subst z
    have nd := G.nd
    rw [G.N] at nd
    obtain ⟨h1, e1⟩ := List.getElem?_eq_some_iff.mp hx
    obtain ⟨h2, e2⟩ := List.getElem?_eq_some_iff.mp hy
    exact (List.getElem_inj nd).mp (e1.trans e2.symm))
  have hxy := diff hx hy hij
  have hxz := diff hx hz hil
  have hyz := diff hy hz hjl
  refine weakS (ps_par3 (i := i) (j := j) (l := l) G.calm G.nd (by rw [G.N]; exact hx) (by rw [G.N]; exact hy) (by rw [G.N]; exact hz) hij hil hjl (by rw [G.sc]; exact hxl) (by rw [G.sc]; exact hyl) (by rw [G.sc]; exact hzl) (pa_cons ha (pa_cons hb (pa_cons hc pa_nil (star1 hsc)) (star1 hsb)) (star1 hsa)) ?_ ?_) fun D σ H ⟨w, r, e, ok, rs, sb, st⟩ => ?_
  · obtain ⟨hf1, hf2⟩ := Bool.or_eq_false_iff.mp hff
    have kk : ∀ {x : Str}, Φ.sc.names.lookup x = some .local → X.env.kindOf x = some .local := fun {x} h => by
      show X.env.scope.names.lookup x = _
      rw [G.sc]; exact h
    have hkx := kk hxl
    have hky := kk hyl
    have hkz := kk hzl
    have hbk : X.env.blockKind = .function := by
      show (if X.env.scope.kind.isAnnotationScope then _ else _) = _
      rw [G.sc, hk]
      rfl
    have hany : (([a, b, c] : List Expr).any fun | .Starred .. => true | _ => false) = false := by
      have q : ∀ {e : Expr}, nostar e = true → (match e with | .Starred .. => true | _ => false) = false := fun {e} h => by cases e <;> first | rfl | cases h
      simp only [List.any_cons, List.any_nil, Bool.or_false]
      rw [q hsa, q hsb, q hsc]
      rfl
    unfold swappedStores
    simp only [List.length_cons, List.length_nil]
    rw [hbk]
    simp only [hany, List.head?_cons, Option.map_some, Option.getD_some, List.filterMap_cons, List.filterMap_nil, hkx, hky, hkz]
    simp [hl, hl2, hf1, hf2, three_nodup hxy hxz hyz, Expr.pos]
    have e1 : (py.line == px.line) = true := hl
    have e2 : (pz.line == px.line) = true := hl2
    simp_all
    intro z
    exfalso
    rcases z with z | z | z
    · cases a <;> first | (cases hsa; done) | (cases z; done)
    · cases b <;> first | (cases hsb; done) | (cases z; done)
    · cases c <;> first | (cases hsc; done) | (cases z; done)
  · rfl
  · subst e
    refine sE ok rs sb st fun u w1 g1 ok1 s1 uv ru => ?_
    refine sE ok1 (rs.grow g1) sb s1 fun v w2 g2 ok2 s2 vv rv => ?_
    refine sE ok2 ((rs.grow g1).grow g2) sb s2 fun t w3 g3 ok3 s3 tv rt => ?_
    refine ⟨uv, vv, tv, rfl, ?_⟩
    have s3 : Sat p.g w3 (wrA p.g W ρ) (if i < r.length ∧ j < r.length ∧ l < r.length then R.ok (.nx (((r.set i (some u)).set j (some v)).set l (some t))) w3.mu else .bad) (flP p.g D) := s3
    split at s3
    · exact flNow s3 ok3 ((((((rs.grow g1).grow g2).grow g3).set i ((ru.grow g2).grow g3)).set j (rv.grow g3)).set l rt)
    · exact s3.elim
end
end Rs

/-! part RsS7 -/
set_option Elab.async false
set_option linter.all false
set_option maxRecDepth 100000
set_option maxHeartbeats 4000000
/-! x = {.. for ..}, x a local; a comprehension to a cell; a, b = c, d with a cell -/
namespace Rs
open PySem L2
/-- a name that is no plain local -/
def celN (Φ : Ctx) : Expr → Bool
  | .Name x _ => Φ.sc.names.lookup x != some .local
  | _ => false
def celT (Φ : Ctx) : Expr → Bool
  | .Tuple ts _ _ => ts.any (celN Φ)
  | _ => false
section
variable {p : Pgm} {Φ : Ctx} {X : Cx} {k : Nat} {W : WX} {ρ : Ev} {a b c e : Expr} {ia ib ic ie : IE} {pos apos : Pos} {rest es : List Expr} {ies : IEs} {f : IF} {t : IT} {ts : ITs} {tg : Expr}
theorem kind_of (G : Good p Φ X k W) (x : Str) : X.env.kindOf x = Φ.sc.names.lookup x := by
  show X.env.scope.names.lookup x = _
  rw [G.sc]
theorem sole_cel (G : Good p Φ X k W) {v : Expr} {l : Nat} (h : celN Φ tg = true) : swapsWithSole [tg] v l X.env = pure false := by
  cases tg with
  | Name x q =>
    have hk : (X.env.kindOf x == some .local) = false := by
      rw [kind_of G]
      simpa [celN] using h
    have z : ∀ (s : Scope), (X.env.blockKind == .function && X.env.kindOf x == some .local && q.line == v.pos.line && !(s.names.any fun (n, k) => n == x && (k == .local || k == .cell))) = false := fun s => by
      rw [hk]
      simp
    unfold swapsWithSole
    cases v with
    | ListComp a b s d => exact congrArg pure (z s)
    | SetComp a b s d => exact congrArg pure (z s)
    | DictComp a b c s d => exact congrArg pure (z s)
    | _ => rfl
  | _ => cases h
theorem fm_ne {f : Expr → Option Str} {y : Expr} : ∀ {us : List Expr}, y ∈ us → f y = none → ((us.filterMap f).length != us.length) = true := by
  have lt : ∀ us : List Expr, y ∈ us → f y = none → (us.filterMap f).length < us.length := fun us => by
    induction us with
    | nil => intro z; cases z
    | cons u us ih =>
      intro z h
      have le := List.length_filterMap_le f us
      rcases List.mem_cons.mp z with rfl | z
      · rw [List.filterMap_cons_none h, List.length_cons]
        omega
      · have := ih z h
        rw [List.filterMap_cons]
        split
        · rw [List.length_cons]; omega
        · rw [List.length_cons, List.length_cons]; omega
  intro us hy h
  have := lt us hy h
  rw [bne_iff_ne]
  omega
theorem sw_cel (G : Good p Φ X k W) {v : Expr} (h : celT Φ tg = true) : swappedStores [tg] v X.env = pure none := by
  cases tg with
  | Tuple ts i q =>
    cases v with
    | Tuple vs j q' =>
      obtain ⟨y, hy, hc⟩ := List.any_eq_true.mp (show ts.any (celN Φ) = true from h)
      unfold swappedStores
      simp only [pure_bind]
      split
      · rfl
      · split
        · rfl
        · refine if_pos ?_
          rw [Bool.or_eq_true]
          refine .inl (fm_ne hy ?_)
          cases y with
          | Name x q =>
            have hk : (X.env.kindOf x == some .local) = false := by
              rw [kind_of G]
              simpa [celN] using hc
            show (if (X.env.kindOf x == some .local && _) = true then some x else none) = none
            rw [hk]
            rfl
          | _ => cases hc
    | _ => rfl
  | _ => cases h
theorem sw_dict {kx vx : Expr} {gs : List Comprehension} {scope : Scope} {pos py : Pos} {y : Str} {l : Nat} {env : Env} (hk : env.scope.kind = .function) (hy : env.scope.names.lookup y = some .local) (hl : (py.line == pos.line) = true)
    (ha : (scope.names.any fun (n, k) => n == y && (k == .local || k == .cell)) = false) : swapsWith (.DictComp kx vx gs scope pos) (some (.Name y py)) l env = pure true := by
  have h1 : env.kindOf y = some .local := hy
  have h2 : env.blockKind = .function := by unfold Env.blockKind; rw [hk]; rfl
  unfold swapsWith
  simp only [h1, h2, ha, Expr.pos, hl]
  rfl
theorem ps_dictTo {i : Nat} {y : Str} {py : Pos} {kx vx tg iter : Expr} {ifs : List Expr} {scope : Scope} {own : List (Str × Nat)} {pos spos : Pos} {wi : TI} {g : TG} {tt : TT} {tk tv : TE} (hc : X.calm = true) (hN : X.N.Nodup) (hy : X.N[i]? = some y) (hyl : X.env.scope.names.lookup y = some .local)
    (hsw : swapsWith (.DictComp kx vx [⟨tg, iter, ifs, 0⟩] scope pos) (some (.Name y py)) spos.line X.env = pure true) (hi : PI X tg iter wi) (ok : BlkOk X.N X.env.scope scope own)
    (hg : ∀ (s : Shared) (H : Hp) (C : Addr) (cl : List (Str × Addr)) (fp : List Addr), PG (X.blk s H scope (compEnvC scope cl C X.env) fp) tg g) (ht : ∀ (s : Shared) (H : Hp) (C : Addr) (cl : List (Str × Addr)) (fp : List Addr), PTs (X.blk s H scope (compEnvC scope cl C X.env) fp) ifs tt)
    (hk : ∀ (s : Shared) (H : Hp) (C : Addr) (cl : List (Str × Addr)) (fp : List Addr), PE (X.blk s H scope (compEnvC scope cl C X.env) fp) kx tk)
    (he : ∀ (s : Shared) (H : Hp) (C : Addr) (cl : List (Str × Addr)) (fp : List Addr), PE (X.blk s H scope (compEnvC scope cl C X.env) fp) vx tv) (hs : ∀ x, foldedSetIterable iter X.env x = pure x) :
    PS X (.Assign [.Name y py] (.DictComp kx vx [⟨tg, iter, ifs, 0⟩] scope pos) spos) (tAsg (tDc wi g tt tk tv (own.map (·.2))) (gName i)) := by
  constructor
  intro pins s σ H D I h
  rw [exec_Assign_Name_used _ _ _ _ hsw]
  refine wpAny_bind (wpAny_standAt (wpAny_bind ?_))
  show wpAny _ X.A (do let _ ← comprehension (.DictComp kx vx [⟨tg, iter, ifs, 0⟩] scope pos) scope X.env (firstIterPos [⟨tg, iter, ifs, 0⟩] pos) newDict false (eval iter X.env) (some (assign (.Name y py) X.env))) _ _ s
  have h : tDc wi g tt tk tv (own.map (·.2)) σ H (fun x H1 => gName i x σ H1 D.nx) := h
  refine wpAny_bind (thn (dc_core (Qf := fun _ s' => SP X pins D .next s') hc hN I hi ok hg ht hk he hs h fun L C s' m H' I' q hn ⟨f0, f1, f2, f3, f4, f5⟩ => ?_) fun _ s' hq => wpAny_pure (wpAny_pure hq))
  show wpAny _ _ (assign (.Name y py) X.env (.ref L)) _ _ _
  refine wpAny_assign_Name (store_ok2 (v := V.ref L) I' hN hy (.inl hyl) rfl (fun s2 I2 ⟨a, sb, ha⟩ => ?_) (.inr hyl))
  refine ⟨m, hn.sameBut sb (ha.elim (fun z => z ▸ f1) fun z e => f4 y a z e.symm), fun h3 sb3 => ?_⟩
  exact ⟨_, H', I2.turned (t' := s2.toks) (fun b o hb e => (sb3.2 b hb).trans e) f0 f1 f3 f4 f5, q⟩
theorem ss_dictTo (G : Good p Φ X k W) {i : Nat} {y : Str} {py spos : Pos} {iter : Expr} {scope : Scope} {own : List (Str × Nat)} {s : II} (hy : Φ.N[i]? = some y) (hyl : Φ.sc.names.lookup y = some .local) (hk : Φ.sc.kind = .function) (hl : (py.line == pos.line) = true)
    (hsc : (scope.names.any fun (n, k) => n == y && (k == .local || k == .cell)) = false) (hb : BlkOk Φ.N Φ.sc scope own) (hn : noSet iter = true) (hsl : ∀ i ∈ slT t, i ∈ own.map (·.2))
    (hi : SI p X k W tg iter s) (hg : ∀ Y W', Good p (Φ.blk scope) Y k W' → PG Y tg (tG p.g t)) (ha : ∀ Y W', Good p (Φ.blk scope) Y k W' → SE p Y k W' a ia) (he : ∀ Y W', Good p (Φ.blk scope) Y k W' → SE p Y k W' b ib) :
    SS p X k W ρ (.Assign [.Name y py] (.DictComp a b [⟨tg, iter, [], 0⟩] scope pos) spos) (.asg (.nm i) (.fz (.dcm ia ib t s (own.map (·.2))))) :=
  weakS (ps_dictTo (own := own) G.calm G.nd (by rw [G.N]; exact hy) (by rw [G.sc]; exact hyl) (sw_dict (by rw [G.sc]; exact hk) (by rw [G.sc]; exact hyl) hl hsc) hi (by rw [G.N, G.sc]; exact hb) (fun s H C cl fp => hg _ _ (G.blk s H scope C cl fp)) (fun s H C cl fp => sb_no) (fun s H C cl fp => ha _ _ (G.blk s H scope C cl fp)) (fun s H C cl fp => he _ _ (G.blk s H scope C cl fp)) (folded_of hn)) fun D σ H ⟨w, r, e, ok, rs, sb, st⟩ => by
    subst e
    refine dcm_imp hsl ?_
    have key : tE p.g (p.E k (.fz (.dcm ia ib t s (own.map (·.2))))) W σ w.H (fun x H1 => D.nx (σ.set i (some x)) H1) := sE ok rs sb st fun x w1 g1 ok1 s1 v1 r1 => by
      have s1 : Sat p.g w1 _ (R.opt ((bindT (.nm i) x r).map Fl.nx) w1.mu) (flP p.g D) := s1
      obtain ⟨fl, hf, _⟩ := s1.opt ok1
      obtain ⟨r', hb, rfl⟩ := Option.map_eq_some_iff.mp hf
      rw [hb] at s1
      have hb : (if i < r.length then some (r.set i (some x)) else none) = some r' := hb
      split at hb
      · cases hb
        exact flNow s1 ok1 ((rs.grow g1).set i r1)
      · cases hb
    exact fz_imp key
end
end Rs

/-! part RsSet3 -/
set_option Elab.async false
set_option linter.all false
set_option maxRecDepth 100000
set_option maxHeartbeats 4000000
/-! sets of ints and texts: walked, & and == set() -/
namespace RsSet
open PySem PySem.Spec PyProof.Rows L2
theorem entry_set_and : entryFor table "set.__and__" = some Builtin.«frozenset.__and__» := entryFor_alias (id' := "frozenset.__and__") (by kernel_rfl) rfl (by decide +kernel) (by kernel_rfl)
theorem entry_set_eq : entryFor table "set.__eq__" = some Builtin.«frozenset.__eq__» := entryFor_alias (id' := "frozenset.__eq__") (by kernel_rfl) rfl (by decide +kernel) (by kernel_rfl)
def memB (k : Key) (L : List Key) : Bool := L.any fun q => decide (q = k)
theorem memB_iff {k : Key} {L : List Key} : memB k L = true ↔ k ∈ L := by
  unfold memB
  rw [List.any_eq_true]
  exact ⟨fun ⟨q, h, e⟩ => (of_decide_eq_true e) ▸ h, fun h => ⟨k, h, decide_eq_true rfl⟩⟩
section
variable {P : Program} {w : World} {A : Around} {E : Value → Shared → Prop} {s : Shared} {a : Addr} {L : List Key}
theorem KR.up {h h' : Heap} (R : KR w h a L) (k : ∀ o, h.get? a = some o → h'.get? a = some o) : KR w h' a L := by
  obtain ⟨o, es, ep, t, ho, r⟩ := R
  exact ⟨o, es, ep, t, k o ho, r⟩
theorem KR.typeIs (R : KR w s.heap a L) : s.TypeIs (.ref a) "set" := by
  obtain ⟨o, es, ep, t, ho, hex, _⟩ := R
  exact ⟨o, ho, hex.1⟩
theorem KR.setOf {h : Heap} (R : KR w h a L) : h.SetOf (mixKind P w) a (fun k => memB k L) L.length := by
  obtain ⟨o, es, ep, t, ho, hex, hd, g, rfl, nd, hb, hf, _⟩ := R
  refine ⟨o, es, ep, t, ho, hex, hd, good_elem g, fun k => ?_, hb, hf, ?_⟩
  · rw [memB_iff]
    constructor
    · intro hk
      obtain ⟨e, he, q⟩ := List.mem_map.mp hk
      exact ⟨e, he, (good_key (P := P) (g e he)).mpr q⟩
    · rintro ⟨e, he, q⟩
      exact List.mem_map.mpr ⟨e, he, (good_key (P := P) (g e he)).mp q⟩
  · unfold keysOf
    rw [List.length_map, Array.length_toList]
/-- the rows in some order -/
theorem walk_any {o : Obj} {es : Array (Int × Value)} {ep : Nat} {t : SetTable} {Q : Array (Int × Value) → Shared → Prop} (ho : s.heap.get? a = some o) (hd : o.data = .set es ep t) (hf : t.fits es.size = true) (hl : w.params.followText "set-order" = true ∨ t.led = true)
    (hQ : ∀ out d, out.toList.Perm es.toList → Q out { s with drawn := d }) : wpAny (model P w) A (setWalk a) Q E s := by
  unfold setWalk
  apply wpAny_bind
  refine wpAny_setState_of ho hd hf ?_
  dsimp only
  apply wpAny_bind
  apply wpAny_byText
  cases ht : w.params.followText "set-order"
  · have led : t.led = true := hl.resolve_left (by rw [ht]; exact Bool.false_ne_true)
    refine wp_if_neg Bool.false_ne_true ?_
    split
    · apply wpAny_bind
      refine drawOrder_at es.size es.toList s _ (by rw [Array.length_toList]; exact Nat.le_refl _) fun ys d p => ?_
      exact wpAny_pure (hQ ys.toArray d (by simpa using p))
    · apply wpAny_bind
      show wpAny _ _ (if (!t.led && _) = true then _ else _) _ _ _
      rw [led]
      refine wp_if_neg (by simp) ?_
      exact wpAny_pure (wpAny_pure (hQ es s.drawn (.refl _)))
  · refine wp_if_pos rfl ?_
    apply wpAny_bind
    refine wpAny_askSetting ?_
    exact wpAny_pure (hQ _ s.drawn (pick_perm _ es))
theorem good_noref {e : Int × Value} (g : Good w e) : ∀ b, e.2 ≠ .ref b := fun b z => by
  rcases keyIs_shape g.1 with ⟨i, t, _, h⟩ | ⟨x, t, _, h⟩ <;> rw [z] at h <;> cases h
theorem quiet_any {Q : Bool → Shared → Prop} (sets : List Addr) (hs : ∀ b ∈ sets, ∃ Lb, KR w s.heap b Lb) (h : Q true s) : wpAny (model P w) A (setsQuiet sets) Q E s := by
  unfold setsQuiet
  apply wpAny_bind
  refine wpAny_forIn_list _ (fun rest r s' => r.1 = none ∧ s' = s ∧ ∀ b ∈ rest, ∃ Lb, KR w s.heap b Lb) _ ?_ ?_ _ _ ⟨rfl, rfl, hs⟩
  · rintro b rest r s' ⟨hr, rfl, hall⟩
    obtain ⟨Lb, o, es, ep, t, ho, hex, hd, g, _, _, _, hf, _⟩ := hall b List.mem_cons_self
    apply wpAny_bind
    refine wpAny_setEntries_of ho hd hf ?_
    apply wpAny_bind
    show wpAny _ _ (forIn es _ _) _ _ s'
    rw [← Array.forIn_toList]
    refine wpAny_forIn_list _ (fun rest r s2 => r.1 = none ∧ s2 = s' ∧ ∀ e ∈ rest, Good w e) _ ?_ ?_ _ _ ⟨rfl, rfl, g⟩
    · rintro ⟨k, v⟩ rest2 r2 s2 ⟨hr2, rfl, hall2⟩
      have gv := hall2 (k, v) List.mem_cons_self
      have tl : ∀ e ∈ rest2, Good w e := fun e he => hall2 e (List.mem_cons_of_mem _ he)
      rcases keyIs_shape gv.1 with ⟨i, t, _, h⟩ | ⟨x, t, _, h⟩
      · have h : v = .int i t := h
        subst h
        exact wpAny_pure ⟨rfl, rfl, tl⟩
      · have h : v = .str x t := h
        subst h
        exact wpAny_pure ⟨rfl, rfl, tl⟩
    · rintro ⟨r1, r2⟩ s2 ⟨hr2, rfl, _⟩
      simp only at hr2
      subst hr2
      exact wpAny_pure ⟨rfl, rfl, fun b hb => hall b (List.mem_cons_of_mem _ hb)⟩
  · rintro ⟨r1, r2⟩ s' ⟨hr, rfl, _⟩
    simp only at hr
    subst hr
    exact wpAny_pure h
/-- .. where nobody looks: the set to be filled gets the marks of the walked one -/
theorem walkUnseen_any {o : Obj} {es : Array (Int × Value)} {ep : Nat} {t : SetTable} {r b : Addr} {Lr Lb : List Key} {Q : Array (Int × Value) → Shared → Prop} (ho : s.heap.get? a = some o) (hd : o.data = .set es ep t) (hf : t.fits es.size = true) (hl : w.params.followText "set-order" = true ∨ t.led = true)
    (Ra : KR w s.heap a (keysOf es)) (Rb : KR w s.heap b Lb) (Rr : KR w s.heap r Lr) (hra : r ≠ a) (hrb : r ≠ b)
    (hQ : ∀ out d h', out.toList.Perm es.toList → Heap.SameBut r s.heap h' → KR w h' r Lr → Q out { s with heap := h', drawn := d }) : wpAny (model P w) A (setWalkUnseen a [b, r] (some r)) Q E s := by
  unfold setWalkUnseen
  apply wpAny_bind
  refine wpAny_setState_of ho hd hf ?_
  dsimp only
  apply wpAny_bind
  apply wpAny_byText
  by_cases c : (w.params.followText "set-order" || t.led && t.plain || decide (es.size ≤ 1)) = true
  · refine wp_if_pos c ?_
    exact walk_any ho hd hf hl fun out d p => hQ out d s.heap p (Heap.SameBut.refl r s.heap) Rr
  · refine wp_if_neg c ?_
    apply wpAny_bind
    refine quiet_any [a, b, r] (fun x hx => ?_) ?_
    · simp only [List.mem_cons, List.not_mem_nil, or_false] at hx
      rcases hx with rfl | rfl | rfl
      · exact ⟨_, Ra⟩
      · exact ⟨_, Rb⟩
      · exact ⟨_, Rr⟩
    refine wp_if_neg (by simp) ?_
    apply wpAny_bind
    apply wpAny_rule
    obtain ⟨o2, es2, ep2, t2, ho2, hex2, hd2, g2, e2, nd2, b2, f2, r2, l2⟩ := Rr
    apply wpAny_bind
    refine wpAny_setState_of ho2 hd2 f2 ?_
    dsimp only
    split
    · apply wpAny_bind
      refine wpAny_storeSet_of ho2 hd2 ?_ (fits_of_scanBound b2)
      have sb := Heap.SameBut.update s.heap r (Obj.putSet es2 { t2 with led := t2.led && t.led, plain := t2.plain && t.plain })
      refine wpAny_pure (hQ es s.drawn _ (.refl _) sb ⟨_, es2, _, _, store_at ho2 hd2, hex2, rfl, g2, e2, nd2, b2, f2, r2, ?_⟩)
      rcases hl with z | z
      · exact .inl z
      · rcases l2 with y | y
        · exact .inl y
        · exact .inr (by show (t2.led && t.led) = true; rw [y, z]; rfl)
    · exact wpAny_pure (hQ es s.drawn s.heap (.refl _) (Heap.SameBut.refl r s.heap) ⟨o2, es2, ep2, t2, ho2, hex2, hd2, g2, e2, nd2, b2, f2, r2, l2⟩)
theorem set_inst (R : KR w s.heap a L) {Q : Bool → Shared → Prop} (h : Q true s) : wpAny (model P w) A (isInstance (.ref a) (.type "set")) Q E s := wpAny_isInstance R.typeIs sub_set_self h
theorem any_set (R : KR w s.heap a L) {Q : Bool → Shared → Prop} (h : Q true s) : wpAny (model P w) A (Builtin.Frozenset.isAnySet (.ref a)) Q E s := by
  unfold Builtin.Frozenset.isAnySet
  refine wpAny_bind (set_inst R ?_)
  exact wpAny_pure h
theorem size_at (R : KR w s.heap a L) {Q : Nat → Shared → Prop} (h : Q L.length s) : wpAny (model P w) A (Builtin.Frozenset.sizeOf a) Q E s := by
  obtain ⟨o, es, ep, t, ho, hex, hd, g, rfl, nd, hb, hf, _⟩ := R
  unfold Builtin.Frozenset.sizeOf
  apply wpAny_bind
  refine wpAny_setEntries_of ho hd hf ?_
  apply wpAny_pure
  have e : (keysOf es).length = es.size := by
    unfold keysOf
    rw [List.length_map, Array.length_toList]
  rw [← e]
  exact h
/-- the loop of &: what is walked, asked of the other one, added -/
theorem inter_loop {asked walked r : Addr} {Lx : List Key} {nm : String} (hrw : r ≠ walked) (hra : r ≠ asked) {Q : PUnit → Shared → Prop} {ow : Obj} {ew : Array (Int × Value)} {ep : Nat} {tw : SetTable} (hdw : ow.data = .set ew ep tw) (hfw : tw.fits ew.size = true)
    (rows : List (Int × Value)) : ∀ (s : Shared) (Lr done : List Key), (∀ e ∈ rows, Good w e) → s.heap.get? walked = some ow → KR w s.heap asked Lx → KR w s.heap r Lr → (∀ k, k ∈ Lr ↔ k ∈ done ∧ k ∈ Lx) → Lr.length + rows.length < scanBound →
      (∀ h' d tk L, KR w h' r L → (∀ k, k ∈ L ↔ (k ∈ done ++ rows.map fun e => kOf e.2) ∧ k ∈ Lx) → Heap.SameBut r s.heap h' → Q PUnit.unit { s with heap := h', drawn := d, toks := tk }) →
      wpAny (model P w) A (forIn rows PUnit.unit fun x __s => match x with
                      | (h, x) => do
                        holding [x] do
                            let __do_lift ← setFind asked x h
                            if __do_lift.isSome = true then do
                                let _ ← setAddHashed r x h
                                pure ()
                              else pure ()
                        Builtin.Frozenset.unchanged nm walked ep
                        pure (ForInStep.yield PUnit.unit)) Q E s := by
  induction rows with
  | nil =>
    intro s Lr done g hw Ra Rr hL hn hQ
    exact wpAny_pure (hQ s.heap s.drawn s.toks Lr Rr (by simpa using hL) (Heap.SameBut.refl r s.heap))
  | cons e rows ih =>
    intro s Lr done g hw Ra Rr hL hn hQ
    obtain ⟨hh, v⟩ := e
    have ge := g (hh, v) List.mem_cons_self
    have e1 : hh = (mixKind P w).hash (kOf v) := ge.2
    have hk : keyIs (kOf v) v = true := ge.1
    rw [List.forIn_cons]
    apply wpAny_bind
    dsimp only
    apply wpAny_bind
    apply wpAny_holding
    apply wpAny_bind
    rw [e1]
    refine wpAny_setFind_of (knd := mixKind P w) hk (scan_is hk) Ra.setOf fun q hq => ?_
    have quiet : ∀ (s2 : Shared) (Q' : Unit → Shared → Prop), s2.heap.get? walked = some ow → Q' () s2 → wpAny (model P w) A (Builtin.Frozenset.unchanged nm walked ep) Q' E s2 := fun s2 Q' hw2 q2 => by
      unfold Builtin.Frozenset.unchanged
      apply wpAny_bind
      refine wpAny_setEpoch_of hw2 hdw hfw ?_
      refine wp_if_neg (by simp) ?_
      exact wpAny_pure q2
    by_cases hm : kOf v ∈ Lx
    · refine wp_if_pos (by rw [hq, memB_iff]; exact hm) ?_
      apply wpAny_bind
      refine put_key hk Rr (by simp only [List.length_cons] at hn; omega) fun b h' L' sb R' c1 c2 => ?_
      apply wpAny_pure
      have hw2 : h'.get? walked = some ow := (sb.2 walked (Ne.symm hrw)).trans hw
      apply wpAny_bind
      refine quiet { s with heap := h' } _ hw2 ?_
      apply wpAny_pure
      dsimp only
      refine ih { s with heap := h' } L' (done ++ [kOf v]) (fun e he => g e (List.mem_cons_of_mem _ he)) hw2 (Ra.up fun o ho => (sb.2 asked (Ne.symm hra)).trans ho) R' (fun k => ?_) ?_ fun h2 d tk L2 R2 hL2 sb2 => ?_
      · by_cases hin : kOf v ∈ Lr
        · rw [c1 hin, hL k, List.mem_append, List.mem_singleton]
          exact ⟨fun ⟨y, z⟩ => ⟨.inl y, z⟩, fun ⟨y, z⟩ => ⟨y.elim id fun y => by rw [y]; exact ((hL _).mp hin).1, z⟩⟩
        · rw [(c2 hin).mem_iff, List.mem_cons, hL k, List.mem_append, List.mem_singleton]
          exact ⟨fun y => y.elim (fun y => ⟨.inr y, y ▸ hm⟩) fun ⟨y, z⟩ => ⟨.inl y, z⟩, fun ⟨y, z⟩ => y.elim (fun y => .inr ⟨y, z⟩) .inl⟩
      · have : L'.length ≤ Lr.length + 1 := by
          by_cases hin : kOf v ∈ Lr
          · rw [c1 hin]; omega
          · rw [(c2 hin).length_eq, List.length_cons]; exact Nat.le_refl _
        simp only [List.length_cons] at hn
        omega
      · refine hQ h2 d tk L2 R2 (fun k => ?_) (sb.trans sb2)
        rw [hL2 k, List.map_cons, List.append_assoc]
        rfl
    · refine wp_if_neg (by rw [hq]; intro z; exact hm (memB_iff.mp z)) ?_
      apply wpAny_pure
      apply wpAny_bind
      refine quiet s _ hw ?_
      apply wpAny_pure
      dsimp only
      refine ih s Lr (done ++ [kOf v]) (fun e he => g e (List.mem_cons_of_mem _ he)) hw Ra Rr (fun k => ?_) (by simp only [List.length_cons] at hn; omega) fun h2 d tk L2 R2 hL2 sb2 => ?_
      · rw [hL k, List.mem_append, List.mem_singleton]
        exact ⟨fun ⟨y, z⟩ => ⟨.inl y, z⟩, fun ⟨y, z⟩ => ⟨y.elim id fun y => absurd (y ▸ z) hm, z⟩⟩
      · refine hQ h2 d tk L2 R2 (fun k => ?_) sb2
        rw [hL2 k, List.map_cons, List.append_assoc]
        rfl
theorem inter_any {b : Addr} {La Lb : List Key} {nm : String} {Q : Value → Shared → Prop} (Ra : KR w s.heap a La) (Rb : KR w s.heap b Lb) (hab : a ≠ b)
    (h : ∀ h' d tk L, KR w h' s.heap.objs.size L → (∀ k, k ∈ L ↔ k ∈ La ∧ k ∈ Lb) → Up s.heap h' → Q (.ref s.heap.objs.size) { s with heap := h', drawn := d, toks := tk }) :
    wpAny (model P w) A (Builtin.Frozenset.intersection nm a (.ref b)) Q E s := by
  unfold Builtin.Frozenset.intersection
  have ne : (Value.ref b == Value.ref a) = false := by
    rw [beq_eq_false_iff_ne]
    intro z
    injection z with z
    exact hab z.symm
  rw [ne]
  refine wp_if_neg Bool.false_ne_true ?_
  unfold Builtin.Frozenset.baseOf
  apply wpAny_bind
  apply wpAny_bind
  refine set_inst Ra ?_
  apply wpAny_pure
  simp only [if_true]
  apply wpAny_bind
  refine wpAny_newSet_raw fun led hled => ?_
  subst hled
  generalize hh1 : s.heap.push (newSet w) = h1
  have hh1' : s.heap.push { cls := .type "set", dict := none, data := .set #[] 0 (.fresh 0 0 (!w.params.followText "set-order")) } = h1 := hh1
  rw [hh1']
  have got : h1.get? s.heap.objs.size = some (newSet w) := by rw [← hh1]; exact Heap.get?_push_size _ rfl
  have up1 : Up s.heap h1 := fun b o e => by rw [← hh1]; exact Heap.get?_push_of_some _ e
  have Ra1 : KR w h1 a La := Ra.up fun o e => up1 a o e
  have Rb1 : KR w h1 b Lb := Rb.up fun o e => up1 b o e
  have Rr1 : KR w h1 s.heap.objs.size [] := kr_new got
  have free : ∀ x {Lx : List Key}, KR w s.heap x Lx → s.heap.objs.size ≠ x := fun x Lx R z => by
    obtain ⟨o, es, ep, t, ho, _⟩ := R
    exact absurd (Heap.lt_size ho) (by rw [z]; exact Nat.lt_irrefl _)
  have hra := free a Ra
  have hrb := free b Rb
  apply wpAny_bind
  apply wpAny_pure
  apply wpAny_bind
  apply wpAny_holding
  apply wpAny_bind
  refine any_set (s := { s with heap := h1 }) Rb1 ?_
  simp only [if_true]
  apply wpAny_bind
  apply wpAny_pure
  apply wpAny_bind
  refine size_at (s := { s with heap := h1 }) Rb1 ?_
  apply wpAny_bind
  refine size_at (s := { s with heap := h1 }) Ra1 ?_
  have go : ∀ (asked walked : Addr) (Lx Lw : List Key), KR w h1 asked Lx → KR w h1 walked Lw → s.heap.objs.size ≠ walked → s.heap.objs.size ≠ asked → (∀ k, k ∈ Lw ∧ k ∈ Lx ↔ k ∈ La ∧ k ∈ Lb) →
      wpAny (model P w) A (do
          let was ← setEpoch walked
          let __do_lift ← setWalkUnseen walked [asked, s.heap.objs.size] (some s.heap.objs.size)
          forIn __do_lift PUnit.unit fun x __s => match x with
                      | (h, x) => do
                        holding [x] do
                            let __do_lift ← setFind asked x h
                            if __do_lift.isSome = true then do
                                let _ ← setAddHashed s.heap.objs.size x h
                                pure ()
                              else pure ()
                        Builtin.Frozenset.unchanged nm walked was
                        pure (ForInStep.yield PUnit.unit)
          pure ()) (fun _ s' => Q (.ref s.heap.objs.size) s') E { s with heap := h1 } := by
    intro asked walked Lx Lw Rx Rw hrw hrx hmem
    obtain ⟨o, es, ep, t, ho, hex, hd, g, e, nd, hb, hf, hr, hl⟩ := id Rw
    apply wpAny_bind
    refine wpAny_setEpoch_of (s := { s with heap := h1 }) ho hd hf ?_
    apply wpAny_bind
    refine walkUnseen_any (s := { s with heap := h1 }) ho hd hf hl (by rw [e]; exact Rw) Rx Rr1 hrw hrx fun out d h' p sb R' => ?_
    apply wpAny_bind
    rw [← Array.forIn_toList]
    have hlen : out.toList.length = es.size := by rw [p.length_eq, Array.length_toList]
    refine inter_loop hrw hrx hd hf out.toList { s with heap := h', drawn := d } [] [] (fun q hq => g q (p.mem_iff.mp hq)) ((sb.2 walked (Ne.symm hrw)).trans ho) (Rx.up fun o2 h2 => (sb.2 asked (Ne.symm hrx)).trans h2) R' (fun k => by simp) (by rw [hlen, List.length_nil, Nat.zero_add]; exact hb) fun h2 d2 tk L R2 hL sb2 => ?_
    apply wpAny_pure
    refine h h2 d2 tk L R2 (fun k => ?_) fun x o2 e2 => ?_
    · rw [hL k, List.nil_append, ← hmem k, (p.map fun e => kOf e.2).mem_iff, ← e]
      rfl
    · have hx : s.heap.objs.size ≠ x := fun z => absurd (Heap.lt_size e2) (by rw [z]; exact Nat.lt_irrefl _)
      exact (sb2.2 x (Ne.symm hx)).trans ((sb.2 x (Ne.symm hx)).trans (up1 x o2 e2))
  split
  · exact wpAny_mono (go b a Lb La Rb1 Ra1 hra hrb fun k => Iff.rfl) (fun _ s' q => wpAny_pure q) (fun _ _ z => z)
  · exact wpAny_mono (go a b La Lb Ra1 Rb1 hrb hra fun k => And.comm) (fun _ s' q => wpAny_pure q) (fun _ _ z => z)
theorem slot_two {nm : String} {x y : Value} {Q : Value × Value → Shared → Prop} (h : Q (x, y) s) : wpAny (model P w) A (Builtin.Frozenset.slot1 nm { pos := [x, y] }) Q E s := by
  unfold Builtin.Frozenset.slot1 slotArgs
  simp only [List.isEmpty_nil, Bool.not_true, Bool.false_eq_true, if_false, List.length_cons, List.length_nil, bne_self_eq_false]
  exact wpAny_bind (wpAny_pure (wpAny_pure h))
/-- set & set -/
theorem and_any {b : Addr} {La Lb : List Key} {Q : Value → Shared → Prop} (Ra : KR w s.heap a La) (Rb : KR w s.heap b Lb) (hab : a ≠ b)
    (h : ∀ h' d tk L, KR w h' s.heap.objs.size L → (∀ k, k ∈ L ↔ k ∈ La ∧ k ∈ Lb) → Up s.heap h' → Q (.ref s.heap.objs.size) { s with heap := h', drawn := d, toks := tk }) :
    wpAny (model P w) A (binaryOp .BitAnd (.ref a) (.ref b)) Q E s := by
  refine wpAny_binaryOp_same (id := "set.__and__") Ra.typeIs Rb.typeIs F.fills_set_and F.slot_set_and ?_
  refine wpAny_call_entry F.slot_set_and Ra.typeIs entry_set_and ?_ (F.args_set_and_2 _ _)
  unfold Builtin.«frozenset.__and__»
  show wpAny _ _ (Builtin.Frozenset.slot1 "__and__" { pos := [Value.ref a, Value.ref b] } >>= _) _ _ _
  apply wpAny_bind
  refine slot_two ?_
  dsimp only
  simp only [Bool.false_eq_true, if_false]
  apply wpAny_bind
  refine wpAny_bind (any_set Ra ?_)
  refine any_set Rb ?_
  refine wp_if_neg (by simp) ?_
  apply wpAny_bind
  apply wpAny_pure
  apply wpAny_bind
  refine inter_any Ra Rb hab fun h' d tk L R hL u => ?_
  exact wpAny_pure ⟨_, rfl, (fun z => by cases z), h h' d tk L R hL u⟩
/-- set == set() -/
theorem eq_any {b : Addr} {La : List Key} {Q : Value → Shared → Prop} (Ra : KR w s.heap a La) (Rb : KR w s.heap b []) (hu : A.units < cLine) (h : ∀ tk, Q (.bool La.isEmpty) { s with toks := tk }) :
    wpAny (model P w) A (compareOp .Eq (.ref a) (.ref b)) Q E s := by
  show wpAny _ _ (richCompare .Eq (.ref a) (.ref b)) _ _ _
  refine wpAny_richCompare_same_room Ra.typeIs Rb.typeIs F.slot_set_eq ?_ hu
  refine wpAny_call_entry F.slot_set_eq Ra.typeIs entry_set_eq ?_ (F.args_set_eq_2 _ _)
  unfold Builtin.«frozenset.__eq__»
  show wpAny _ _ (Builtin.Frozenset.slot1 "__eq__" { pos := [Value.ref a, Value.ref b] } >>= _) _ _ _
  apply wpAny_bind
  refine slot_two ?_
  dsimp only
  apply wpAny_bind
  refine any_set Rb ?_
  refine wp_if_neg (by simp) ?_
  apply wpAny_bind
  apply wpAny_pure
  apply wpAny_bind
  apply wpAny_pure
  apply wpAny_bind
  refine size_at Ra ?_
  apply wpAny_bind
  refine size_at Rb ?_
  apply wpAny_bind
  cases hE : La with
  | cons k ks =>
    refine wp_if_pos (by simp) ?_
    apply wpAny_pure
    have z := h s.toks
    rw [hE] at z
    exact wpAny_pure ⟨_, rfl, (fun z => by cases z), z⟩
  | nil =>
    refine wp_if_neg (by simp) ?_
    subst hE
    apply wpAny_bind
    refine wpAny_bind (wpAny_isInstance Ra.typeIs (show isSubtype (.type "set") (.type "frozenset") = pure false by rw [isSubtype_type]; kernel_rfl) ?_)
    refine wpAny_pure ?_
    refine wp_if_neg Bool.false_ne_true ?_
    obtain ⟨o, es, ep, t, ho, hex, hd, g, e, nd, hb, hf, hr, hl⟩ := id Ra
    have z0 : es = #[] := by
      have z := congrArg List.length e
      unfold keysOf at z
      rw [List.length_map, Array.length_toList, List.length_nil] at z
      exact Array.eq_empty_of_size_eq_zero z
    obtain ⟨ob, es2, ep2, t2, ho2, hex2, hd2, g2, e2, nd2, hb2, hf2, hr2, hl2⟩ := id Rb
    have z2 : es2 = #[] := by
      have z := congrArg List.length e2
      unfold keysOf at z
      rw [List.length_map, Array.length_toList, List.length_nil] at z
      exact Array.eq_empty_of_size_eq_zero z
    unfold Builtin.Frozenset.subsetOf
    apply wpAny_bind
    refine size_at Ra ?_
    apply wpAny_bind
    refine size_at Rb ?_
    refine wp_if_neg (by simp) ?_
    apply wpAny_bind
    refine wpAny_setEpoch_of ho hd hf ?_
    apply wpAny_bind
    unfold Builtin.Frozenset.walkUnseen
    apply wpAny_bind
    refine wpAny_setEntries_of ho hd hf ?_
    apply wpAny_bind
    refine wpAny_setEntries_of ho2 hd2 hf2 ?_
    subst z0 z2
    apply wpAny_bind
    apply wpAny_pure
    apply wpAny_pure
    apply wpAny_bind
    apply wpAny_pure
    apply wpAny_pure
    exact wpAny_pure ⟨_, rfl, (fun z => by cases z), h s.toks⟩
end
end RsSet

/-! part RsX17 -/
set_option Elab.async false
set_option linter.all false
set_option maxRecDepth 100000
set_option maxHeartbeats 4000000
/-! set(a) & set(b) == set() -/
namespace Rs
open PySem L2
def SetX (w : World) (a : Addr) (L : List Key) : HO := .ext fun h => RsSet.KR w h a L
theorem setX_new {w : World} {P : Program} {H : Hp} {h : Heap} {a : Addr} {L : List Key} (R : RsSet.KR w h a L) : ObjOk P w H h a (SetX w a L) := by
  have ⟨o, _, _, _, ho, _⟩ := R
  exact ⟨R, ⟨o, ho⟩, fun h1 h2 p k => p.up k⟩
theorem setX_get {X : Cx} {pins : List (Addr × Obj)} {σ : L2.St} {H : Hp} {s : Shared} {a : Addr} {L : List Key} (I : Inv X pins σ H s) (ha : H a = some (SetX X.w a L)) : RsSet.KR X.w s.heap a L := (I.hok a _ ha).1
section
variable {X : Cx}
def rSetK (K : PySem.W.Frag) (w : World) : List V → Hp → VK → Prop := fun vs H Q => ∃ (l : Addr) (ks : List Key), vs = [.ref l] ∧ SqL K H l (ks.map kV) ∧ ks.length < 4000 ∧ ∀ p L, H p = none → L.Perm (dedK ks) → Q (.ref p) (upd H p (SetX w p L))
theorem cr_setK (hc : X.calm = true) : CallR X (.type "set") (rSetK X.K X.w) := by
  intro pins s σ H vs us Q I r h
  obtain ⟨l, ks, rfl, hq, hl, q⟩ := h
  rw [Vals.ref1 r]
  have hn := I.hok.fresh (Nat.le_refl _)
  refine set_new' I hc hq hl fun h' tk L u R pm => ?_
  exact ⟨.ref _, _, I.laid (t' := tk) u (Nat.le_refl _) (setX_new R), rfl, q _ L hn pm⟩
def rSetX0 (w : World) : List V → Hp → VK → Prop := fun vs H Q => vs = [] ∧ ∀ p, H p = none → Q (.ref p) (upd H p (SetX w p []))
theorem cr_setX0 : CallR X (.type "set") (rSetX0 X.w) := by
  intro pins s σ H xs us Q I r h
  obtain ⟨rfl, q⟩ := h
  cases r
  refine setR_new fun _ => ?_
  have hn : H s.heap.objs.size = none := I.hok.fresh (Nat.le_refl _)
  exact ⟨.ref _, _, I.laid (t' := s.toks) (fun b u e => Heap.get?_push_of_some _ e) (Nat.le_refl _) (setX_new (RsSet.kr_new (Heap.get?_push_size _ rfl))), rfl, q _ hn⟩
def rAndX (w : World) : R2 := fun x y H Q => ∃ (a b : Addr) (La Lb : List Key), x = .ref a ∧ y = .ref b ∧ a ≠ b ∧ H a = some (SetX w a La) ∧ H b = some (SetX w b Lb) ∧ ∀ p L, H p = none → (∀ k, k ∈ L ↔ k ∈ La ∧ k ∈ Lb) → Q (.ref p) (upd H p (SetX w p L))
theorem or_andX : OpR X (binaryOp .BitAnd) (rAndX X.w) := by
  intro pins s σ H x y v u Q I rx ry h
  obtain ⟨a, b, La, Lb, rfl, rfl, hab, ha, hb, q⟩ := h
  cases rx
  cases ry
  refine RsSet.and_any (setX_get I ha) (setX_get I hb) hab fun h' d tk L R hL u => ?_
  have hn : H s.heap.objs.size = none := I.hok.fresh (Nat.le_refl _)
  exact ⟨.ref _, _, I.call (ch := []) (g' := s.gens) (d' := d) (t' := tk) (Un.laid u (Nat.le_refl _) hn) (I.hok.laid u (Nat.le_refl _) (setX_new R)) I.bare (fun _ z => nomatch z), rfl, q _ L hn hL⟩
def rEqX (w : World) : R2 := fun x y H Q => ∃ (a b : Addr) (La : List Key), x = .ref a ∧ y = .ref b ∧ H a = some (SetX w a La) ∧ H b = some (SetX w b []) ∧ Q (.bl La.isEmpty) H
theorem or_eqX (hu : X.A.units < cLine) : OpR X (compareOp .Eq) (rEqX X.w) := by
  intro pins s σ H x y v u Q I rx ry h
  obtain ⟨a, b, La, rfl, rfl, ha, hb, q⟩ := h
  cases rx
  cases ry
  exact RsSet.eq_any (setX_get I ha) (setX_get I hb) hu fun tk => ⟨.bl La.isEmpty, H, I.tok tk, rfl, q⟩
end
section
variable {p : Pgm} {Φ : Ctx} {X : Cx} {k : Nat} {W : WX} {a b c e : Expr} {ia ib ic ie : IE} {pos apos : Pos} {rest es : List Expr} {ies : IEs} {f : IF} {t : IT} {ts : ITs}
theorem keysOfD {g : Gm} {w : Wd} {d : D} {v : V} {ks : List Key} {xs : List D} (ok : Ok g w) (r : Rep g w.G w.la d v) (e : look w.mu d = .lst xs) (h : keysD xs = some ks) : ∃ l, v = .ref l ∧ SqL g.K w.H l (ks.map kV) := by
  obtain ⟨ad, vs, rfl, h7, h8⟩ := repL ok r e
  obtain rfl := keys_rep h h8
  exact ⟨ad, rfl, .of h7⟩
theorem ksOfD {g : Gm} {w : Wd} {d : D} {v : V} {ks : List Key} (ok : Ok g w) (r : Rep g w.G w.la d v) (h : ksD (look w.mu d) = some ks) : ∃ l, v = .ref l ∧ SqL g.K w.H l (ks.map kV) ∧ ks.length < 4000 := by
  unfold ksD at h
  split at h
  · rename_i xs e
    split at h
    · rename_i hl
      obtain ⟨l, h1, h2⟩ := keysOfD ok r e h
      exact ⟨l, h1, h2, by rw [keysD_len h]; exact hl⟩
    · cases h
  · cases h
theorem dis_eq {ks ls L : List Key} (h : ∀ k, k ∈ L ↔ k ∈ dedK ks ∧ k ∈ dedK ls) : L.isEmpty = ks.all fun k => !hasK k ls := by
  cases hE : L.isEmpty
  · obtain ⟨x, hx⟩ : ∃ x, x ∈ L := by
      cases L with
      | nil => cases hE
      | cons x _ => exact ⟨x, List.mem_cons_self⟩
    obtain ⟨h1, h2⟩ := (h x).mp hx
    symm
    rw [Bool.eq_false_iff]
    intro z
    have := List.all_eq_true.mp z x ((ded_mem ks x).mp h1)
    rw [Bool.not_eq_true'] at this
    rw [hasK_iff.mpr ((ded_mem ls x).mp h2)] at this
    cases this
  · have hL : L = [] := List.isEmpty_iff.mp hE
    subst hL
    symm
    rw [List.all_eq_true]
    intro x hx
    rw [Bool.not_eq_true']
    cases hh : hasK x ls
    · rfl
    · have := (h x).mpr ⟨(ded_mem ks x).mpr hx, (ded_mem ls x).mpr (hasK_iff.mp hh)⟩
      cases this
theorem perm_mem {ks L : List Key} (h : L.Perm (dedK ks)) (k : Key) : k ∈ L ↔ k ∈ dedK ks := h.mem_iff
theorem se_sdj (G : Good p Φ X k W) {p1 p2 p3 q1 q2 q3 q4 : Pos} (hn : BuN Φ "set") (ha : SE p X k W a ia) (hb : SE p X k W b ib) (na : nostar a = true) (nb : nostar b = true) :
    SE p X k W (.Compare (.BinOp (.Call (.Name "set" p1) [a] [] q1) .BitAnd (.Call (.Name "set" p2) [b] [] q2) q4) [.Eq] [.Call (.Name "set" p3) [] [] q3] pos) (.sdj ia ib) := by
  have hbt : bootBuiltins "set" = some (.type "set") := by rfl
  have hu : X.A.units < cLine := by
    have := units1 G.room
    omega
  refine weakE (pe_cmpR (or_eqX hu) (pe_op or_andX (pe_callTy (cr_setK G.calm) (gl_of G hn.1) (bu_of G hn.2) hbt (pa_cons ha pa_nil (star1 na)) (he := star1 na)) (pe_callTy (cr_setK G.calm) (gl_of G hn.1) (bu_of G hn.2) hbt (pa_cons hb pa_nil (star1 nb)) (he := star1 nb))) (pe_callTy0 cr_setX0 (gl_of G hn.1) (bu_of G hn.2) hbt) rfl) fun σ H Q ⟨w, r, e, ok, rs, st⟩ => ?_
  refine ⟨w, r, e, ok, rs, (show Sat p.g w _ ((p.E k ia r w.mu).bind _) _ from st).bind.imp fun x w1 g1 ok1 s1 v1 r1 => ?_⟩
  have s1 : Sat p.g w1 (wr p.g (WE W σ)) (match ksD (look w1.mu x) with
    | some ks => (p.E k ib r w1.mu).bind fun y m => (match ksD (look m y) with
      | some ls => R.ok (.bl (ks.all fun k => !hasK k ls)) m
      | none => .bad)
    | none => .bad) (pv1 p.g Q) := s1
  cases hk : ksD (look w1.mu x) with
  | none =>
    rw [hk] at s1
    exact s1.elim
  | some ks =>
    rw [hk] at s1
    obtain ⟨l, rfl, hq, hl⟩ := ksOfD ok1 r1 hk
    rw [G.hK]
    refine ⟨l, ks, rfl, hq, hl, fun q L hqn pm => ?_⟩
    have far1 := ok1.far (o := SetX X.w q L) hqn
    have gr1 := Grow.alien (o := SetX X.w q L) hqn
    have ok1' := ok1.alien (o := SetX X.w q L) hqn
    have s1' := Sat.up s1 gr1
    refine ⟨{ w1 with H := upd w1.H q (SetX X.w q L) }, r, rfl, ok1', (rs.grow g1).grow gr1, (show Sat p.g { w1 with H := upd w1.H q (SetX X.w q L) } _ ((p.E k ib r w1.mu).bind _) _ from s1').bind.imp fun y w2 g2 ok2 s2 v2 r2 => ?_⟩
    have s2 : Sat p.g w2 (wr p.g (WE W σ)) (match ksD (look w2.mu y) with
      | some ls => R.ok (.bl (ks.all fun k => !hasK k ls)) w2.mu
      | none => .bad) (pv1 p.g Q) := s2
    have far2 := far1.grow g2
    cases hk2 : ksD (look w2.mu y) with
    | none =>
      rw [hk2] at s2
      exact s2.elim
    | some ls =>
      rw [hk2] at s2
      obtain ⟨l2, rfl, hq2, hl2⟩ := ksOfD ok2 r2 hk2
      refine ⟨l2, ls, rfl, hq2, hl2, fun q2 L2 hq2n pm2 => ?_⟩
      have hqq : q ≠ q2 := fun z => by
        have := far2.at_
        rw [z, hq2n] at this
        cases this
      have gr3 := Grow.alien (o := SetX X.w q2 L2) hq2n
      have ok3 := ok2.alien (o := SetX X.w q2 L2) hq2n
      have far3 := far2.grow gr3
      have s3 := Sat.up s2 gr3
      refine ⟨q, q2, L, L2, rfl, rfl, hqq, far3.at_, upd_same, fun q3 L3 hq3n hm => ?_⟩
      have gr4 := Grow.alien (w := { w2 with H := upd w2.H q2 (SetX X.w q2 L2) }) (o := SetX X.w q3 L3) hq3n
      have ok4 := ok3.alien (o := SetX X.w q3 L3) hq3n
      have s4 := Sat.up s3 gr4
      have far4 := ok3.far (o := SetX X.w q3 L3) hq3n
      refine ⟨rfl, fun q4 hq4n => ?_⟩
      have gr5 := Grow.alien (w := { w2 with H := upd (upd w2.H q2 (SetX X.w q2 L2)) q3 (SetX X.w q3 L3) }) (o := SetX X.w q4 []) hq4n
      have ok5 := ok4.alien (o := SetX X.w q4 []) hq4n
      have s5 := Sat.up s4 gr5
      have far5 := far4.grow gr5
      refine ⟨q3, q4, L3, rfl, rfl, far5.at_, upd_same, ?_⟩
      rw [dis_eq (ks := ks) (ls := ls) fun kk => by rw [hm kk, perm_mem pm, perm_mem pm2]]
      exact s5.val ok5 (.bl _)
end
end Rs

/-! part RsC -/
set_option Elab.async false
set_option linter.all false
set_option maxRecDepth 100000
set_option maxHeartbeats 4000000
/-! Does a piece of the pure language stand for a piece of the program? A check that is run, and its soundness. -/
namespace Rs
open PySem L2
def isLoc? : Option NameKind → Bool
  | some .local => true
  | _ => false
def isGlob? : Option NameKind → Bool
  | some .globalImplicit => true
  | _ => false
theorem isLoc?_ok {o : Option NameKind} (h : isLoc? o = true) : o = some .local := by
  unfold isLoc? at h
  split at h
  · rfl
  · cases h
theorem isGlob?_ok {o : Option NameKind} (h : isGlob? o = true) : o = some .globalImplicit := by
  unfold isGlob? at h
  split at h
  · rfl
  · cases h
def visB (sc : Scope) (x : Str) : Bool := match sc.names.lookup x with
  | some .local => true
  | some .cell => true
  | some .free => true
  | _ => false
theorem visB_ok {sc : Scope} {x : Str} (h : visB sc x = true) : Vis sc x := by
  unfold visB at h
  split at h
  · rename_i e; exact .inl e
  · rename_i e; exact .inr (.inl e)
  · rename_i e; exact .inr (.inr e)
  · cases h
def stB (Φ : Ctx) (x : Str) : Bool := match Φ.sc.names.lookup x with
  | some .local => true
  | some .cell => Φ.cel x
  | _ => false
theorem stB_ok {Φ : Ctx} {x : Str} (h : stB Φ x = true) : StN Φ x := by
  unfold stB at h
  split at h
  · rename_i e; exact .inl e
  · rename_i e; exact .inr ⟨e, h⟩
  · cases h
def atN (Φ : Ctx) (i : Nat) (x : Str) : Bool := match Φ.N[i]? with
  | some y => y == x
  | none => false
theorem atN_ok {Φ : Ctx} {i : Nat} {x : Str} (h : atN Φ i x = true) : Φ.N[i]? = some x := by
  unfold atN at h
  split at h
  · rename_i y e
    rw [e, beq_iff_eq.mp h]
  · cases h
def fnB (Φ : Ctx) (x : Str) (f : Nat) : Bool := isGlob? (Φ.sc.names.lookup x) && !(x == ("__debug__" : Str)) && match Φ.gl.lookup x with
  | some (.fn g) => g == f
  | _ => false
theorem fnB_ok {Φ : Ctx} {x : Str} {f : Nat} (h : fnB Φ x f = true) : GlN Φ x (.fn f) := by
  obtain ⟨h1, h2⟩ := Bool.and_eq_true_iff.mp h
  obtain ⟨h3, h4⟩ := Bool.and_eq_true_iff.mp h1
  refine ⟨isGlob?_ok h3, ?_, by simpa using h4⟩
  split at h2
  · rename_i e
    rw [e, beq_iff_eq.mp h2]
  · cases h2
def clB (Φ : Ctx) (x : Str) (f : Nat) : Bool := isGlob? (Φ.sc.names.lookup x) && !(x == ("__debug__" : Str)) && match Φ.gl.lookup x with
  | some (.cl g) => g == f
  | _ => false
theorem clB_ok {Φ : Ctx} {x : Str} {f : Nat} (h : clB Φ x f = true) : GlN Φ x (.cl f) := by
  obtain ⟨h1, h2⟩ := Bool.and_eq_true_iff.mp h
  obtain ⟨h3, h4⟩ := Bool.and_eq_true_iff.mp h1
  refine ⟨isGlob?_ok h3, ?_, by simpa using h4⟩
  split at h2
  · rename_i e
    rw [e, beq_iff_eq.mp h2]
  · cases h2
def buB (Φ : Ctx) (x : Str) : Bool := isGlob? (Φ.sc.names.lookup x) && match Φ.gl.lookup x with
  | some .bu => true
  | _ => false
theorem buB_ok {Φ : Ctx} {x : Str} (h : buB Φ x = true) : BuN Φ x := by
  obtain ⟨h1, h2⟩ := Bool.and_eq_true_iff.mp h
  refine ⟨isGlob?_ok h1, ?_⟩
  split at h2
  · rename_i e
    exact e
  · cases h2
/-- the same texts -/
def sameStrs : List D → List D → Bool
  | [], [] => true
  | .str a :: xs, .str b :: ys => a == b && sameStrs xs ys
  | _, _ => false
theorem sameStrs_ok : ∀ {xs ys : List D}, sameStrs xs ys = true → xs = ys
  | [], [], _ => rfl
  | .str a :: xs, .str b :: ys, h => by
    obtain ⟨h1, h2⟩ := Bool.and_eq_true_iff.mp (show (a == b && sameStrs xs ys) = true from h)
    rw [beq_iff_eq.mp h1, sameStrs_ok h2]
def gcB (Φ : Ctx) (x : Str) (d : D) : Bool := isGlob? (Φ.sc.names.lookup x) && !(x == ("__debug__" : Str)) && match Φ.gl.lookup x, d with
  | some (.ct (.int i)), .int j => i == j
  | some (.ct (.str i)), .str j => i == j
  | some (.ct (.tup xs)), .tup ys => sameStrs xs ys
  | _, _ => false
theorem gcB_ok {Φ : Ctx} {x : Str} {d : D} (h : gcB Φ x d = true) : GlN Φ x (.ct d) := by
  obtain ⟨h1, h2⟩ := Bool.and_eq_true_iff.mp h
  obtain ⟨h3, h4⟩ := Bool.and_eq_true_iff.mp h1
  refine ⟨isGlob?_ok h3, ?_, by simpa using h4⟩
  split at h2
  · rename_i e
    rw [e, beq_iff_eq.mp h2]
  · rename_i e
    rw [e, beq_iff_eq.mp h2]
  · rename_i e
    rw [e, sameStrs_ok h2]
  · cases h2
def ctB (Φ : Ctx) (x : Str) : Ct → Bool
  | .own c => clB Φ x c
  | .bool => buB Φ x && x == "bool"
  | .int => buB Φ x && x == "int"
  | .str => buB Φ x && x == "str"
  | .tuple => buB Φ x && x == "tuple"
  | .list => buB Φ x && x == "list"
theorem ctB_ok {Φ : Ctx} {x : Str} {ct : Ct} (h : ctB Φ x ct = true) : CtN Φ x ct := by
  cases ct with
  | own c => exact clB_ok h
  | _ =>
    obtain ⟨h1, h2⟩ := Bool.and_eq_true_iff.mp h
    exact ⟨buB_ok h1, beq_iff_eq.mp h2⟩
mutual
def ckG (Φ : Ctx) : IT → Expr → Bool
  | .nm i, e => (match e with
    | .Name x _ => atN Φ i x && stB Φ x
    | _ => false)
  | .tp ts, e => (match e with
    | .Tuple es _ _ => ckGs Φ ts es && es.all nostar
    | _ => false)
def ckGs (Φ : Ctx) : ITs → List Expr → Bool
  | .nil, es => es.isEmpty
  | .cons t ts, es => (match es with
    | e :: es => ckG Φ t e && ckGs Φ ts es
    | [] => false)
end
def lenB (s : Str) (n : Nat) : Bool := decide (s.length ≤ n)
def keyB (k : Key) : Option Expr → Bool
  | some (.Constant (.str s) _ _) => (match k with
    | .inr t => s == t
    | _ => false)
  | some (.Constant (.int s) _ _) => (match k with
    | .inl t => s == t
    | _ => false)
  | _ => false
def keysB : List Key → List (Option Expr) → Bool
  | [], [] => true
  | k :: ks, e :: es => keyB k e && keysB ks es
  | _, _ => false
/-- a comprehension's slots -/
def ownN (Φ : Ctx) (own : List Nat) : List (Str × Nat) := own.map fun i => ((Φ.N[i]?).getD Str.empty, i)
theorem ownN_map (Φ : Ctx) (own : List Nat) : (ownN Φ own).map (·.2) = own := by
  unfold ownN
  rw [List.map_map]
  exact List.map_id' own
section
variable (nm : Nat → Str)
mutual
def ckE : IE → Ctx → Expr → Bool
  | .var i, Φ, e => (match e with
    | .Name x _ => atN Φ i x && visB Φ.sc x && !(x == ("__debug__" : Str)) && !(x == ("__classdict__" : Str))
    | _ => false)
  | .cst d, Φ, e => (match e with
    | .Constant c _ _ => (match c, d with
      | .int i, .int j => i == j
      | .bool i, .bl j => i == j
      | .none, .non => true
      | .str i, .str j => i == j
      | _, _ => false)
    | .Name x _ => gcB Φ x d
    | _ => false)
  | .bin op a b, Φ, e => (match e with
    | .BinOp l o r _ => binOk op && decide (o = op) && ckE a Φ l && ckE b Φ r
    | _ => false)
  | .neg a, Φ, e => (match e with
    | .UnaryOp .USub x _ => ckE a Φ x
    | _ => false)
  | .cmp op a b, Φ, e => (match e with
    | .Compare l [o] [r] _ => cmpOk op && decide (o = op) && noSet r && ckE a Φ l && ckE b Φ r
    | _ => false)
  | .chn op op2 a b c, Φ, e => (match e with
    | .Compare l [o, o2] [m, r] _ => cmpOk op && cmpOk op2 && decide (o = op) && decide (o2 = op2) && !(lastMarks [o, o2] [m, r]) && ckE a Φ l && ckE b Φ m && ckE c Φ r
    | _ => false)
  | .isn a pos, Φ, e => (match e with
    | .Compare l [.Is] [.Constant .none _ _] _ => pos && ckE a Φ l
    | .Compare l [.IsNot] [.Constant .none _ _] _ => !pos && ckE a Φ l
    | _ => false)
  | .and a b, Φ, e => (match e with
    | .BoolOp .And (x :: y :: rest) q => ckE a Φ x && (match rest with
      | [] => ckE b Φ y
      | _ :: _ => ckE b Φ (.BoolOp .And (y :: rest) q))
    | _ => false)
  | .or a b, Φ, e => (match e with
    | .BoolOp .Or (x :: y :: rest) q => ckE a Φ x && (match rest with
      | [] => ckE b Φ y
      | _ :: _ => ckE b Φ (.BoolOp .Or (y :: rest) q))
    | _ => false)
  | .not a, Φ, e => (match e with
    | .UnaryOp .Not x _ => ckE a Φ x
    | _ => false)
  | .tru _, _, _ => false
  | .ife c a b, Φ, e => (match e with
    | .IfExp t x y _ => ckT c Φ t && ckE a Φ x && ckE b Φ y
    | _ => false)
  | .att a f, Φ, e => (match e with
    | .Attribute x m _ => nm f == m && noCall0 x && ckE a Φ x
    | _ => false)
  | .idx a b, Φ, e => (match e with
    | .Subscript l r _ => noSlice r && ckE a Φ l && ckE b Φ r
    | _ => false)
  | .slc a lo hi, Φ, e => (match e with
    | .Subscript l (.Slice x y none _) _ => ckE a Φ l && ckO lo Φ x && ckO hi Φ y
    | _ => false)
  | .tup es, Φ, e => (match e with
    | .Tuple xs _ _ => xs.all nostar && ckEs es Φ xs
    | _ => false)
  | .fz f, Φ, e => ckF f Φ e
  | .mk f, Φ, e => ckF f Φ e
  | .call f as, Φ, e => (match e with
    | .Call (.Name x _) [] [] _ => fnB Φ x f && (match as with
      | .nil => true
      | _ => false)
    | .Call (.Name x _) xs [] _ => fnB Φ x f && xs.all nostar && ckEs as Φ xs
    | _ => false)
  | .new c as, Φ, e => (match e with
    | .Call (.Name x _) (y :: ys) [] _ => clB Φ x c && (y :: ys).all nostar && ckEs as Φ (y :: ys)
    | _ => false)
  | .met a g as, Φ, e => (match e with
    | .Call (.Attribute x m apos) xs [] pos => nm g == m && noCall0 x && xs.all nostar && decide (xs.length < 30) && (apos.endLine == pos.line) && ckE a Φ x && ckEs as Φ xs
    | _ => false)
  | .blt b as, Φ, e => (match e with
    | .Call (.Name x _) (y :: ys) [] _ => x == b.nam && buB Φ x && (y :: ys).all nostar && ckEs as Φ (y :: ys)
    | _ => false)
  | .bmt b a as, Φ, e => (match e with
    | .Call (.Attribute x m apos) [y] [] pos => (match b with
      | .join => m == "join" && noCall0 x && nostar y && (apos.endLine == pos.line) && ckE a Φ x && ckEs as Φ [y]
      | _ => false)
    | _ => false)
  | .len a g, Φ, e => (match e with
    | .Call (.Name x _) [y] [] _ => x == "len" && nm g == "__len__" && buB Φ x && nostar y && ckE a Φ y
    | _ => false)
  | .str a g, Φ, e => (match e with
    | .Call (.Name x _) [y] [] _ => x == "str" && nm g == "__str__" && buB Φ x && nostar y && ckE a Φ y
    | _ => false)
  | .isi a c, Φ, e => (match e with
    | .Call (.Name x _) [y, .Name z _] [] _ => x == "isinstance" && buB Φ x && nostar y && ctB Φ z c && ckE a Φ y
    | _ => false)
  | .frz a, Φ, e => ckE a Φ e
  | .fst es, Φ, e => (match e with
    | .JoinedStr (x :: y :: r) _ => ckEs es Φ (x :: y :: r)
    | _ => false)
  | .fmt a, Φ, e => (match e with
    | .FormattedValue x i none _ => i == -1 && ckE a Φ x
    | .JoinedStr [.FormattedValue x i none _] _ => i == -1 && ckE a Φ x
    | _ => false)
  | .sln a, Φ, e => (match e with
    | .Call (.Name x _) [.Call (.Name y _) [z] [] _] [] _ => x == "len" && y == "set" && buB Φ x && buB Φ y && nostar z && ckE a Φ z
    | _ => false)
  | .sdj a b, Φ, e => (match e with
    | .Compare (.BinOp (.Call (.Name x _) [z] [] _) .BitAnd (.Call (.Name y _) [z2] [] _) _) [.Eq] [.Call (.Name y2 _) [] [] _] _ => x == "set" && y == "set" && y2 == "set" && buB Φ "set" && nostar z && nostar z2 && ckE a Φ z && ckE b Φ z2
    | _ => false)
/-- in the place of a test -/
def ckT : IE → Ctx → Expr → Bool
  | .cmp op a b, Φ, e => (match e with
    | .Compare l [o] [r] _ => cmpOk op && decide (o = op) && noSet r && ckE a Φ l && ckE b Φ r
    | _ => false)
  | .chn op op2 a b c, Φ, e => (match e with
    | .Compare l [o, o2] [m, r] _ => cmpOk op && cmpOk op2 && decide (o = op) && decide (o2 = op2) && !(lastMarks [o, o2] [m, r]) && ckE a Φ l && ckE b Φ m && ckE c Φ r
    | _ => false)
  | .isn a pos, Φ, e => (match e with
    | .Compare l [.Is] [.Constant .none _ _] _ => pos && ckE a Φ l
    | .Compare l [.IsNot] [.Constant .none _ _] _ => !pos && ckE a Φ l
    | _ => false)
  | .and a b, Φ, e => (match e with
    | .BoolOp .And (x :: y :: rest) q => ckT a Φ x && (match rest with
      | [] => ckT b Φ y
      | _ :: _ => ckW b Φ (.BoolOp .And (y :: rest) q))
    | _ => false)
  | .or a b, Φ, e => (match e with
    | .BoolOp .Or (x :: y :: rest) q => ckT a Φ x && (match rest with
      | [] => ckT b Φ y
      | _ :: _ => ckW b Φ (.BoolOp .Or (y :: rest) q))
    | _ => false)
  | .not a, Φ, e => (match e with
    | .UnaryOp .Not x _ => ckT a Φ x
    | _ => false)
  | .tru a, Φ, e => plainT e && ckE a Φ e
  | _, _, _ => false
/-- the rest of an and, of an or -/
def ckW : IE → Ctx → Expr → Bool
  | .and a b, Φ, e => (match e with
    | .BoolOp .And (x :: y :: rest) q => ckT a Φ x && (match rest with
      | [] => ckT b Φ y
      | _ :: _ => ckW b Φ (.BoolOp .And (y :: rest) q))
    | _ => false)
  | .or a b, Φ, e => (match e with
    | .BoolOp .Or (x :: y :: rest) q => ckT a Φ x && (match rest with
      | [] => ckT b Φ y
      | _ :: _ => ckW b Φ (.BoolOp .Or (y :: rest) q))
    | _ => false)
  | _, _, _ => false
def ckO : IO → Ctx → Option Expr → Bool
  | .no, _, e => e.isNone
  | .yes a, Φ, e => (match e with
    | some x => ckE a Φ x
    | none => false)
def ckB : IO → Ctx → List Expr → Bool
  | .no, _, e => e.isEmpty
  | .yes a, Φ, e => (match e with
    | [x] => ckT a Φ x
    | _ => false)
def ckEs : IEs → Ctx → List Expr → Bool
  | .nil, _, es => es.isEmpty
  | .cons a as, Φ, es => (match es with
    | x :: xs => ckE a Φ x && ckEs as Φ xs
    | [] => false)
def ckF : IF → Ctx → Expr → Bool
  | .lst es, Φ, e => (match e with
    | .List xs _ => xs.all nostar && ckEs es Φ xs
    | _ => false)
  | .cmp a t s c own, Φ, e => (match e with
    | .ListComp x [⟨tg, iter, ifs, 0⟩] scope _ => blkC Φ.N Φ.sc scope (ownN Φ own) && noSet iter && (slT t).all (fun i => own.contains i) && ckI s Φ tg iter && ckG (Φ.blk scope) t tg && ckB c (Φ.blk scope) ifs && ckE a (Φ.blk scope) x
    | _ => false)
  | .lof a, Φ, e => (match e with
    | .Call (.Name x _) [y] [] _ => x == "list" && buB Φ x && nostar y && ckE a Φ y
    | _ => false)
  | .lsx es a, Φ, e => (match e with
    | .List xs _ => (match xs.getLast? with
      | some (.Starred b _) => xs.dropLast.all nostar && ckEs es Φ xs.dropLast && ckE a Φ b
      | _ => false)
    | _ => false)
  | .dtp a, Φ, e => (match e with
    | .Call (.Name x _) [y] [] _ => x == "dict" && buB Φ x && nostar y && ckE a Φ y
    | _ => false)
  | .srt a, Φ, e => (match e with
    | .Call (.Name x _) [y] [] _ => x == "sorted" && buB Φ x && nostar y && ckE a Φ y
    | _ => false)
  | .sst _, _, _ => false
  | .dcm kk vv t s own, Φ, e => (match e with
    | .DictComp x y [⟨tg, iter, [], 0⟩] scope _ => blkC Φ.N Φ.sc scope (ownN Φ own) && noSet iter && (slT t).all (fun i => own.contains i) && ckI s Φ tg iter && ckG (Φ.blk scope) t tg && ckE kk (Φ.blk scope) x && ckE vv (Φ.blk scope) y
    | _ => false)
  | .dct ks vs, Φ, e => (match e with
    | .Dict (k :: kes) ves _ => decide (ks.length ≤ 15) && keysB ks (k :: kes) && decide ((k :: kes).length = ves.length) && ckEs vs Φ ves
    | .Dict [] [] _ => (match ks, vs with
      | [], .nil => true
      | _, _ => false)
    | _ => false)
def ckI : II → Ctx → Expr → Expr → Bool
  | .seq a, Φ, _, e => ckE a Φ e
  | .rng a, Φ, _, e => (match e with
    | .Call (.Name x _) [y] [] _ => x == "range" && buB Φ x && nostar y && ckE a Φ y
    | _ => false)
  | .rng2 a b, Φ, _, e => (match e with
    | .Call (.Name x _) [y, z] [] _ => x == "range" && buB Φ x && nostar y && nostar z && ckE a Φ y && ckE b Φ z
    | _ => false)
  | .enm a, Φ, tg, e => (match tg, e with
    | .Tuple _ _ _, .Call (.Name x _) [y] [] _ => x == "enumerate" && buB Φ x && nostar y && ckE a Φ y
    | _, _ => false)
end
end
end Rs

/-! part RsC2 -/
set_option Elab.async false
set_option linter.all false
set_option maxRecDepth 100000
set_option maxHeartbeats 4000000
namespace Rs
open PySem L2
section
variable {p : Pgm} {Φ : Ctx} {X : Cx} {k : Nat} {W : WX} {a b c e : Expr} {ia ib ic ie : IE} {pos : Pos} {es : List Expr} {ies : IEs}
theorem se_gct (G : Good p Φ X k W) {x : Str} {d : D} (hx : GlN Φ x (.ct d)) : SE p X k W (.Name x pos) (.cst d) := by
  obtain ⟨v, u, h1, h2, h3⟩ := G.fx.gct x d hx.gl
  exact weakE (pe_glob (gl_of G hx.sc) (by rw [G.of.mg]; exact h1) h2 hx.db) fun _ _ _ h => cst_now h3 h
theorem sa_of (h : SJ p X k W es ies) (hs : es.all nostar = true) : SA p X k W es ies := by
  induction h with
  | nil => exact sa_nil
  | cons h1 h2 ih =>
    obtain ⟨h3, h4⟩ := Bool.and_eq_true_iff.mp hs
    exact sa_cons h1 (ih h4) (star1 h3)
theorem SJ.nil_of (h : SJ p X k W [] ies) : ies = .nil := by cases h; rfl
theorem key_pe {key : Key} {ke : Option Expr} (h : keyB key ke = true) : ∃ e, ke = some e ∧ PE X e (tC (kV key)) := by
  unfold keyB at h
  split at h
  · split at h
    · rw [beq_iff_eq.mp h]
      exact ⟨_, rfl, pe_str⟩
    · cases h
  · split at h
    · rw [beq_iff_eq.mp h]
      exact ⟨_, rfl, pe_int⟩
    · cases h
  · cases h
theorem sds_of : ∀ {ks : List Key} {kes : List (Option Expr)} {ves : List Expr} {ivs : IEs}, keysB ks kes = true → kes.length = ves.length → SJ p X k W ves ivs → SDs p X k W kes ves ks ivs
  | [], [], [], _, _, _, .nil => .nil
  | [], _ :: _, _, _, h, _, _ => by cases h
  | _ :: _, [], _, _, h, _, _ => by cases h
  | [], [], _ :: _, _, _, h, _ => by cases h
  | key :: ks, ke :: kes, [], _, _, h, _ => by cases h
  | key :: ks, ke :: kes, ve :: ves, _, h, hl, .cons h1 h2 => by
    obtain ⟨h3, h4⟩ := Bool.and_eq_true_iff.mp h
    obtain ⟨e, rfl, h5⟩ := key_pe (X := X) h3
    exact .cons h5 h1 (sds_of h4 (Nat.succ.inj hl) h2)
mutual
theorem ckG_ok (G : Good p Φ X k W) : ∀ (t : IT) {e : Expr}, ckG Φ t e = true → PG X e (tG p.g t)
  | .nm i, e, h => by
    unfold ckG at h
    split at h
    · simp only [Bool.and_eq_true] at h
      exact sg_nm G (atN_ok h.1) (stB_ok h.2)
    · cases h
  | .tp ts, e, h => by
    unfold ckG at h
    split at h
    · simp only [Bool.and_eq_true] at h
      obtain ⟨h1, h2⟩ := ckGs_ok G ts h.1
      exact sg_tp G (h1 h.2) h.2 h2
    · cases h
theorem ckGs_ok (G : Good p Φ X k W) : ∀ (ts : ITs) {es : List Expr}, ckGs Φ ts es = true → (es.all nostar = true → PGs X es (tGs p.g ts)) ∧ es.length = lenTs ts
  | .nil, es, h => by
    unfold ckGs at h
    cases es with
    | nil => exact ⟨fun _ => sgs_nil, rfl⟩
    | cons _ _ => cases h
  | .cons t ts, es, h => by
    unfold ckGs at h
    split at h
    · simp only [Bool.and_eq_true] at h
      have h1 := ckG_ok G t h.1
      obtain ⟨h2, h3⟩ := ckGs_ok G ts h.2
      refine ⟨fun hs => ?_, congrArg (· + 1) h3⟩
      obtain ⟨h4, h5⟩ := Bool.and_eq_true_iff.mp hs
      exact sgs_cons h1 (h2 h5) h4
    · cases h
end
end
section
variable {p : Pgm}
abbrev OkE (p : Pgm) (ie : IE) : Prop := ∀ (Φ : Ctx) (X : Cx) (k : Nat) (W : WX) (e : Expr), ckE p.nm ie Φ e = true → Good p Φ X k W → SE p X k W e ie
abbrev OkT (p : Pgm) (ie : IE) : Prop := ∀ (Φ : Ctx) (X : Cx) (k : Nat) (W : WX) (e : Expr), ckT p.nm ie Φ e = true → Good p Φ X k W → ST p X k W e ie
abbrev OkW (p : Pgm) (ie : IE) : Prop := ∀ (Φ : Ctx) (X : Cx) (k : Nat) (W : WX) (e : Expr), ckW p.nm ie Φ e = true → Good p Φ X k W → SW p X k W e ie
abbrev OkEs (p : Pgm) (ie : IEs) : Prop := ∀ (Φ : Ctx) (X : Cx) (k : Nat) (W : WX) (e : List Expr), ckEs p.nm ie Φ e = true → Good p Φ X k W → SJ p X k W e ie
abbrev OkO (p : Pgm) (ie : IO) : Prop := ∀ (Φ : Ctx) (X : Cx) (k : Nat) (W : WX) (e : Option Expr), ckO p.nm ie Φ e = true → Good p Φ X k W → SO p X k W e ie
abbrev OkB (p : Pgm) (ie : IO) : Prop := ∀ (Φ : Ctx) (X : Cx) (k : Nat) (W : WX) (e : List Expr), ckB p.nm ie Φ e = true → Good p Φ X k W → SBs p X k W e ie
abbrev OkF (p : Pgm) (ie : IF) : Prop := ∀ (Φ : Ctx) (X : Cx) (k : Nat) (W : WX) (e : Expr), ckF p.nm ie Φ e = true → Good p Φ X k W → SF p X k W e ie
abbrev OkI (p : Pgm) (ie : II) : Prop := ∀ (Φ : Ctx) (X : Cx) (k : Nat) (W : WX) (tg e : Expr), ckI p.nm ie Φ tg e = true → Good p Φ X k W → SI p X k W tg e ie
theorem lo_ok {op : Operator} {a b : IE} (ha : OkE p a) (hb : OkE p b) : OkE p (.bin op a b) := fun Φ X k W e h G => by
  unfold ckE at h
  split at h
  · simp only [Bool.and_eq_true, decide_eq_true_eq] at h
    obtain ⟨⟨⟨h1, rfl⟩, h3⟩, h4⟩ := h
    exact se_bin G h1 (ha _ _ _ _ _ h3 G) (hb _ _ _ _ _ h4 G)
  · cases h
theorem lv_ok {i : Nat} : OkE p (.var i) := fun Φ X k W e h G => by
  unfold ckE at h
  split at h
  · simp only [Bool.and_eq_true, Bool.not_eq_true'] at h
    obtain ⟨⟨⟨h1, h2⟩, h3⟩, h4⟩ := h
    exact se_var G (atN_ok h1) (visB_ok h2) h3 h4
  · cases h
theorem lc_ok {d : D} : OkE p (.cst d) := fun Φ X k W e h G => by
  unfold ckE at h
  split at h
  · split at h
    · rw [beq_iff_eq.mp h]; exact se_int
    · rw [beq_iff_eq.mp h]; exact se_bl
    · exact se_non
    · rw [beq_iff_eq.mp h]; exact se_str
    · cases h
  · exact se_gct G (gcB_ok h)
  · cases h
theorem cmp_ok {op : CmpOp} {a b : IE} (ha : OkE p a) (hb : OkE p b) : OkE p (.cmp op a b) ∧ OkT p (.cmp op a b) := by
  refine ⟨fun Φ X k W e h G => ?_, fun Φ X k W e h G => ?_⟩
  · unfold ckE at h
    split at h
    · simp only [Bool.and_eq_true, decide_eq_true_eq] at h
      obtain ⟨⟨⟨⟨h1, rfl⟩, h3⟩, h4⟩, h5⟩ := h
      exact se_cmp G h1 (marks_of h3) (ha _ _ _ _ _ h4 G) (hb _ _ _ _ _ h5 G)
    · cases h
  · unfold ckT at h
    split at h
    · simp only [Bool.and_eq_true, decide_eq_true_eq] at h
      obtain ⟨⟨⟨⟨h1, rfl⟩, h3⟩, h4⟩, h5⟩ := h
      exact st_cmp G h1 (marks_of h3) (ha _ _ _ _ _ h4 G) (hb _ _ _ _ _ h5 G)
    · cases h
theorem chn_ok {op op2 : CmpOp} {a b c : IE} (ha : OkE p a) (hb : OkE p b) (hc : OkE p c) : OkE p (.chn op op2 a b c) ∧ OkT p (.chn op op2 a b c) := by
  refine ⟨fun Φ X k W e h G => ?_, fun Φ X k W e h G => ?_⟩
  · unfold ckE at h
    split at h
    · simp only [Bool.and_eq_true, decide_eq_true_eq, Bool.not_eq_true'] at h
      obtain ⟨⟨⟨⟨⟨⟨⟨h1, h2⟩, rfl⟩, rfl⟩, h3⟩, h4⟩, h5⟩, h6⟩ := h
      exact se_chn G h1 h2 h3 (ha _ _ _ _ _ h4 G) (hb _ _ _ _ _ h5 G) (hc _ _ _ _ _ h6 G)
    · cases h
  · unfold ckT at h
    split at h
    · simp only [Bool.and_eq_true, decide_eq_true_eq, Bool.not_eq_true'] at h
      obtain ⟨⟨⟨⟨⟨⟨⟨h1, h2⟩, rfl⟩, rfl⟩, h3⟩, h4⟩, h5⟩, h6⟩ := h
      exact st_chn G h1 h2 h3 (ha _ _ _ _ _ h4 G) (hb _ _ _ _ _ h5 G) (hc _ _ _ _ _ h6 G)
    · cases h
theorem isn_ok {a : IE} {po : Bool} (ha : OkE p a) : OkE p (.isn a po) ∧ OkT p (.isn a po) := by
  refine ⟨fun Φ X k W e h G => ?_, fun Φ X k W e h G => ?_⟩
  · unfold ckE at h
    split at h
    · simp only [Bool.and_eq_true] at h
      obtain ⟨rfl, h2⟩ := h
      exact se_isn (ha _ _ _ _ _ h2 G)
    · simp only [Bool.and_eq_true, Bool.not_eq_true'] at h
      obtain ⟨rfl, h2⟩ := h
      exact se_isnt (ha _ _ _ _ _ h2 G)
    · cases h
  · unfold ckT at h
    split at h
    · simp only [Bool.and_eq_true] at h
      obtain ⟨rfl, h2⟩ := h
      exact st_isn (ha _ _ _ _ _ h2 G)
    · simp only [Bool.and_eq_true, Bool.not_eq_true'] at h
      obtain ⟨rfl, h2⟩ := h
      exact st_isnt (ha _ _ _ _ _ h2 G)
    · cases h
theorem and_ok {a b : IE} (ha : OkE p a ∧ OkT p a ∧ OkW p a) (hb : OkE p b ∧ OkT p b ∧ OkW p b) : OkE p (.and a b) ∧ OkT p (.and a b) ∧ OkW p (.and a b) := by
  have key : ∀ (Φ : Ctx) (X : Cx) (k : Nat) (W : WX) (e : Expr), ckW p.nm (.and a b) Φ e = true → Good p Φ X k W → SW p X k W e (.and a b) := fun Φ X k W e h G => by
    unfold ckW at h
    split at h
    · obtain ⟨h1, h2⟩ := Bool.and_eq_true_iff.mp h
      split at h2
      · exact sw_and (ha.2.1 _ _ _ _ _ h1 G) (sw_and1 (hb.2.1 _ _ _ _ _ h2 G))
      · exact sw_and (ha.2.1 _ _ _ _ _ h1 G) (hb.2.2 _ _ _ _ _ h2 G)
    · cases h
  refine ⟨fun Φ X k W e h G => ?_, fun Φ X k W e h G => (key Φ X k W e (by unfold ckT at h; unfold ckW; exact h) G).pt, key⟩
  unfold ckE at h
  split at h
  · obtain ⟨h1, h2⟩ := Bool.and_eq_true_iff.mp h
    split at h2
    · exact se_and (ha.1 _ _ _ _ _ h1 G) (se_one (hb.1 _ _ _ _ _ h2 G))
    · exact se_and (ha.1 _ _ _ _ _ h1 G) (hb.1 _ _ _ _ _ h2 G)
  · cases h
theorem or_ok {a b : IE} (ha : OkE p a ∧ OkT p a ∧ OkW p a) (hb : OkE p b ∧ OkT p b ∧ OkW p b) : OkE p (.or a b) ∧ OkT p (.or a b) ∧ OkW p (.or a b) := by
  have key : ∀ (Φ : Ctx) (X : Cx) (k : Nat) (W : WX) (e : Expr), ckW p.nm (.or a b) Φ e = true → Good p Φ X k W → SW p X k W e (.or a b) := fun Φ X k W e h G => by
    unfold ckW at h
    split at h
    · obtain ⟨h1, h2⟩ := Bool.and_eq_true_iff.mp h
      split at h2
      · exact sw_or (ha.2.1 _ _ _ _ _ h1 G) (sw_or1 (hb.2.1 _ _ _ _ _ h2 G))
      · exact sw_or (ha.2.1 _ _ _ _ _ h1 G) (hb.2.2 _ _ _ _ _ h2 G)
    · cases h
  refine ⟨fun Φ X k W e h G => ?_, fun Φ X k W e h G => (key Φ X k W e (by unfold ckT at h; unfold ckW; exact h) G).pt, key⟩
  unfold ckE at h
  split at h
  · obtain ⟨h1, h2⟩ := Bool.and_eq_true_iff.mp h
    split at h2
    · exact se_or (ha.1 _ _ _ _ _ h1 G) (se_one (hb.1 _ _ _ _ _ h2 G))
    · exact se_or (ha.1 _ _ _ _ _ h1 G) (hb.1 _ _ _ _ _ h2 G)
  · cases h
theorem noT {ie : IE} (h : ∀ Φ e, ckT p.nm ie Φ e = false) : OkT p ie := fun Φ X k W e z G => by rw [h] at z; cases z
theorem noW {ie : IE} (h : ∀ Φ e, ckW p.nm ie Φ e = false) : OkW p ie := fun Φ X k W e z G => by rw [h] at z; cases z
theorem call_ok {f : Nat} {as : IEs} (ha : OkEs p as) : OkE p (.call f as) := fun Φ X k W e h G => by
  unfold ckE at h
  split at h
  · obtain ⟨h1, h2⟩ := Bool.and_eq_true_iff.mp h
    cases as with
    | nil => exact se_call0 G (fnB_ok h1)
    | cons _ _ => cases h2
  · rename_i x q xs pos hne
    simp only [Bool.and_eq_true] at h
    obtain ⟨⟨h1, h2⟩, h3⟩ := h
    cases xs with
    | nil => exact absurd rfl hne
    | cons y ys => exact se_call G (fnB_ok h1) h2 (sa_of (ha _ _ _ _ _ h3 G) h2)
  · cases h
theorem new_ok {c : Nat} {as : IEs} (ha : OkEs p as) : OkE p (.new c as) := fun Φ X k W e h G => by
  unfold ckE at h
  split at h
  · simp only [Bool.and_eq_true] at h
    obtain ⟨⟨h1, h2⟩, h3⟩ := h
    exact se_new G (clB_ok h1) h2 (sa_of (ha _ _ _ _ _ h3 G) h2)
  · cases h
theorem met_ok {a : IE} {g : Nat} {as : IEs} (h0 : OkE p a) (ha : OkEs p as) : OkE p (.met a g as) := fun Φ X k W e h G => by
  unfold ckE at h
  split at h
  · simp only [Bool.and_eq_true, decide_eq_true_eq] at h
    obtain ⟨⟨⟨⟨⟨⟨h1, h2⟩, h3⟩, h4⟩, h5⟩, h6⟩, h7⟩ := h
    have z := ha _ _ _ _ _ h7 G
    exact se_met G (beq_iff_eq.mp h1) h2 h3 h4 h5 (h0 _ _ _ _ _ h6 G) (sa_of z h3) fun e => SJ.nil_of (e ▸ z)
  · cases h
theorem blt_ok {b : Bl} {as : IEs} (ha : OkEs p as) : OkE p (.blt b as) := fun Φ X k W e h G => by
  unfold ckE at h
  split at h
  · simp only [Bool.and_eq_true] at h
    obtain ⟨⟨⟨h1, h2⟩, h3⟩, h4⟩ := h
    exact se_blt G (beq_iff_eq.mp h1) (buB_ok h2) h3 (sa_of (ha _ _ _ _ _ h4 G) h3)
  · cases h
theorem bmt_ok {b : Bm} {a : IE} {as : IEs} (h0 : OkE p a) (ha : OkEs p as) : OkE p (.bmt b a as) := fun Φ X k W e h G => by
  unfold ckE at h
  split at h
  · split at h
    · simp only [Bool.and_eq_true] at h
      obtain ⟨⟨⟨⟨⟨h1, h2⟩, h3⟩, h4⟩, h5⟩, h6⟩ := h
      obtain rfl := beq_iff_eq.mp h1
      have z := ha _ _ _ _ _ h6 G
      cases z with
      | cons z1 z2 =>
        cases z2
        exact se_join G h2 h3 h4 (h0 _ _ _ _ _ h5 G) z1
    · cases h
  · cases h
theorem len_ok {a : IE} {g : Nat} (h0 : OkE p a) : OkE p (.len a g) := fun Φ X k W e h G => by
  unfold ckE at h
  split at h
  · simp only [Bool.and_eq_true] at h
    obtain ⟨⟨⟨⟨h1, h2⟩, h3⟩, h4⟩, h5⟩ := h
    obtain rfl := beq_iff_eq.mp h1
    exact se_len G (beq_iff_eq.mp h2) (buB_ok h3) h4 (h0 _ _ _ _ _ h5 G)
  · cases h
theorem str_ok {a : IE} {g : Nat} (h0 : OkE p a) : OkE p (.str a g) := fun Φ X k W e h G => by
  unfold ckE at h
  split at h
  · simp only [Bool.and_eq_true] at h
    obtain ⟨⟨⟨⟨h1, h2⟩, h3⟩, h4⟩, h5⟩ := h
    obtain rfl := beq_iff_eq.mp h1
    exact se_st G (beq_iff_eq.mp h2) (buB_ok h3) h4 (h0 _ _ _ _ _ h5 G)
  · cases h
theorem isi_ok {a : IE} {c : Ct} (h0 : OkE p a) : OkE p (.isi a c) := fun Φ X k W e h G => by
  unfold ckE at h
  split at h
  · simp only [Bool.and_eq_true] at h
    obtain ⟨⟨⟨⟨h1, h2⟩, h3⟩, h4⟩, h5⟩ := h
    obtain rfl := beq_iff_eq.mp h1
    exact se_isi G (buB_ok h2) h3 (ctB_ok h4) (h0 _ _ _ _ _ h5 G)
  · cases h
theorem fmt_ok {a : IE} (h0 : OkE p a) : OkE p (.fmt a) := fun Φ X k W e h G => by
  unfold ckE at h
  split at h
  · simp only [Bool.and_eq_true] at h
    obtain rfl := beq_iff_eq.mp h.1
    exact se_fmt (h0 _ _ _ _ _ h.2 G)
  · simp only [Bool.and_eq_true] at h
    obtain rfl := beq_iff_eq.mp h.1
    exact se_fst1 (se_fmt (h0 _ _ _ _ _ h.2 G))
  · cases h
theorem fst_ok {as : IEs} (ha : OkEs p as) : OkE p (.fst as) := fun Φ X k W e h G => by
  unfold ckE at h
  split at h
  · exact se_fst (ha _ _ _ _ _ h G)
  · cases h
theorem cmpF_ok {a : IE} {t : IT} {s : II} {c : IO} {own : List Nat} (ha : OkE p a) (hs : OkI p s) (hc : OkB p c) : OkF p (.cmp a t s c own) := fun Φ X k W e h G => by
  unfold ckF at h
  split at h
  · simp only [Bool.and_eq_true] at h
    obtain ⟨⟨⟨⟨⟨⟨h1, h2⟩, h3⟩, h4⟩, h5⟩, h6⟩, h7⟩ := h
    have z := sf_cmp (pos := ‹Pos›) (own := ownN Φ own) G (blkOk_by h1) h2 (fun i hi => by rw [ownN_map]; have q := List.all_eq_true.mp h3 i hi; simpa using q) (hs _ _ _ _ _ _ h4 G) (fun Y W' G' => ckG_ok G' t h5) (fun Y W' G' => hc _ _ _ _ _ h6 G') (fun Y W' G' => ha _ _ _ _ _ h7 G')
    rw [ownN_map] at z
    exact z
  · cases h
theorem dcmF_ok {a b : IE} {t : IT} {s : II} {own : List Nat} (ha : OkE p a) (hb : OkE p b) (hs : OkI p s) : OkF p (.dcm a b t s own) := fun Φ X k W e h G => by
  unfold ckF at h
  split at h
  · simp only [Bool.and_eq_true] at h
    obtain ⟨⟨⟨⟨⟨⟨h1, h2⟩, h3⟩, h4⟩, h5⟩, h6⟩, h7⟩ := h
    have z := sf_dcm (pos := ‹Pos›) (own := ownN Φ own) G (blkOk_by h1) h2 (fun i hi => by rw [ownN_map]; have q := List.all_eq_true.mp h3 i hi; simpa using q) (hs _ _ _ _ _ _ h4 G) (fun Y W' G' => ckG_ok G' t h5) (fun Y W' G' => ha _ _ _ _ _ h6 G') (fun Y W' G' => hb _ _ _ _ _ h7 G')
    rw [ownN_map] at z
    exact z
  · cases h
theorem slnE_ok {a : IE} (ha : OkE p a) : OkE p (.sln a) := fun Φ X k W e h G => by
  unfold ckE at h
  split at h
  · simp only [Bool.and_eq_true] at h
    obtain ⟨⟨⟨⟨⟨h1, h2⟩, h3⟩, h4⟩, h5⟩, h6⟩ := h
    obtain rfl := beq_iff_eq.mp h1
    obtain rfl := beq_iff_eq.mp h2
    exact se_sln G (buB_ok h3) (buB_ok h4) (ha _ _ _ _ _ h6 G) h5
  · cases h
theorem sdjE_ok {a b : IE} (ha : OkE p a) (hb : OkE p b) : OkE p (.sdj a b) := fun Φ X k W e h G => by
  unfold ckE at h
  split at h
  · simp only [Bool.and_eq_true] at h
    obtain ⟨⟨⟨⟨⟨⟨⟨h1, h2⟩, h3⟩, h4⟩, h5⟩, h6⟩, h7⟩, h8⟩ := h
    obtain rfl := beq_iff_eq.mp h1
    obtain rfl := beq_iff_eq.mp h2
    obtain rfl := beq_iff_eq.mp h3
    exact se_sdj G (buB_ok h4) (ha _ _ _ _ _ h7 G) (hb _ _ _ _ _ h8 G) h5 h6
  · cases h
theorem sti_of {ie : IE} (h : ∀ Φ e, ckE p.nm ie Φ e = false) : OkE p ie := fun Φ X k W e z G => by rw [h] at z; cases z
mutual
theorem IE.sound : ∀ ie : IE, OkE p ie ∧ OkT p ie ∧ OkW p ie
  | .var i => ⟨lv_ok, noT fun _ _ => rfl, noW fun _ _ => rfl⟩
  | .cst d => ⟨lc_ok, noT fun _ _ => rfl, noW fun _ _ => rfl⟩
  | .bin op a b => ⟨lo_ok (IE.sound a).1 (IE.sound b).1, noT fun _ _ => rfl, noW fun _ _ => rfl⟩
  | .neg a => ⟨fun Φ X k W e h G => by
      unfold ckE at h
      split at h
      · exact se_neg ((IE.sound a).1 _ _ _ _ _ h G)
      · (cases h), noT fun _ _ => rfl, noW fun _ _ => rfl⟩
  | .cmp op a b => ⟨(cmp_ok (IE.sound a).1 (IE.sound b).1).1, (cmp_ok (IE.sound a).1 (IE.sound b).1).2, noW fun _ _ => rfl⟩
  | .chn op op2 a b c => ⟨(chn_ok (IE.sound a).1 (IE.sound b).1 (IE.sound c).1).1, (chn_ok (IE.sound a).1 (IE.sound b).1 (IE.sound c).1).2, noW fun _ _ => rfl⟩
  | .isn a po => ⟨(isn_ok (IE.sound a).1).1, (isn_ok (IE.sound a).1).2, noW fun _ _ => rfl⟩
  | .and a b => and_ok (IE.sound a) (IE.sound b)
  | .or a b => or_ok (IE.sound a) (IE.sound b)
  | .not a => ⟨fun Φ X k W e h G => by
      unfold ckE at h
      split at h
      · exact se_not ((IE.sound a).1 _ _ _ _ _ h G)
      · (cases h), fun Φ X k W e h G => by
      unfold ckT at h
      split at h
      · exact st_not ((IE.sound a).2.1 _ _ _ _ _ h G)
      · (cases h), noW fun _ _ => rfl⟩
  | .tru a => ⟨sti_of fun _ _ => rfl, fun Φ X k W e h G => by
      unfold ckT at h
      obtain ⟨h1, h2⟩ := Bool.and_eq_true_iff.mp h
      exact st_tru G ((IE.sound a).1 _ _ _ _ _ h2 G) (isTrue_pl h1), noW fun _ _ => rfl⟩
  | .ife c a b => ⟨fun Φ X k W e h G => by
      unfold ckE at h
      split at h
      · simp only [Bool.and_eq_true] at h
        exact se_ife ((IE.sound c).2.1 _ _ _ _ _ h.1.1 G) ((IE.sound a).1 _ _ _ _ _ h.1.2 G) ((IE.sound b).1 _ _ _ _ _ h.2 G)
      · (cases h), noT fun _ _ => rfl, noW fun _ _ => rfl⟩
  | .att a f => ⟨fun Φ X k W e h G => by
      unfold ckE at h
      split at h
      · simp only [Bool.and_eq_true] at h
        exact se_att G (beq_iff_eq.mp h.1.1) ((IE.sound a).1 _ _ _ _ _ h.2 G) (attBase_of h.1.2)
      · (cases h), noT fun _ _ => rfl, noW fun _ _ => rfl⟩
  | .idx a b => ⟨fun Φ X k W e h G => by
      unfold ckE at h
      split at h
      · simp only [Bool.and_eq_true] at h
        exact se_idx G (plainIx_of h.1.1) ((IE.sound a).1 _ _ _ _ _ h.1.2 G) ((IE.sound b).1 _ _ _ _ _ h.2 G)
      · (cases h), noT fun _ _ => rfl, noW fun _ _ => rfl⟩
  | .slc a lo hi => ⟨fun Φ X k W e h G => by
      unfold ckE at h
      split at h
      · simp only [Bool.and_eq_true] at h
        exact se_slc G ((IE.sound a).1 _ _ _ _ _ h.1.1 G) ((IO.sound lo).1 _ _ _ _ _ h.1.2 G) ((IO.sound hi).1 _ _ _ _ _ h.2 G)
      · (cases h), noT fun _ _ => rfl, noW fun _ _ => rfl⟩
  | .tup es => ⟨fun Φ X k W e h G => by
      unfold ckE at h
      split at h
      · simp only [Bool.and_eq_true] at h
        exact se_tup (sa_of (IEs.sound es _ _ _ _ _ h.2 G) h.1)
      · (cases h), noT fun _ _ => rfl, noW fun _ _ => rfl⟩
  | .fz f => ⟨fun Φ X k W e h G => se_fz (IF.sound f _ _ _ _ _ (by unfold ckE at h; exact h) G), noT fun _ _ => rfl, noW fun _ _ => rfl⟩
  | .mk f => ⟨fun Φ X k W e h G => se_mk (IF.sound f _ _ _ _ _ (by unfold ckE at h; exact h) G), noT fun _ _ => rfl, noW fun _ _ => rfl⟩
  | .call f as => ⟨call_ok (IEs.sound as), noT fun _ _ => rfl, noW fun _ _ => rfl⟩
  | .new c as => ⟨new_ok (IEs.sound as), noT fun _ _ => rfl, noW fun _ _ => rfl⟩
  | .met a g as => ⟨met_ok (IE.sound a).1 (IEs.sound as), noT fun _ _ => rfl, noW fun _ _ => rfl⟩
  | .blt b as => ⟨blt_ok (IEs.sound as), noT fun _ _ => rfl, noW fun _ _ => rfl⟩
  | .bmt b a as => ⟨bmt_ok (IE.sound a).1 (IEs.sound as), noT fun _ _ => rfl, noW fun _ _ => rfl⟩
  | .len a g => ⟨len_ok (IE.sound a).1, noT fun _ _ => rfl, noW fun _ _ => rfl⟩
  | .str a g => ⟨str_ok (IE.sound a).1, noT fun _ _ => rfl, noW fun _ _ => rfl⟩
  | .isi a c => ⟨isi_ok (IE.sound a).1, noT fun _ _ => rfl, noW fun _ _ => rfl⟩
  | .frz a => ⟨fun Φ X k W e h G => se_frz ((IE.sound a).1 _ _ _ _ _ (by unfold ckE at h; exact h) G), noT fun _ _ => rfl, noW fun _ _ => rfl⟩
  | .fst es => ⟨fst_ok (IEs.sound es), noT fun _ _ => rfl, noW fun _ _ => rfl⟩
  | .fmt a => ⟨fmt_ok (IE.sound a).1, noT fun _ _ => rfl, noW fun _ _ => rfl⟩
  | .sln a => ⟨slnE_ok (IE.sound a).1, noT fun _ _ => rfl, noW fun _ _ => rfl⟩
  | .sdj a b => ⟨sdjE_ok (IE.sound a).1 (IE.sound b).1, noT fun _ _ => rfl, noW fun _ _ => rfl⟩
theorem IO.sound : ∀ io : IO, OkO p io ∧ OkB p io
  | .no => ⟨fun Φ X k W e h G => by
      unfold ckO at h
      cases e with
      | none => exact so_no
      | some _ => (cases h), fun Φ X k W e h G => by
      unfold ckB at h
      cases e with
      | nil => exact sb_no
      | cons _ _ => (cases h)⟩
  | .yes a => ⟨fun Φ X k W e h G => by
      unfold ckO at h
      split at h
      · exact so_yes ((IE.sound a).1 _ _ _ _ _ h G)
      · (cases h), fun Φ X k W e h G => by
      unfold ckB at h
      split at h
      · exact sb_yes ((IE.sound a).2.1 _ _ _ _ _ h G)
      · cases h⟩
theorem IEs.sound : ∀ ie : IEs, OkEs p ie
  | .nil => fun Φ X k W e h G => by
      unfold ckEs at h
      cases e with
      | nil => exact .nil
      | cons _ _ => cases h
  | .cons a as => fun Φ X k W e h G => by
      unfold ckEs at h
      split at h
      · obtain ⟨h1, h2⟩ := Bool.and_eq_true_iff.mp h
        exact .cons ((IE.sound a).1 _ _ _ _ _ h1 G) (IEs.sound as _ _ _ _ _ h2 G)
      · cases h
theorem IF.sound : ∀ f : IF, OkF p f
  | .lst es => fun Φ X k W e h G => by
      unfold ckF at h
      split at h
      · simp only [Bool.and_eq_true] at h
        exact sf_lst (sa_of (IEs.sound es _ _ _ _ _ h.2 G) h.1)
      · cases h
  | .cmp a t s c own => cmpF_ok (IE.sound a).1 (II.sound s) (IO.sound c).2
  | .lof a => fun Φ X k W e h G => by
      unfold ckF at h
      split at h
      · simp only [Bool.and_eq_true] at h
        obtain ⟨⟨⟨h1, h2⟩, h3⟩, h4⟩ := h
        obtain rfl := beq_iff_eq.mp h1
        exact sf_lof G (buB_ok h2) ((IE.sound a).1 _ _ _ _ _ h4 G) (star1 h3)
      · cases h
  | .dct ks vs => fun Φ X k W e h G => by
      unfold ckF at h
      split at h
      · simp only [Bool.and_eq_true, decide_eq_true_eq] at h
        obtain ⟨⟨⟨h1, h2⟩, h3⟩, h4⟩ := h
        exact sf_dct (sds_of h2 h3 (IEs.sound vs _ _ _ _ _ h4 G)) (by simp) h1
      · split at h
        · exact sf_dct0
        · cases h
      · cases h
  | .lsx es a => fun Φ X k W e h G => by
      unfold ckF at h
      split at h
      · rename_i xs pos
        cases hx : xs.getLast? with
        | none => rw [hx] at h; cases h
        | some z =>
          rw [hx] at h
          cases z with
          | Starred b sp =>
            simp only [Bool.and_eq_true] at h
            have ex : xs = xs.dropLast ++ [.Starred b sp] := by
              obtain ⟨ys, e⟩ := List.getLast?_eq_some_iff.mp hx
              rw [e, List.dropLast_concat]
            rw [ex]
            exact sf_lsx G ((IE.sound a).1 _ _ _ _ _ h.2 G) (IEs.sound es _ _ _ _ _ h.1.2 G) h.1.1
          | _ => cases h
      · cases h
  | .dtp a => fun Φ X k W e h G => by
      unfold ckF at h
      split at h
      · simp only [Bool.and_eq_true] at h
        obtain ⟨⟨⟨h1, h2⟩, h3⟩, h4⟩ := h
        obtain rfl := beq_iff_eq.mp h1
        exact sf_dtp G (buB_ok h2) ((IE.sound a).1 _ _ _ _ _ h4 G) (star1 h3)
      · cases h
  | .srt a => fun Φ X k W e h G => by
      unfold ckF at h
      split at h
      · simp only [Bool.and_eq_true] at h
        obtain ⟨⟨⟨h1, h2⟩, h3⟩, h4⟩ := h
        obtain rfl := beq_iff_eq.mp h1
        exact sf_srt G (buB_ok h2) h3 ((IE.sound a).1 _ _ _ _ _ h4 G)
      · cases h
  | .sst a => fun Φ X k W e h G => by
      unfold ckF at h
      cases h
  | .dcm kk vv t s own => dcmF_ok (IE.sound kk).1 (IE.sound vv).1 (II.sound s)
theorem II.sound : ∀ s : II, OkI p s
  | .seq a => fun Φ X k W tg e h G => si_seq G ((IE.sound a).1 _ _ _ _ _ (by unfold ckI at h; exact h) G)
  | .rng a => fun Φ X k W tg e h G => by
      unfold ckI at h
      split at h
      · simp only [Bool.and_eq_true] at h
        obtain ⟨⟨⟨h1, h2⟩, h3⟩, h4⟩ := h
        obtain rfl := beq_iff_eq.mp h1
        exact si_rng G (buB_ok h2) h3 ((IE.sound a).1 _ _ _ _ _ h4 G)
      · cases h
  | .rng2 a b => fun Φ X k W tg e h G => by
      unfold ckI at h
      split at h
      · simp only [Bool.and_eq_true] at h
        obtain ⟨⟨⟨⟨⟨h1, h2⟩, h3⟩, h4⟩, h5⟩, h6⟩ := h
        obtain rfl := beq_iff_eq.mp h1
        exact si_rng2 G (buB_ok h2) h3 h4 ((IE.sound a).1 _ _ _ _ _ h5 G) ((IE.sound b).1 _ _ _ _ _ h6 G)
      · cases h
  | .enm a => fun Φ X k W tg e h G => by
      unfold ckI at h
      split at h
      · simp only [Bool.and_eq_true] at h
        obtain ⟨⟨⟨h1, h2⟩, h3⟩, h4⟩ := h
        obtain rfl := beq_iff_eq.mp h1
        exact si_enm G (buB_ok h2) h3 ((IE.sound a).1 _ _ _ _ _ h4 G)
      · cases h
end
end
end Rs

/-! part RsC3 -/
set_option Elab.async false
set_option linter.all false
set_option maxRecDepth 100000
set_option maxHeartbeats 4000000
namespace Rs
open PySem L2
def noTupV : Expr → Bool
  | .Tuple .. => false
  | _ => true
/-- a tuple that is one constant -/
def foldV : Expr → Bool
  | .Tuple vs _ _ => vs.all (foldedForSure 8)
  | _ => false
theorem sw_fold {ts vs : List Expr} {env : Env} (hf : vs.all (foldedForSure 8) = true) (tg : Expr) (h : tg = .Tuple ts i q ∨ tg = .List ts q) : swappedStores [tg] (.Tuple vs j q') env = pure none := by
  unfold swappedStores
  rcases h with rfl | rfl <;>
  · simp only [pure_bind]
    split
    · rfl
    · split
      · rfl
      · split
        · rfl
        · first
            | (rw [if_pos hf])
            | (simp only [hf, if_true])
theorem sw_none {tg v : Expr} {env : Env} (h : (noTup tg || noTupV v || foldV v) = true) : swappedStores [tg] v env = pure none := by
  by_cases hf : foldV v = true
  · cases v with
    | Tuple vs j q' =>
      cases tg with
      | Tuple ts i q => exact sw_fold hf _ (.inl rfl)
      | List ts q => exact sw_fold (i := 0) hf _ (.inr rfl)
      | _ => rfl
    | _ => cases hf
  · have h : (noTup tg || noTupV v) = true := by simpa [hf] using h
    unfold swappedStores
    cases tg <;> first
      | rfl
      | (cases v <;> first | rfl | cases h)
def isFun : ScopeKind → Bool
  | .function => true
  | _ => false
theorem isFun_ok {k : ScopeKind} (h : isFun k = true) : k = .function := by cases k <;> first | rfl | cases h
def noBind (scope : Scope) (y : Str) : Bool := !(scope.names.any fun (n, k) => n == y && (k == .local || k == .cell))
section
variable (nm : Nat → Str)
mutual
def ckS : IS → Ctx → Stmt → Bool
  | .asg t e, Φ, s => (match s with
    | .Assign [tg] v _ => (noComp v || celN Φ tg) && ckE nm e Φ v && ckG Φ t tg && nostar tg && (noTup tg || noTupV v || foldV v || celT Φ tg)
    | _ => false) || (match s, t, e with
    | .Assign [.Name y py] (.ListComp x [⟨tg, iter, ifs, 0⟩] scope pos) _, .nm i, .fz (.cmp a t2 s2 c own) => atN Φ i y && isLoc? (Φ.sc.names.lookup y) && isFun Φ.sc.kind && (py.line == pos.line) && noBind scope y && blkC Φ.N Φ.sc scope (ownN Φ own) && noSet iter && (slT t2).all (fun i => own.contains i) && ckI nm s2 Φ tg iter && ckG (Φ.blk scope) t2 tg && ckB nm c (Φ.blk scope) ifs && ckE nm a (Φ.blk scope) x
    | .Assign [.Name y py] (.ListComp x [⟨tg, iter, ifs, 0⟩] scope pos) _, .nm i, .mk (.cmp a t2 s2 c own) => atN Φ i y && isLoc? (Φ.sc.names.lookup y) && isFun Φ.sc.kind && (py.line == pos.line) && noBind scope y && blkC Φ.N Φ.sc scope (ownN Φ own) && noSet iter && (slT t2).all (fun i => own.contains i) && ckI nm s2 Φ tg iter && ckG (Φ.blk scope) t2 tg && ckB nm c (Φ.blk scope) ifs && ckE nm a (Φ.blk scope) x
    | .Assign [.Name y py] (.DictComp kx x [⟨tg, iter, [], 0⟩] scope pos) _, .nm i, .fz (.dcm kk a t2 s2 own) => atN Φ i y && isLoc? (Φ.sc.names.lookup y) && isFun Φ.sc.kind && (py.line == pos.line) && noBind scope y && blkC Φ.N Φ.sc scope (ownN Φ own) && noSet iter && (slT t2).all (fun i => own.contains i) && ckI nm s2 Φ tg iter && ckG (Φ.blk scope) t2 tg && ckE nm kk (Φ.blk scope) kx && ckE nm a (Φ.blk scope) x
    | _, _, _ => false)
  | .par i j a b, Φ, s => (match s with
    | .Assign [.Tuple [.Name x px, .Name y py] _ _] (.Tuple [u, v] _ _) _ => atN Φ i x && atN Φ j y && !(i == j) && isLoc? (Φ.sc.names.lookup x) && isLoc? (Φ.sc.names.lookup y) && nostar u && nostar v && isFun Φ.sc.kind && (py.line == px.line) && !([u, v].all (foldedForSure 8) || [u, v].all (constantsAlone 8)) && ckE nm a Φ u && ckE nm b Φ v
    | _ => false)
  | .sta o f e, Φ, s => (match s with
    | .Assign [.Attribute x m _] v _ => nm f == m && ckE nm e Φ v && ckE nm o Φ x
    | _ => false)
  | .sti o i e, Φ, s => (match s with
    | .Assign [.Subscript x y _] v _ => noSlice y && noComp v && ckE nm e Φ v && ckE nm o Φ x && ckE nm i Φ y
    | _ => false)
  | .aug i op e, Φ, s => (match s with
    | .AugAssign (.Name x _) o v _ => augOk op && decide (o = op) && atN Φ i x && stB Φ x && ckE nm e Φ v
    | _ => false)
  | .exp e, Φ, s => (match s with
    | .Expr v _ => noComp v && ckE nm e Φ v
    | _ => false)
  | .mut mm o a, Φ, s => (match s with
    | .Expr (.Call (.Attribute x m apos) [y] [] pos) _ => (match mm with
      | .append => m == "append"
      | .extend => m == "extend") && noCall0 x && nostar y && (apos.endLine == pos.line) && ckE nm o Φ x && ckE nm a Φ y
    | _ => false)
  | .ret e, Φ, s => (match s with
    | .Return (some v) _ => ckE nm e Φ v
    | .Return none _ => (match e with
      | .cst .non => true
      | _ => false)
    | _ => false)
  | .ifs c a b, Φ, s => (match s with
    | .If t x y _ => ckT nm c Φ t && ckSs a Φ x && ckSs b Φ y
    | _ => false)
  | .for_ t s b, Φ, st => (match st with
    | .For tg iter body [] _ => noSet iter && ckI nm s Φ tg iter && ckG Φ t tg && ckSs b Φ body
    | _ => false)
  | .rai _ _, _, _ => false
  | .sup _ _ _, _, _ => false
  | .pas, Φ, s => (match s with
    | .Pass _ => true
    | .Expr (.Constant (.str _) _ _) _ => true
    | _ => false)
  | .con, Φ, s => (match s with
    | .Continue _ => true
    | _ => false)
  | .brk, Φ, s => (match s with
    | .Break _ => true
    | _ => false)
  | .pr3 i j l a b c, Φ, s => (match s with
    | .Assign [.Tuple [.Name x px, .Name y py, .Name z pz] _ _] (.Tuple [u, v, w] _ _) _ => atN Φ i x && atN Φ j y && atN Φ l z && !(i == j) && !(i == l) && !(j == l) && isLoc? (Φ.sc.names.lookup x) && isLoc? (Φ.sc.names.lookup y) && isLoc? (Φ.sc.names.lookup z) &&
      nostar u && nostar v && nostar w && isFun Φ.sc.kind && (py.line == px.line) && (pz.line == px.line) && !([u, v, w].all (foldedForSure 8) || [u, v, w].all (constantsAlone 8)) && ckE nm a Φ u && ckE nm b Φ v && ckE nm c Φ w
    | _ => false)
  | .dea, _, _ => true
def ckSs : ISs → Ctx → List Stmt → Bool
  | .nil, _, ss => ss.isEmpty
  | .cons i is, Φ, ss => (match ss with
    | s :: ss => ckS i Φ s && ckSs is Φ ss
    | [] => false)
end
end
section
variable {p : Pgm} {ρ : Ev}
def Bare (ρ : Ev) : Prop := ∀ (i : Nat) (d : D), ρ[i]? ≠ some (some d)
theorem Bare.free {is : List Nat} (h : Bare ρ) : FreeE ρ is := fun i _ d => h i d
theorem lc_asg {Φ : Ctx} {X : Cx} {k : Nat} {W : WX} (G : Good p Φ X k W) {i : Nat} {y : Str} {py pos spos : Pos} {x tg iter : Expr} {ifs : List Expr} {scope : Scope} {a : IE} {t2 : IT} {s2 : II} {c : IO} {own : List Nat} {md : IF → IE} (hm : md = IE.fz ∨ md = IE.mk)
    (h : (atN Φ i y && isLoc? (Φ.sc.names.lookup y) && isFun Φ.sc.kind && (py.line == pos.line) && noBind scope y && blkC Φ.N Φ.sc scope (ownN Φ own) && noSet iter && (slT t2).all (fun i => own.contains i) && ckI p.nm s2 Φ tg iter && ckG (Φ.blk scope) t2 tg && ckB p.nm c (Φ.blk scope) ifs && ckE p.nm a (Φ.blk scope) x) = true) :
    SS p X k W ρ (.Assign [.Name y py] (.ListComp x [⟨tg, iter, ifs, 0⟩] scope pos) spos) (.asg (.nm i) (md (.cmp a t2 s2 c own))) := by
  simp only [Bool.and_eq_true] at h
  obtain ⟨⟨⟨⟨⟨⟨⟨⟨⟨⟨⟨h1, h2⟩, h3⟩, h4⟩, h5⟩, h6⟩, h7⟩, h8⟩, h9⟩, h10⟩, h11⟩, h12⟩ := h
  have z := ss_setLc (ρ := ρ) (py := py) (spos := spos) (pos := pos) (own := ownN Φ own) G hm (atN_ok h1) (isLoc?_ok h2) (isFun_ok h3) h4 (by unfold noBind at h5; simpa using h5) (blkOk_by h6) h7 (fun i hi => by rw [ownN_map]; have q := List.all_eq_true.mp h8 i hi; simpa using q) ((II.sound s2) _ _ _ _ tg _ h9 G) (fun Y W' G' => ckG_ok G' t2 h10) (fun Y W' G' => (IO.sound c).2 _ _ _ _ _ h11 G') (fun Y W' G' => (IE.sound a).1 _ _ _ _ _ h12 G')
  rw [ownN_map] at z
  exact z
mutual
theorem IS.sound (hρ : Bare ρ) : ∀ (i : IS) {Φ : Ctx} {X : Cx} {k : Nat} {W : WX} {s : Stmt}, ckS p.nm i Φ s = true → Good p Φ X k W → SS p X k W ρ s i
  | .asg t e, Φ, X, k, W, s, h, G => by
    unfold ckS at h
    rcases Bool.or_eq_true_iff.mp h with h | h
    · split at h
      · simp only [Bool.and_eq_true] at h
        obtain ⟨⟨⟨⟨h1, h2⟩, h3⟩, h4⟩, h5⟩ := h
        exact ss_asg ((IE.sound e).1 _ _ _ _ _ h2 G) (ckG_ok G t h3) ((Bool.or_eq_true_iff.mp h1).elim sole_of (sole_cel G)) ((Bool.or_eq_true_iff.mp h5).elim sw_none (sw_cel G)) h4
      · cases h
    · split at h
      · exact lc_asg G (.inl rfl) h
      · exact lc_asg G (.inr rfl) h
      · simp only [Bool.and_eq_true] at h
        obtain ⟨⟨⟨⟨⟨⟨⟨⟨⟨⟨⟨h1, h2⟩, h3⟩, h4⟩, h5⟩, h6⟩, h7⟩, h8⟩, h9⟩, h10⟩, h11⟩, h12⟩ := h
        rename_i y py kx x tg iter scope pos sp i kk a t2 s2 own
        have z := ss_dictTo (ρ := ρ) (py := py) (spos := sp) (pos := pos) (own := ownN Φ own) G (atN_ok h1) (isLoc?_ok h2) (isFun_ok h3) h4 (by unfold noBind at h5; simpa using h5) (blkOk_by h6) h7 (fun i hi => by rw [ownN_map]; have q := List.all_eq_true.mp h8 i hi; simpa using q) ((II.sound s2) _ _ _ _ tg _ h9 G) (fun Y W' G' => ckG_ok G' t2 h10) (fun Y W' G' => (IE.sound kk).1 _ _ _ _ _ h11 G') (fun Y W' G' => (IE.sound a).1 _ _ _ _ _ h12 G')
        rw [ownN_map] at z
        exact z
      · cases h
  | .par i j a b, Φ, X, k, W, s, h, G => by
    unfold ckS at h
    split at h
    · simp only [Bool.and_eq_true, Bool.not_eq_true', beq_eq_false_iff_ne] at h
      obtain ⟨⟨⟨⟨⟨⟨⟨⟨⟨⟨⟨h1, h2⟩, h3⟩, h4⟩, h5⟩, h6⟩, h7⟩, h8⟩, h9⟩, h10⟩, h11⟩, h12⟩ := h
      exact ss_par G (atN_ok h1) (atN_ok h2) h3 (isLoc?_ok h4) (isLoc?_ok h5) h6 h7 (isFun_ok h8) h9 h10 ((IE.sound a).1 _ _ _ _ _ h11 G) ((IE.sound b).1 _ _ _ _ _ h12 G)
    · cases h
  | .sta o f e, Φ, X, k, W, s, h, G => by
    unfold ckS at h
    split at h
    · simp only [Bool.and_eq_true] at h
      obtain ⟨⟨h1, h3⟩, h4⟩ := h
      exact ss_sta G (beq_iff_eq.mp h1) ((IE.sound e).1 _ _ _ _ _ h3 G) ((IE.sound o).1 _ _ _ _ _ h4 G)
    · cases h
  | .sti o i e, Φ, X, k, W, s, h, G => by
    unfold ckS at h
    split at h
    · simp only [Bool.and_eq_true] at h
      obtain ⟨⟨⟨⟨h1, h2⟩, h3⟩, h4⟩, h5⟩ := h
      exact ss_sti G h1 h2 ((IE.sound e).1 _ _ _ _ _ h3 G) ((IE.sound o).1 _ _ _ _ _ h4 G) ((IE.sound i).1 _ _ _ _ _ h5 G)
    · cases h
  | .aug i op e, Φ, X, k, W, s, h, G => by
    unfold ckS at h
    split at h
    · simp only [Bool.and_eq_true, decide_eq_true_eq] at h
      obtain ⟨⟨⟨⟨h1, rfl⟩, h3⟩, h4⟩, h5⟩ := h
      exact ss_aug G h1 (atN_ok h3) (stB_ok h4) ((IE.sound e).1 _ _ _ _ _ h5 G)
    · cases h
  | .exp e, Φ, X, k, W, s, h, G => by
    unfold ckS at h
    split at h
    · simp only [Bool.and_eq_true] at h
      exact ss_exp ((IE.sound e).1 _ _ _ _ _ h.2 G) h.1
    · cases h
  | .mut mm o a, Φ, X, k, W, s, h, G => by
    unfold ckS at h
    split at h
    · simp only [Bool.and_eq_true] at h
      obtain ⟨⟨⟨⟨⟨h1, h2⟩, h3⟩, h4⟩, h5⟩, h6⟩ := h
      cases mm with
      | append =>
        obtain rfl := beq_iff_eq.mp h1
        exact ss_app h2 h3 h4 ((IE.sound o).1 _ _ _ _ _ h5 G) ((IE.sound a).1 _ _ _ _ _ h6 G)
      | extend =>
        obtain rfl := beq_iff_eq.mp h1
        exact ss_ext h2 h3 h4 ((IE.sound o).1 _ _ _ _ _ h5 G) ((IE.sound a).1 _ _ _ _ _ h6 G)
    · cases h
  | .ret e, Φ, X, k, W, s, h, G => by
    unfold ckS at h
    split at h
    · exact ss_ret ((IE.sound e).1 _ _ _ _ _ h G)
    · split at h
      · exact ss_retN
      · cases h
    · cases h
  | .ifs c a b, Φ, X, k, W, s, h, G => by
    unfold ckS at h
    split at h
    · simp only [Bool.and_eq_true] at h
      exact ss_if ((IE.sound c).2.1 _ _ _ _ _ h.1.1 G) (ISs.sound hρ a h.1.2 G) (ISs.sound hρ b h.2 G)
    · cases h
  | .for_ t s b, Φ, X, k, W, st, h, G => by
    unfold ckS at h
    split at h
    · simp only [Bool.and_eq_true] at h
      obtain ⟨⟨⟨h1, h2⟩, h3⟩, h4⟩ := h
      exact ss_for G h1 hρ.free ((II.sound s) _ _ _ _ _ _ h2 G) (ckG_ok G t h3) (ISs.sound hρ b h4 G)
    · cases h
  | .rai _ _, Φ, X, k, W, st, h, G => by
    unfold ckS at h
    cases h
  | .sup _ _ _, Φ, X, k, W, st, h, G => by
    unfold ckS at h
    cases h
  | .pas, Φ, X, k, W, st, h, G => by
    unfold ckS at h
    split at h
    · exact ss_pas
    · exact ss_doc
    · cases h
  | .con, Φ, X, k, W, st, h, G => by
    unfold ckS at h
    split at h
    · exact ss_con
    · cases h
  | .brk, Φ, X, k, W, st, h, G => by
    unfold ckS at h
    split at h
    · exact ss_brk
    · cases h
  | .pr3 i j l a b c, Φ, X, k, W, st, h, G => by
    unfold ckS at h
    split at h
    · simp only [Bool.and_eq_true, Bool.not_eq_true', beq_eq_false_iff_ne] at h
      obtain ⟨⟨⟨⟨⟨⟨⟨⟨⟨⟨⟨⟨⟨⟨⟨⟨⟨⟨h1, h2⟩, h3⟩, h4⟩, h5⟩, h6⟩, h7⟩, h8⟩, h9⟩, h10⟩, h11⟩, h12⟩, h13⟩, h14⟩, h15⟩, h16⟩, h17⟩, h18⟩, h19⟩ := h
      exact ss_pr3 G (atN_ok h1) (atN_ok h2) (atN_ok h3) h4 h5 h6 (isLoc?_ok h7) (isLoc?_ok h8) (isLoc?_ok h9) h10 h11 h12 (isFun_ok h13) h14 h15 h16 ((IE.sound a).1 _ _ _ _ _ h17 G) ((IE.sound b).1 _ _ _ _ _ h18 G) ((IE.sound c).1 _ _ _ _ _ h19 G)
    · cases h
  | .dea, Φ, X, k, W, st, h, G => ss_dea
theorem ISs.sound (hρ : Bare ρ) : ∀ (i : ISs) {Φ : Ctx} {X : Cx} {k : Nat} {W : WX} {s : List Stmt}, ckSs p.nm i Φ s = true → Good p Φ X k W → SSs p X k W ρ s i
  | .nil, Φ, X, k, W, s, h, G => by
    unfold ckSs at h
    cases s with
    | nil => exact sss_nil
    | cons _ _ => cases h
  | .cons i is, Φ, X, k, W, s, h, G => by
    unfold ckSs at h
    split at h
    · obtain ⟨h1, h2⟩ := Bool.and_eq_true_iff.mp h
      exact sss_cons hρ.free (IS.sound hρ i h1 G) (ISs.sound hρ is h2 G)
    · cases h
end
end
end Rs

/-! part RsT1 -/
set_option Elab.async false
set_option linter.all false
set_option maxRecDepth 100000
set_option maxHeartbeats 4000000
/-! A function keeps its promise if its body is checked. -/
namespace Rs
open PySem L2
theorem Sat.wk {α : Type} {g : Gm} {w : Wd} {V V' : WR} {r : R α} {P : α → Wd → Prop} (h : Sat g w V r P) (f : ∀ c fs w', V c fs w' → V' c fs w') : Sat g w V' r P := by
  cases r with
  | ok a m => exact h
  | exc c fs m => exact fun w' em gr ok' => f _ _ _ (h w' em gr ok')
  | bad => exact h
theorem bare_rep (n : Nat) : Bare (List.replicate n none) := fun i d h => by
  rw [List.getElem?_replicate] at h
  split at h <;> cases h
theorem start_rel {g : Gm} {w : Wd} {ds : List D} {vs : List V} {N : List Str} (r : RepL g w.G w.la ds vs) (n : Nat) (hn : ds.length + n = N.length) : RelS g w (ds.map some ++ List.replicate n none) (L2.start N vs) := by
  have hl := r.length
  refine ⟨?_, fun i d h => ?_⟩
  · unfold L2.start
    simp only [List.length_append, List.length_map, List.length_replicate]
    omega
  · by_cases hi : i < ds.length
    · rw [List.getElem?_append_left (by simpa using hi), List.getElem?_map] at h
      obtain ⟨d', h1, h2⟩ := Option.map_eq_some_iff.mp h
      cases h2
      obtain ⟨v, h3, h4⟩ := r.get h1
      refine ⟨v, ?_, h4⟩
      unfold L2.start
      rw [List.getElem?_append_left (by rw [List.length_map, ← hl]; exact hi), List.getElem?_map, h3]
      rfl
    · rw [List.getElem?_append_right (by simpa using hi), List.getElem?_replicate] at h
      split at h <;> cases h
theorem start_sub (n : Nat) (r : Ev) (h : r.length = n) : SubE (List.replicate n none) r := ⟨by rw [List.length_replicate, h], fun i d e => absurd e (bare_rep n i d)⟩
/-- the body's answer is the function's -/
theorem run_body {p : Pgm} {k f : Nat} {q : Fn} {ds : List D} {w : Wd} {Q : VK} {E : XK} (hf : p.fns[f]? = some q) (hl : ds.length = q.ar) (ok : Ok p.g w)
    (st : Sat p.g w (wr p.g E) (run p.T p.fns (k + 1) f ds w.mu) (pv1 p.g Q)) (ρ : Ev) : Sat p.g w (wrA p.g (fun cls d _ H => E cls d H) ρ) (p.Ss k q.body (ds.map some ++ List.replicate (q.nn - ds.length) none) w.mu) (flP p.g { nx := fun _ H' => Q .non H', rt := Q }) := by
  have e : run p.T p.fns (k + 1) f ds w.mu = (p.Ss k q.body (ds.map some ++ List.replicate (q.nn - ds.length) none) w.mu).bind fun fl m => (match fl with
      | .nx _ => .ok .non m
      | .rt d => .ok d m
      | _ => .bad) := by
    show (match p.fns[f]? with
      | some q => if ds.length = q.ar then _ else R.bad
      | none => R.bad) = _
    rw [hf]
    exact if_pos hl
  rw [e] at st
  refine Sat.wk (V := wr p.g E) (st.bind.imp fun fl w1 g1 ok1 s1 => ?_) fun c fs w' h cls d σ' hx _ => h cls d hx
  cases fl with
  | nx r => exact fun σ' _ => Sat.val (d := .non) s1 ok1 .non
  | rt d => exact fun v rv => Sat.val s1 ok1 rv
  | ct r => exact s1.elim
  | bk r => exact s1.elim
/-- where a function of the table stands, and that its body is checked -/
structure FnP (p : Pgm) (gl : List (Str × Gn)) (f : Nat) (q : Fn) : Prop where
  ex : ∃ (N : List Str) (x qual : Str) (params : Arguments) (body : List Stmt) (scope : Scope), FunD p.K x qual params body scope [] [] (p.fa f) (p.fd f) ∧ FnScope N (p.ps f) scope ∧ q.ar = (p.ps f).length ∧ q.nn = N.length ∧
    ckSs p.nm q.body ⟨N, scope, fun _ => true, gl⟩ body = true
theorem spF_len {p : Pgm} {F : Nat → List D → Mu → R D} {f : Nat} {q : Fn} (h : q.ar = (p.ps f).length) : ∀ vs H Q E, spF p.g F f q.ar vs H Q E → vs.length = (p.ps f).length := fun vs H Q E ⟨_, _, _, _, _, h2, _⟩ => h2.trans h
theorem fn_zero {p : Pgm} {f : Nat} {q : Fn} (h : q.ar = (p.ps f).length) : FnOk p.prog p.w p.K p.mg p.base (L2.CX p.prog p.w) (lev 0) (p.fa f) (p.fd f) (p.ps f) (spF p.g (run p.T p.fns 0) f q.ar) :=
  ⟨spF_len h, fun A outer s H args us vs Q E hr e0 hb r ⟨w, ds, e1, ok, r1, h2, st⟩ => (show False from st).elim⟩
theorem fn_succ {p : Pgm} {gl : List (Str × Gn)} {f k : Nat} {q : Fn} (hf : p.fns[f]? = some q) (P : FnP p gl f q) (fx : Facts p gl) (tab : ∀ j, j ≤ k → p.Tab j) :
    FnOk p.prog p.w p.K p.mg p.base (L2.CX p.prog p.w) (lev (k + 1)) (p.fa f) (p.fd f) (p.ps f) (spF p.g (run p.T p.fns (k + 1)) f q.ar) := by
  obtain ⟨N, x, qual, params, body, scope, F, S, har, hnn, hck⟩ := P.ex
  have hlev : lev (k + 1) = (lev k + 1) + 1 := by rw [lev_up]
  rw [hlev]
  refine F.ok S (spF_len har) fun cdv A outer s H vs Q E hr ⟨w, ds, e1, ok, r1, h2, st⟩ => ?_
  have hpl : (p.ps f).length ≤ N.length := by have := congrArg List.length S.pre; rw [List.length_take] at this; omega
  have hd : ds.length = q.ar := r1.length.trans h2
  have G : Good p ⟨N, scope, fun _ => true, gl⟩ (cxOf (L2.CX p.prog p.w) p.prog p.w p.K p.mg p.base N qual scope (p.fa f) cdv A outer s H E) k (fun cls d _ H => E cls d H) := {
    of := ⟨rfl, rfl, rfl, rfl, rfl⟩
    N := rfl
    sc := rfl
    nd := S.nd
    calm := rfl
    cel := fun _ _ => rfl
    room := hr
    tab := tab
    tk := takes_of rfl rfl rfl rfl
    own := passes_of rfl
    fx := fx }
  refine ⟨_, ISs.sound (ρ := List.replicate N.length none) (bare_rep _) q.body hck G, ?_⟩
  refine ⟨w, ds.map some ++ List.replicate (q.nn - ds.length) none, e1, ok, start_rel r1 _ (by omega), start_sub _ _ (by simp only [List.length_append, List.length_map, List.length_replicate]; omega), run_body hf hd ok st _⟩
end Rs

/-! part RsT2 -/
set_option Elab.async false
set_option linter.all false
set_option maxRecDepth 100000
set_option maxHeartbeats 4000000
/-! A function that begins with super().__init__(..). -/
namespace Rs
open PySem L2
/-- what of the written part such a function needs: C the class around it, f2 the function that is called -/
structure SupF (P : Program) (K : PySem.W.Frag) (mg : Str → Option Value) (cda cc C f2 : Addr) : Prop where
  code : ∃ (ccl : Value) (cdd : Option Addr) (vs : Array Value) (ccs : Array (Option Value)) (file : Str) (tf : Tok), K.lookup cda = some ⟨ccl, cdd, .fields vs, ccs⟩ ∧ vs[2]? = some (.str file tf) ∧ ((P.main.file : Str) == file) = true
  cell : ∃ (cl : Value) (cld : Option Addr) (csl : Array (Option Value)), K.lookup cc = some ⟨cl, cld, .cell (some (.ref C)), csl⟩
  cls : ∃ cd : ClassData, PySem.W.clsIn K C = some cd ∧ PySem.W.alongIn K "__init__" ((cd.mro.dropWhile (· != .ref C)).drop 1) = some (some (.ref f2))
  sub : PySem.W.mroIn K C (.ref C) = some true
  opq : PySem.W.nsIn K cStatics "thirdparty.any" = some none
  ty : PySem.W.typeIn K (.ref f2) = some (.type "function")
  fn : PySem.W.fnIn K f2 = true
  mg : mg "super" = none
  top : (P.main.scope.names.lookup ("super" : Str)).isSome = false
theorem ht_sup {o : Expr} {env : Env} {m : Str} {apos pos : Pos} {es : List Expr} (h1 : es.all nostar = true) (h2 : es.length < 30) (h3 : (apos.endLine == pos.line) = true) :
    eval (.Call (.Attribute o m apos) es [] pos) env = (do
      let ov ← attributeBase o m env (eval o env)
      standAt apos.atName
      let (f, first) ← holding [ov] (getMethod ov m (do return (← importBound o env).getD true))
      callWith pos f first (backTo pos (starEach es env)) []) := by
  show (do
    let ov ← attributeBase o m env (eval o env)
    standAt apos.atName
    methodCall o m apos pos env ov (es.length + 0) (backTo pos (starEach es env)) (backToKw pos (keywordEach [] env))) = _
  have hf : methodCallForm (es.length + 0) (backTo pos (starEach es env)) (backToKw pos (keywordEach [] env)) = true := formOk h1 h2
  unfold methodCall
  rw [hf]
  unfold methodCallPos
  rw [h3]
  rfl
section
open NdefX
variable {P : Program} {w : World} {K : PySem.W.Frag} {mg : Str → Option Value} {base : Heap} {N ps : List Str} {F : NF} {f : Addr} {k : Nat} {sp : Sp} {oc : Value} {od : Option Addr} {osl : Array (Option Value)} {doc pm ctv : Value}
/-- the rule: the first statement's reading is asked of the call of f2 -/
theorem fn_super {cc C f2 : Addr} {x0 : Str} {p0 p1 apos cpos spos : Pos} {e : Expr} {es : List Expr} {rest : List Stmt} {ta : TA} {tr : TS} (lk : K.lookup f = some ⟨oc, od, .func (F.fd doc pm ctv), osl⟩) (hcl : F.cl = [(("__class__" : Str), cc)]) (hcd : PySem.W.codeIn K (.ref F.c) F.qual = true)
    (S : NScope N ps ["__class__"] F.scope) (T : SupF P K mg F.c cc C f2) (hks : F.scope.names.lookup ("super" : Str) = some .globalImplicit) (har : (F.params.posonlyargs ++ F.params.args).head?.map (·.arg) = some x0) (h0 : ps[0]? = some x0)
    (hbody : F.body = .Expr (.Call (.Attribute (.Call (.Name "super" p0) [] [] p1) "__init__" apos) (e :: es) [] cpos) spos :: rest) (hst : (e :: es).all nostar = true) (hfew : (e :: es).length < 30) (hline : (apos.endLine == cpos.line) = true)
    (len : ∀ vs H Q E, sp vs H Q E → vs.length = ps.length)
    (hb : ∀ (A : Around) (outer : List Env) (s : Shared) (H : Hp) (vs : List V) (Q : VK) (E : XK), Room k (A.deeper (envF F f s.heap.objs.size)) → sp vs H Q E →
      ∃ (x dx : Addr) (fs : List (Str × V)) (ta : TA) (tr : TS), vs[0]? = some (.ref x) ∧ H x = some (.ins C dx fs) ∧ PA (ncx (L2.CX P w) P w K mg base N F f A outer s H E) (e :: es) ta ∧ PSs (ncx (L2.CX P w) P w K mg base N F f A outer s H E) rest tr ∧
        ta (startF N vs [some (.ref C)]) H fun ws H1 => ∀ (pins : List (Addr × Obj)) (s1 : Shared) (us : List Value), Inv (ncx (L2.CX P w) P w K mg base N F f A outer s H E) pins (startF N vs [some (.ref C)]) H1 s1 → Vals ws us →
          codeAny (model P w) (A.deeper (envF F f s.heap.objs.size)) (.call (.ref f2) ⟨.ref x :: us, []⟩) (fun r s' => match r with
            | .ok (.ret u) => ∃ (v : V) (H2 : Hp), Inv (ncx (L2.CX P w) P w K mg base N F f A outer s H E) pins (startF N vs [some (.ref C)]) H2 s' ∧ tr { nx := fun _ H' => Q .non H', rt := Q } (startF N vs [some (.ref C)]) H2
            | .error u => (ncx (L2.CX P w) P w K mg base N F f A outer s H E).xe u s'
            | _ => False) s1) :
    FnOk P w K mg base (L2.CX P w) (k + 1) f (F.fd doc pm ctv) ps sp := by
  refine ⟨len, fun A outer s H args us vs Q E hr e0 hbn r hsp => ?_⟩
  have KX : K.In s.heap := e0.mod.kin.keeps fun b o e => (e0.bs b o e).1
  have hl := len _ _ _ _ hsp
  have lim : s.heap.NoLimit := e0.mod.nolimit.keeps fun b o e => (e0.bs b o e).1
  obtain ⟨cl, cld, csl, hcell⟩ := T.cell
  obtain ⟨ccl, cdd, cvs, ccs, file, tf, hcode, hfile2, hfile⟩ := T.code
  obtain ⟨cd, hcls, halong⟩ := T.cls
  have CA : CellsAt F.cl ["__class__"] [some (.ref C)] s.heap H := by
    rw [hcl]
    have one : ∀ {y : Str} {c : Addr}, ([(("__class__" : Str), cc)] : List (Str × Addr)).lookup y = some c → y = "__class__" ∧ c = cc := fun {y c} h => by
      have h : (match y == ("__class__" : Str) with
        | true => some cc
        | false => none) = some c := h
      cases q : (y == ("__class__" : Str)) with
      | true =>
        rw [q] at h
        cases h
        exact ⟨beq_iff_eq.mp q, rfl⟩
      | false =>
        rw [q] at h
        cases h
    have hbase := e0.mod.kin _ _ hcell
    refine ⟨rfl, fun y c h => ?_, fun x y c h1 h2 => (one h1).1.trans (one h2).1.symm, fun i y hi => ?_⟩
    · obtain ⟨rfl, rfl⟩ := one h
      exact ⟨(e0.bs _ _ hbase).2, some (.ref C), _, (e0.bs _ _ hbase).1, rfl⟩
    · cases i with
      | zero =>
        cases hi
        refine ⟨cc, rfl, fun v hv => ?_⟩
        cases hv
        exact ⟨.ref C, rfl, _, (e0.bs _ _ hbase).1, rfl⟩
      | succ i => cases hi
  refine codeAny_call_function hr.depth (KX _ _ lk) rfl S.co S.gen rfl (PySem.W.codeRec_of KX hcd) (hbn _ _ _ _ ?_)
  refine wpAny_newFunctionEnv S.nocell (fun ⟨n, _⟩ hy => S.par n (List.of_mem_zip hy).1) (fun h₁ hns hsb => ⟨lim.fresh _ hsb, ?_⟩) S.kind
  show codeAny _ _ (.func F.body (envF F f s.heap.objs.size)) _ _
  have kp : ∀ b o, s.heap.get? b = some o → h₁.get? b = some o := fun b o e => hsb.extBut b o (Nat.ne_of_lt (Heap.lt_size e)) (Heap.get?_push_of_some _ e)
  obtain ⟨x, dx, fs, ta, tr, hx0, hHx, hes, hrest, hq⟩ := hb A outer s H vs Q E (hr.deeper _) hsp
  have I : Inv (ncx (L2.CX P w) P w K mg base N F f A outer s H E) [] (startF N vs [some (.ref C)]) H { s with heap := h₁, toks := s.toks + (ps.zip us).length } := inv_startN S hr.hd e0 hl r CA hns kp
  generalize hs0 : ({ s with heap := h₁, toks := s.toks + (ps.zip us).length } : Shared) = s0 at I
  refine ks_codeAny_funcAt ?_
  rw [hbody]
  have fin : ∀ {σ' : L2.St} {H' : Hp} {v : V} {u : Value} {s' : Shared}, Inv (ncx (L2.CX P w) P w K mg base N F f A outer s H E) [] σ' H' s' → L2.RelV v u → Q v H' → CE outer P w H s Q u s' :=
    fun {σ' H' v u s'} J rv q => ⟨v, H', J.os, J.bare, J.base, J.hok, rv, q⟩
  have K1 : K.In s0.heap := I.kIn
  have hkc : F.scope.names.lookup ("__class__" : Str) = some .free := S.frk _ (by simp)
  -- the parameter that is self
  obtain ⟨ar, har1, har2⟩ := Option.map_eq_some_iff.mp har
  have hself : ∃ u, us[0]? = some u ∧ u = Value.ref x := by
    obtain ⟨u, h1, h2⟩ := r.get hx0
    exact ⟨u, h1, h2⟩
  obtain ⟨oD, hD1, hD2⟩ : ∃ oD, s0.heap.get? C = some oD ∧ oD.data = .cls cd := by
    unfold PySem.W.clsIn at hcls
    split at hcls
    · rename_i c d cd' sl ho
      cases hcls
      exact ⟨_, K1 _ _ ho, rfl⟩
    · cases hcls
  obtain ⟨mA, O, _, _, _, _⟩ := ins_get I.hok hHx
  have hxC : x ≠ C := fun z => by
    have a := O.obj
    rw [z, hD1] at a
    have b := Option.some.inj a
    rw [b] at hD2
    cases hD2
  have hpre : (ps ++ [("__class__" : Str)])[0]? = N[0]? := by
    rw [← S.pre, List.getElem?_take]
    have : 0 < ps.length := (List.getElem?_eq_some_iff.mp h0).1
    rw [if_pos (by simp)]
  have hN0 : N[0]? = some x0 := by
    rw [← hpre, List.getElem?_append_left (List.getElem?_eq_some_iff.mp h0).1]
    exact h0
  have hloc0 : F.scope.names.lookup x0 = some .local := S.par x0 (List.mem_of_getElem? h0)
  have hσ0 : (startF N vs [some (.ref C)])[0]? = some (some (.ref x)) := by
    unfold startF
    have : 0 < vs.length := (List.getElem?_eq_some_iff.mp hx0).1
    rw [List.getElem?_append_left (by simpa using this), List.getElem?_map, hx0]
    rfl
  obtain ⟨mb, hmb1, hmb2⟩ := I.mod.blt
  obtain ⟨oF, hF2⟩ : ∃ oF, K.lookup f2 = some oF ∧ oF.cls = .type "function" := by
    have ht' : (K.lookup f2).map (·.cls) = some (.type "function") := T.ty
    cases z : K.lookup f2 with
    | none => rw [z] at ht'; cases ht'
    | some of => rw [z] at ht'; exact ⟨of, rfl, Option.some.inj ht'⟩
  refine ks_wpAt_execs_cons (ks_wpAt_Expr_any (ks_wpAt_MethodCall (pl := _) (ks_wpAt_super_base (env := envF F f s.heap.objs.size) hks hkc rfl rfl (K1 _ _ lk) rfl har1 rfl (K1 _ _ hcode) rfl hfile2 hfile T.top ?_) (ht_sup hst hfew hline)) I.quiet (swaps_of rfl))
  refine PySem.W.ks_loadName_global S.kind hks (Calls.loadGlobal_builtin (env := envF F f s.heap.objs.size) (I.mod.glob.keeps I.bk) T.mg (hmb1.keeps I.bk) ((hmb2 _ (by decide)).trans (by rfl)) ⟨rfl, ?_⟩)
  refine wpAny_loadName_free S.kind hkc (c := cc) (by show F.cl.lookup _ = _; rw [hcl]; rfl) ⟨_, K1 _ _ hcell, rfl⟩ ?_
  obtain ⟨m, hn, hlk⟩ := I.loc
  obtain ⟨u0, ru0, lu0⟩ := hlk 0 x0 (.ref x) hN0 hσ0 (.inl hloc0)
  obtain rfl : u0 = Value.ref x := ru0
  have hm0 : m x0 = some (.ref x) := by
    rcases lu0 with ⟨_, h⟩ | ⟨h, _⟩
    · exact h
    · have h : F.scope.names.lookup x0 = some .cell ∨ F.scope.names.lookup x0 = some .free := h
      rw [hloc0] at h
      rcases h with h | h <;> cases h
  rw [har2]
  refine wpAny_loadName_local S.kind hloc0 hn hm0 ?_
  obtain ⟨hp0, g0, d0, t0, os0⟩ := s0
  refine PySem.ks_wpAny_isType_cls hD1 hD2 ⟨rfl, ?_⟩
  refine PySem.ks_wpAny_call_super hD1 hD2 O.obj rfl (fun c z => nomatch z) (PySem.W.looks_mroIn K1 T.sub) (fun h' e1 k1 => ?_)
  have I2 : Inv (ncx (L2.CX P w) P w K mg base N F f A outer s H E) [] (startF N vs [some (.ref C)]) H ⟨h', g0, d0, t0, os0⟩ := I.kept (t' := t0) k1
  have K2 : K.In h' := I2.kIn
  refine PySem.ks_wpAny_getMethod_super e1 (PySem.W.looks_opaque K2 T.opq) (l₀ := cd.mro) ?_ rfl K2 halong (K2 _ _ hF2.1) hF2.2 hxC rfl ?_
  · exact fun A Q E s k q => wpAny_bind ((PySem.W.looks_clsIn K2 hcls) A _ E s k (wpAny_pure q))
  have I3 := ClX.pin_new (o := PySem.W.methodObj (.ref f2) (.ref x)) (t' := t0 + 1) I2 (fun _ _ z => Heap.get?_push_of_some _ z) (Nat.le_refl _) (Heap.get?_push_size h' rfl) (fun v z => nomatch z)
  have hL : h'.objs.size ≠ s.heap.objs.size := (I3.pin (h'.objs.size, PySem.W.methodObj (.ref f2) (.ref x)) (List.mem_append_right _ List.mem_cons_self)).2.2.1
  have hbn : base.get? h'.objs.size = none := ClX.base_none I2 (Nat.le_refl _)
  obtain ⟨hs1, hs2⟩ := Bool.and_eq_true_iff.mp hst
  refine PySem.W.callWith_M (K := K) (h₀ := base) (first := []) e0.mod.kin (news_at hL hbn (ClX.pin_at I3)) List.mem_cons_self T.fn (thn (hes.run cpos _ _ _ H _ I3 hq) fun us2 s2 ⟨ws, H2, I4, rv, q2⟩ => ⟨⟨ClX.pin_at I4, I4.kIn⟩, ?_⟩) (star1 hs1) (stars hs2)
  refine wpAny_call (PySem.W.method_call (ClX.pin_at I4) (codeAny_mono (q2 _ s2 us2 I4 rv) fun r s' hr' => ?_))
  cases r with
  | error u => exact hr'
  | ok fl =>
    cases fl with
    | ret u =>
      obtain ⟨v, H3, I5, hq3⟩ := hr'
      have I6 := ClX.unpin I5
      refine wpAt_of_wpAny (wpAny_mono (hrest.run [] s' _ H3 _ I6 hq3) (fun fl s' hs => ?_) fun e s' hs => hs)
      cases fl with
      | ret u =>
        obtain ⟨v, σ', H', J, rv, q⟩ := hs
        exact fin J rv q
      | next =>
        obtain ⟨σ', H', J, q⟩ := hs
        exact fin (v := V.non) (u := Value.none) J rfl q
      | brk =>
        obtain ⟨_, _, _, q⟩ := hs
        exact False.elim q
      | cont =>
        obtain ⟨_, _, _, q⟩ := hs
        exact False.elim q
    | next => exact hr'.elim
    | brk => exact hr'.elim
    | cont => exact hr'.elim
end
end Rs

/-! part RsT3 -/
set_option Elab.async false
set_option linter.all false
set_option maxRecDepth 100000
set_option maxHeartbeats 4000000
namespace Rs
open PySem L2
open NdefX in
def supB (nm : Nat → Str) (Φ : Ctx) (c fi : Nat) (b : ISs) (body : List Stmt) : Bool := match body, b with
  | .Expr (.Call (.Attribute (.Call (.Name n _) [] [] _) m apos) (e :: es) [] cpos) _ :: rest, .cons (.sup c' f' ias) iss => n == "super" && m == "__init__" && c == c' && fi == f' && (e :: es).all nostar && decide ((e :: es).length < 30) && (apos.endLine == cpos.line) && ckEs nm ias Φ (e :: es) && ckSs nm iss Φ rest
  | _, _ => false
open NdefX in
structure SupP (p : Pgm) (gl : List (Str × Gn)) (f : Nat) (q : Fn) : Prop where
  ex : ∃ (N : List Str) (F : NF) (doc pm ctv oc : Value) (od : Option Addr) (osl : Array (Option Value)) (cc : Addr) (x0 : Str) (c fi : Nat) (q2 : Fn), p.K.lookup (p.fa f) = some ⟨oc, od, .func (F.fd doc pm ctv), osl⟩ ∧ p.fd f = F.fd doc pm ctv ∧
    F.cl = [(("__class__" : Str), cc)] ∧ PySem.W.codeIn p.K (.ref F.c) F.qual = true ∧ NScope N (p.ps f) ["__class__"] F.scope ∧ SupF p.prog p.K p.mg F.c cc (p.C c) (p.fa fi) ∧
    F.scope.names.lookup ("super" : Str) = some .globalImplicit ∧ (F.params.posonlyargs ++ F.params.args).head?.map (·.arg) = some x0 ∧ (p.ps f)[0]? = some x0 ∧ q.ar = (p.ps f).length ∧ q.nn = N.length ∧ p.fns[fi]? = some q2 ∧
    supB p.nm ⟨N, F.scope, fun _ => false, gl⟩ c fi q.body F.body = true
open NdefX in
theorem startF_rel {g : Gm} {w : Wd} {ds : List D} {vs : List V} {N : List Str} {ws : List (Option V)} (r : RepL g w.G w.la ds vs) (n : Nat) (hn : ds.length + n = N.length) (hw : vs.length + ws.length ≤ N.length) : RelS g w (ds.map some ++ List.replicate n none) (startF N vs ws) := by
  have hl := r.length
  refine ⟨?_, fun i d h => ?_⟩
  · unfold startF
    simp only [List.length_append, List.length_map, List.length_replicate]
    omega
  · by_cases hi : i < ds.length
    · rw [List.getElem?_append_left (by simpa using hi), List.getElem?_map] at h
      obtain ⟨d', h1, h2⟩ := Option.map_eq_some_iff.mp h
      cases h2
      obtain ⟨v, h3, h4⟩ := r.get h1
      refine ⟨v, ?_, h4⟩
      unfold startF
      rw [List.getElem?_append_left (by rw [List.length_map, ← hl]; exact hi), List.getElem?_map, h3]
      rfl
    · rw [List.getElem?_append_right (by simpa using hi), List.getElem?_replicate] at h
      split at h <;> cases h
open NdefX in
theorem fn_sup {p : Pgm} {gl : List (Str × Gn)} {f k : Nat} {q : Fn} (hf : p.fns[f]? = some q) (P : SupP p gl f q) (fx : Facts p gl) (tab : ∀ j, j ≤ k → p.Tab j) :
    FnOk p.prog p.w p.K p.mg p.base (L2.CX p.prog p.w) (lev (k + 1)) (p.fa f) (p.fd f) (p.ps f) (spF p.g (run p.T p.fns (k + 1)) f q.ar) := by
  obtain ⟨N, F, doc, pm, ctv, oc, od, osl, cc, x0, c, fi, q2, lk, hfd, hcl, hcd, S, T, hks, har, h0, hqa, hqn, hfi, hsup⟩ := P.ex
  have hlev : lev (k + 1) = (lev k + 1) + 1 := by rw [lev_up]
  rw [hlev, hfd]
  unfold supB at hsup
  split at hsup
  · rename_i body b n p0 p1 m apos e es cpos spos rest c' f' ias iss hb1 hb2
    simp only [Bool.and_eq_true, decide_eq_true_eq] at hsup
    obtain ⟨⟨⟨⟨⟨⟨⟨⟨k1, k2⟩, k3⟩, k4⟩, k5⟩, k6⟩, k7⟩, k8⟩, k9⟩ := hsup
    obtain rfl := beq_iff_eq.mp k1
    obtain rfl := beq_iff_eq.mp k2
    obtain rfl := beq_iff_eq.mp k3
    obtain rfl := beq_iff_eq.mp k4
    refine fn_super (ta := tA p.g (p.Es k ias) fun _ _ _ _ => False) (tr := tS p.g (p.Ss k iss) (fun _ _ _ _ => False) []) lk hcl hcd S T hks har h0 hb1 k5 k6 k7 (spF_len hqa) fun A outer s H vs Q E hr ⟨w, ds, e1, ok, r1, h2, st⟩ => ?_
    have hpl : (p.ps f).length + 1 ≤ N.length := by
      have z := congrArg List.length S.pre
      rw [List.length_take, List.length_append] at z
      have : ([("__class__" : Str)]).length = 1 := rfl
      omega
    have hd : ds.length = q.ar := r1.length.trans h2
    have hvl : vs.length = (p.ps f).length := h2.trans hqa
    have hps : 0 < (p.ps f).length := (List.getElem?_eq_some_iff.mp h0).1
    have G : Good p ⟨N, F.scope, fun _ => false, gl⟩ (ncx (L2.CX p.prog p.w) p.prog p.w p.K p.mg p.base N F (p.fa f) A outer s H E) k (fun cls d _ H => E cls d H) := {
      of := ⟨rfl, rfl, rfl, rfl, rfl⟩
      N := rfl
      sc := rfl
      nd := S.nd
      calm := rfl
      cel := fun _ z => by cases z
      room := hr
      tab := tab
      tk := takes_of rfl rfl rfl rfl
      own := passes_of rfl
      fx := fx }
    have st2 := run_body hf hd ok st (List.replicate N.length none)
    rw [hb2] at st2
    generalize hr0 : ds.map some ++ List.replicate (q.nn - ds.length) none = r0 at st2
    have rs0 : RelS p.g w r0 (startF N vs [some (.ref (p.C c))]) := by
      rw [← hr0]
      exact startF_rel r1 _ (by omega) (by rw [hvl]; exact hpl)
    have sb0 : SubE (List.replicate N.length none) r0 := by
      rw [← hr0]
      exact start_sub _ _ (by simp only [List.length_append, List.length_map, List.length_replicate]; omega)
    cases r1 with
    | nil =>
      exfalso
      have z : (0 : Nat) = q.ar := hd
      omega
    | @cons d0 v0 ds' vs' rd0 rds =>
      have hr00 : r0[0]? = some (some d0) := by rw [← hr0]; rfl
      have st : Sat p.g w (wrA p.g (fun cls d _ H => E cls d H) (List.replicate N.length none)) ((p.S k (.sup c fi ias) r0 w.mu).bind fun fl m => (match fl with
        | .nx r => p.Ss k iss r m
        | fl => .ok fl m)) (flP p.g { nx := fun _ H' => Q .non H', rt := Q }) := st2
      have e2 : p.S k (.sup c fi ias) r0 w.mu = if clsOf w.mu d0 = some c then (p.Es k ias r0 w.mu).bind fun ds m => (run p.T p.fns k fi (d0 :: ds) m).bind fun _ m => .ok (.nx r0) m else .bad := by
        show (match r0[0]? with
          | some (some x) => _
          | _ => R.bad) = _
        rw [hr00]
      rw [e2] at st
      by_cases hc : clsOf w.mu d0 = some c
      · rw [if_pos hc] at st
        have hins : ∃ fs, look w.mu d0 = .ins c fs := by
          unfold clsOf at hc
          split at hc
          · rename_i c1 fs he
            cases hc
            exact ⟨fs, he⟩
          · cases hc
        obtain ⟨fs, hlk⟩ := hins
        obtain ⟨a, dx, fvs, rfl, h3, _, _⟩ := repX ok rd0 hlk
        subst e1
        refine ⟨a, dx, fvs, tA p.g (p.Es k ias) (fun cls d _ H => E cls d H), tS p.g (p.Ss k iss) (fun cls d _ H => E cls d H) (List.replicate N.length none), rfl, h3, sa_of (IEs.sound ias _ _ _ _ _ k8 G) k5, ISs.sound (bare_rep _) iss k9 G, ?_⟩
        refine ⟨w, r0, rfl, ok, rs0, (st.bind.bind.wr (sb0.rel rs0)).imp fun ds2 w1 g1 ok1 s1 vs2 rv2 pins s1' us I ru => ?_⟩
        have FO := G.of.fn (G.tab k (Nat.le_refl k)) hfi
        have s2 := Sat.bind s1
        have hlen2 : (d0 :: ds2).length = q2.ar ∨ (d0 :: ds2).length ≠ q2.ar := Decidable.em _
        rcases hlen2 with hlen2 | hlen2
        · have hsp : spF p.g (Rs.run p.T p.fns k) fi q2.ar (.ref a :: vs2) w1.H (fun v H2 => tS p.g (p.Ss k iss) (fun cls d _ H => E cls d H) (List.replicate N.length none) { nx := fun _ H' => Q .non H', rt := Q } (startF N (.ref a :: vs') [some (.ref (p.C c))]) H2) E := by
            refine ⟨w1, d0 :: ds2, rfl, ok1, .cons (rd0.grow g1) rv2, by rw [← hlen2, List.length_cons, List.length_cons, rv2.length], Sat.wk (s2.imp fun d w2 g2 ok2 s3 v rv => ?_) fun c fs w' h cls d hx => h cls d _ hx ⟨sb0.1.trans rs0.1, fun i d e => absurd e (bare_rep _ i d)⟩⟩
            exact ⟨w2, r0, rfl, ok2, (rs0.grow g1).grow g2, sb0, Sat.now s3 ok2⟩
          have hl2 := FO.len _ _ _ _ hsp
          have hb := G.fx.bnd fi q2 hfi
          have r2 : Vals (V.ref a :: vs2) (Value.ref a :: us) := .cons rfl ru
          have hp1 : codeAny (model p.prog p.w) (A.deeper (envF F (p.fa f) s.heap.objs.size)) (.call (.ref (p.fa fi)) ⟨.ref a :: us, []⟩) _ s1' := FO.run (A.deeper (envF F (p.fa f) s.heap.objs.size)) _ s1' w1.H ⟨.ref a :: us, []⟩ (.ref a :: us) (.ref a :: vs2) _ E (hr.mono (by omega)) I.env0 (by
            have z := hb s1' (Value.ref a :: us) I.kIn (by rw [List.append_nil, ← r2.length]; exact hl2)
            simpa using z) r2 hsp
          refine codeAny_mono hp1 fun r s' hq => ?_
          cases r with
          | error u => exact passAt (W := fun cls d _ H => E cls d H) G.tk _ pins w1.H s1' u s' I hq
          | ok fl =>
            cases fl with
            | ret u =>
              obtain ⟨v, H2, I2, _, q2⟩ := I.after hq
              exact ⟨v, H2, I2, q2⟩
            | next => exact hq.elim
            | brk => exact hq.elim
            | cont => exact hq.elim
        · have z : Rs.run p.T p.fns k fi (d0 :: ds2) w1.mu = .bad := run_len hfi hlen2
          rw [z] at s2
          exact s2.elim
      · rw [if_neg hc] at st
        exact st.elim
  · cases hsup
/-- all functions keep their promises -/
theorem tab_all {p : Pgm} {gl : List (Str × Gn)} (fx : Facts p gl) (h : ∀ f q, p.fns[f]? = some q → FnP p gl f q ∨ SupP p gl f q) : ∀ n k, k ≤ n → p.Tab k
  | 0, k, hk => by
    obtain rfl : k = 0 := by omega
    intro f q hf
    refine fn_zero ?_
    rcases h f q hf with P | P
    · obtain ⟨_, _, _, _, _, _, _, _, z, _⟩ := P.ex
      exact z
    · obtain ⟨_, _, _, _, _, _, _, _, _, _, _, _, _, _, _, _, _, _, _, _, _, _, z, _⟩ := P.ex
      exact z
  | n + 1, k, hk => by
    have ih := tab_all fx h n
    by_cases hkn : k ≤ n
    · exact ih k hkn
    · obtain rfl : k = n + 1 := by omega
      intro f q hf
      rcases h f q hf with P | P
      · exact fn_succ hf P fx ih
      · exact fn_sup hf P fx ih
end Rs

/-! part RsH1 -/
set_option Elab.async false
set_option linter.all false
set_option maxRecDepth 100000
set_option maxHeartbeats 4000000
/-! Arguments of functions without defaults. -/
namespace Rs
open PySem L2
def plainPar (q : Arguments) : Bool := q.posonlyargs.isEmpty && q.vararg.isNone && q.kwonlyargs.isEmpty && q.kwarg.isNone
theorem zip_look' : ∀ {ps : List Str} {us : List Value} {x : Str}, ps.length = us.length → x ∈ ps → ((ps.zip us).lookup x).isSome = true
  | [], _, _, _, h => by cases h
  | _ :: _, [], _, h, _ => by cases h
  | p :: ps, u :: us, x, h, hx => by
    rw [List.zip_cons_cons, List.lookup]
    cases q : (x == p) with
    | true => rfl
    | false =>
      rcases List.mem_cons.mp hx with z | z
      · rw [z] at q
        simp at q
      · exact zip_look' (Nat.succ.inj h) z
theorem zip_back : ∀ {ps : List Str} {us : List Value} (l : List (Str × Value)), ps.Nodup → ps.length = us.length → (∀ x ∈ ps, l.lookup x = (ps.zip us).lookup x) → (ps.filterMap fun n => (l.lookup n).map (n, ·)) = ps.zip us
  | [], _, _, _, _, _ => by simp
  | _ :: _, [], _, _, h, _ => by cases h
  | p :: ps, u :: us, l, nd, h, hx => by
    obtain ⟨n1, n2⟩ := List.nodup_cons.mp nd
    have h1 : l.lookup p = some u := by
      rw [hx p (by simp), List.zip_cons_cons, List.lookup_cons_self]
    rw [List.filterMap_cons, h1, List.zip_cons_cons]
    show (p, u) :: _ = _
    congr 1
    refine zip_back l n2 (Nat.succ.inj h) fun x hm => ?_
    rw [hx x (by simp [hm]), List.zip_cons_cons]
    have : (x == p) = false := beq_eq_false_iff_ne.mpr fun z => n1 (z ▸ hm)
    simp only [List.lookup, this]
theorem bind_plain {fd : FuncData} {us : List Value} (hp : plainPar fd.params = true) (hd : fd.defaults = .none) (nd : (fd.params.args.map (·.arg)).Nodup) (hl : us.length = (fd.params.args.map (·.arg)).length) : bindArgs fd ⟨us, []⟩ = pure ((fd.params.args.map (·.arg)).zip us) := by
  obtain ⟨n1, n2, n3, n4, n5, n6, n7, n8, n9, n10, n11, n12, n13, n14, n15⟩ := fd
  obtain ⟨po, ar, va, kwo, kwd, kwa, df⟩ := n3
  simp only [plainPar, Bool.and_eq_true] at hp
  obtain ⟨⟨⟨h1, h2⟩, h3⟩, h4⟩ := hp
  simp only [List.isEmpty_iff] at h1 h3
  simp only [Option.isNone_iff_eq_none] at h2 h4
  subst h1 h2 h3 h4
  dsimp only at hd nd hl ⊢
  subst hd
  unfold bindArgs
  dsimp only
  generalize ar.map (·.arg) = ps at nd hl ⊢
  have hlook : ∀ x ∈ ps, ((ps.zip us).lookup x).isSome = true := fun x hx => zip_look' hl.symm hx
  have hmiss : (ps.filter fun n => ((ps.zip us).lookup n).isNone) = [] := by
    rw [List.filter_eq_nil_iff]
    intro x hx
    have := hlook x hx
    cases q : (ps.zip us).lookup x with
    | none => rw [q] at this; cases this
    | some _ => simp
  have hall := zip_back (us := us) (ps.zip us) nd hl.symm fun _ _ => rfl
  have hgt : ¬ (us.length > ps.length) := by omega
  have hn : notAStandIn Value.none = pure () := rfl
  simp only [List.map_nil, List.nil_append, List.append_nil, List.forIn_nil, seqItems?, pure_bind, Option.getD_none, Option.isNone_none, Bool.and_true]
  simp [hgt, hmiss, hall, hl, hn]
end Rs

/-! part RsH2 -/
set_option Elab.async false
set_option linter.all false
set_option maxRecDepth 100000
set_option maxHeartbeats 4000000
/-! What the top has left, checked: from names to the facts that the pure language leans on. -/
namespace Rs
open PySem L2 He
structure FMeta where
  at_ : Str × Option Str
  N : List Str
  sup : Option (Nat × Nat)
  fn : Fn
structure Meta where
  nms : List Str
  cls : List (Str × Cls)
  fns : List FMeta
  gl : List (Str × Gn)
def padN (i : Nat) : Str := ⟨Array.replicate (i + 1000) 0⟩
def nmF (nms : List Str) (i : Nat) : Str := match nms[i]? with
  | some x => x
  | none => padN i
theorem padN_inj {i j : Nat} (h : padN i = padN j) : i = j := by
  have z := congrArg (fun s : Str => s.cps.size) h
  simp only [padN, Array.size_replicate] at z
  omega
theorem nmF_inj {nms : List Str} (nd : nms.Nodup) (hs : ∀ x ∈ nms, x.cps.size < 1000) (i j : Nat) (h : nmF nms i = nmF nms j) : i = j := by
  unfold nmF at h
  cases hi : nms[i]? with
  | none =>
    rw [hi] at h
    cases hj : nms[j]? with
    | none =>
      rw [hj] at h
      exact padN_inj h
    | some y =>
      rw [hj] at h
      have z := hs y (List.mem_of_getElem? hj)
      dsimp only at h
      rw [← h] at z
      simp only [padN, Array.size_replicate] at z
      omega
  | some x =>
    rw [hi] at h
    cases hj : nms[j]? with
    | none =>
      rw [hj] at h
      have z := hs x (List.mem_of_getElem? hi)
      dsimp only at h
      rw [h] at z
      simp only [padN, Array.size_replicate] at z
      omega
    | some y =>
      rw [hj] at h
      dsimp only at h
      subst h
      obtain ⟨h1, e1⟩ := List.getElem?_eq_some_iff.mp hi
      obtain ⟨h2, e2⟩ := List.getElem?_eq_some_iff.mp hj
      exact (List.getElem_inj nd).mp (e1.trans e2.symm)
/-! ### the text's words -/
def isDefB (x : Str) : Stmt → Bool
  | .FunctionDef n .. => n == x
  | _ => false
def isClsB (x : Str) : Stmt → Bool
  | .ClassDef n .. => n == x
  | _ => false
def noSt : Stmt := .Pass ⟨0, 0, 0, 0⟩
def findDef (b : List Stmt) (q : Str × Option Str) : Stmt := match q.2 with
  | none => (b.find? (isDefB q.1)).getD noSt
  | some m => (match b.find? (isClsB q.1) with
    | some (.ClassDef _ _ _ body _ _ _ _ _ _ _) => (body.find? (isDefB m)).getD noSt
    | _ => noSt)
def dot : Str := "."
def qualOf (q : Str × Option Str) : Str := match q.2 with
  | none => q.1
  | some m => q.1 ++ dot ++ m
def nameOf (q : Str × Option Str) : Str := q.2.getD q.1
def parOf (st : Stmt) : List Str := (defArgs st).args.map (·.arg)
abbrev FnW2 : Type := Option (Str × Str × Arguments × FuncBody × Scope × Addr × List Str × Addr)
def fnW2 (K : PySem.W.Frag) (q : Str × Option Str) : FnW2 := match K.lookup (fAd K q) with
  | some ⟨_, _, .func fd, _⟩ => some (fd.name, fd.qualname, fd.params, fd.body, fd.scope, fd.globals, fd.closure.map (·.1), fd.builtins)
  | _ => none
def FMeta.val (b : List Stmt) (m : FMeta) : FnW2 := some (nameOf m.at_, qualOf m.at_, defArgs (findDef b m.at_), .stmts (defBody (findDef b m.at_)), defScope (findDef b m.at_), mainGlobals, if m.sup.isSome then ["__class__"] else [], builtinsNs)
/-! ### checks of the text alone -/
def fnScB (N ps : List Str) (sc : Scope) : Bool := isFun sc.kind && !sc.isCoroutine && !sc.isGenerator && decide N.Nodup && decide (N.take ps.length = ps) && ps.all (fun x => match sc.names.lookup x with
    | some .local => true
    | some .cell => true
    | _ => false) && sc.names.all (fun y => match y.2 with
    | .free => false
    | _ => true)
theorem fnScB_ok {N ps : List Str} {sc : Scope} (h : fnScB N ps sc = true) : FnScope N ps sc := by
  simp only [fnScB, Bool.and_eq_true, decide_eq_true_eq, Bool.not_eq_true'] at h
  obtain ⟨⟨⟨⟨⟨⟨h1, h2⟩, h3⟩, h4⟩, h5⟩, h6⟩, h7⟩ := h
  refine ⟨isFun_ok h1, h2, h3, h4, h5, fun x hx => ?_, fun y hy => ?_⟩
  · have z := List.all_eq_true.mp h6 x hx
    split at z
    · rename_i e; exact .inl e
    · rename_i e; exact .inr e
    · cases z
  · have z := List.all_eq_true.mp h7 y hy
    intro e
    rw [e] at z
    cases z
def FMeta.text (M : Meta) (b : List Stmt) (m : FMeta) : Bool :=
  let st := findDef b m.at_
  plainPar (defArgs st) && decide (parOf st).Nodup && m.fn.ar == (parOf st).length && m.fn.nn == m.N.length && (match m.sup with
  | none => fnScB m.N (parOf st) (defScope st) && ckSs (nmF M.nms) m.fn.body ⟨m.N, defScope st, fun _ => true, M.gl⟩ (defBody st)
  | some (c, fi) => NdefX.nscB m.N (parOf st) ["__class__"] (defScope st) && isGlob? ((defScope st).names.lookup ("super" : Str)) && supB (nmF M.nms) ⟨m.N, defScope st, fun _ => false, M.gl⟩ c fi m.fn.body (defBody st) && decide (c < M.cls.length) && decide (fi < M.fns.length) && !(parOf st).isEmpty)
def Meta.text (M : Meta) (P : Program) : Bool := M.fns.all (FMeta.text M P.main.body) && decide M.nms.Nodup && M.nms.all (fun x => decide (x.cps.size < 1000)) && (P.main.scope.names.lookup ("super" : Str)).isNone
/-! ### addresses -/
def Meta.C (M : Meta) (K : PySem.W.Frag) (c : Nat) : Addr := match M.cls[c]? with
  | some q => ga K q.1
  | none => 0
def Meta.fa (M : Meta) (K : PySem.W.Frag) (f : Nat) : Addr := match M.fns[f]? with
  | some m => fAd K m.at_
  | none => 0
def fdAt (K : PySem.W.Frag) (a : Addr) : FuncData := match K.lookup a with
  | some ⟨_, _, .func fd, _⟩ => fd
  | _ => default
def Meta.pgm (M : Meta) (P : Program) (w : World) (K : PySem.W.Frag) (mg : Str → Option Value) (base : Heap) : Pgm where
  prog := P
  w := w
  K := K
  mg := mg
  base := base
  C := M.C K
  nm := nmF M.nms
  T := M.cls.map (·.2)
  fns := M.fns.map (·.fn)
  fa := M.fa K
  fd := fun f => fdAt K (M.fa K f)
  ps := fun f => match M.fns[f]? with
    | some m => parOf (findDef P.main.body m.at_)
    | none => []
/-! ### checks of what the top has left -/
def isNoneV : Value → Bool
  | .none => true
  | _ => false
def optB (o : Option (Option Value)) (v : Option Value) : Bool := decide (o = some v)
theorem optB_ok {o : Option (Option Value)} {v : Option Value} (h : optB o v = true) : o = some v := of_decide_eq_true h
def supK (M : Meta) (P : Program) (K : PySem.W.Frag) (c fi : Nat) (fd : FuncData) : Bool := isNoneV fd.kwdefaults && fd.annotations.isNone && (match fd.code with
  | .ref cda => (match K.lookup cda with
    | some ⟨_, _, .fields vs, _⟩ => (match (vs[2]? : Option Value) with
      | some (.str file _) => (P.main.file : Str) == file
      | _ => false)
    | _ => false)
  | _ => false) && (match fd.closure with
  | [(_, cc)] => (match K.lookup cc with
    | some ⟨_, _, .cell (some (.ref C)), _⟩ => C == M.C K c
    | _ => false)
  | _ => false) && (match PySem.W.clsIn K (M.C K c) with
  | some cd => optB (PySem.W.alongIn K "__init__" ((cd.mro.dropWhile (· != .ref (M.C K c))).drop 1)) (some (.ref (M.fa K fi)))
  | none => false) && decide (PySem.W.mroIn K (M.C K c) (.ref (M.C K c)) = some true) && optB (PySem.W.nsIn K cStatics "thirdparty.any") none && decide (PySem.W.typeIn K (.ref (M.fa K fi)) = some (.type "function")) && PySem.W.fnIn K (M.fa K fi) && optB (PySem.W.nsIn K mainGlobals "super") none
def FMeta.left (M : Meta) (P : Program) (K : PySem.W.Frag) (m : FMeta) : Bool := PySem.W.keepIn K (.ref (fAd K m.at_)) && (match K.lookup (fAd K m.at_) with
  | some ⟨_, _, .func fd, _⟩ => PySem.W.codeIn K fd.code (qualOf m.at_) && isNoneV fd.defaults && (match m.sup with
    | none => true
    | some (c, fi) => supK M P K c fi fd)
  | _ => false)
def optN (o : Option Bool) (b : Bool) : Bool := decide (o = some b)
def rng (n : Nat) : List Nat := List.range n
def clsLeft (M : Meta) (K : PySem.W.Frag) (x : Str) (q : Cls) : Bool :=
  let C := ga K x
  let ex := q.exf.isSome
  (ex || (PySem.W.plainGet K C Str.empty && PySem.W.hasDictIn K C && PySem.W.plainOver K C && optB (PySem.W.findIn K (.ref C) "__setattr__") (some (.builtin "object.__setattr__")))) &&
  q.flds.all (fun f => optB (PySem.W.findIn K (.ref C) (nmF M.nms f)) none) &&
  q.mets.all (fun gf => optB (PySem.W.findIn K (.ref C) (nmF M.nms gf.1)) (some (.ref (M.fa K gf.2))) && PySem.W.isFn K (.ref (M.fa K gf.2)) && PySem.W.keepIn K (.ref (M.fa K gf.2)) && decide (gf.2 < M.fns.length)) &&
  (ex || (optB (PySem.W.findIn K (.ref C) "__class__") (some (.builtin "object.__class__")) && optB (PySem.W.specialIn K (.builtin "object.__class__") "__get__") (some (.builtin "getset_descriptor.__get__")) && optN (PySem.W.takesIn K (.builtin "object.__class__")) true && optN (PySem.W.mroIn K C (.type "object")) true)) &&
  (rng M.cls.length).all (fun c' => optN (PySem.W.kitOne K (.ref C) (.ref (M.C K c'))) (q.mro.contains c')) &&
  kinds.all (fun t => optN (PySem.W.kitOne K (.type t) (.ref C)) false) &&
  (ex || kinds.all (fun t => optN (PySem.W.kitOne K (.ref C) (.type t)) false)) &&
  (ex || (match q.ini with
    | some f => PySem.W.makesIn K C && optB (PySem.W.findIn K (.ref C) "__init__") (some (.ref (M.fa K f))) && PySem.W.isFn K (.ref (M.fa K f)) && PySem.W.keepIn K (.ref C) && decide (f < M.fns.length)
    | none => true)) &&
  (match q.eqg with
    | some (_, _, f) => optB (PySem.W.findIn K (.ref C) "__eq__") (some (.ref (M.fa K f))) && PySem.W.isFn K (.ref (M.fa K f)) && (rng M.cls.length).all (fun c' => PySem.W.notFirst K C (.ref (M.C K c'))) && kinds.all (fun t => PySem.W.notFirst K C (.type t)) && (match M.fns[f]? with
      | some m => m.fn.ar == 2
      | none => false)
    | none => true)
/-- texts that a tuple of the written part holds -/
def strsLeft : List Value → List D → Bool
  | [], [] => true
  | .str s _ :: vs, .str t :: ds => s == t && strsLeft vs ds
  | _, _ => false
def tupLeft (K : PySem.W.Frag) (a : Addr) (ds : List D) : Bool := match K.lookup a with
  | some o => o.cls == .type "tuple" && (match o.data with
    | .seq its _ => decide (its.size ≤ 1000) && strsLeft its.toList ds
    | _ => false)
  | none => false
def glLeft (M : Meta) (K : PySem.W.Frag) (x : Str) : Gn → Bool
  | .fn f => true && optB (PySem.W.nsIn K mainGlobals x) (some (.ref (M.fa K f))) && PySem.W.keepIn K (.ref (M.fa K f))
  | .cl c => (match M.cls[c]? with
    | some q => q.1 == x
    | none => false) && optB (PySem.W.nsIn K mainGlobals x) (some (.ref (ga K x))) && PySem.W.keepIn K (.ref (ga K x))
  | .bu => optB (PySem.W.nsIn K mainGlobals x) none
  | .ct d => (match PySem.W.nsIn K mainGlobals x, d with
    | some (some (.int j _)), .int i => j == i
    | some (some (.str j _)), .str i => j == i
    | some (some (.ref a)), .tup ds => tupLeft K a ds
    | _, _ => false)
def Meta.left (M : Meta) (P : Program) (K : PySem.W.Frag) : Bool := M.fns.all (FMeta.left M P K) && M.cls.all (fun q => clsLeft M K q.1 q.2) && M.gl.all (fun x => glLeft M K x.1 x.2) && decide ((rng M.cls.length).map (M.C K)).Nodup
abbrev AlR : Type := Bool × List FnW2
def obsR (M : Meta) (P : Program) (K : PySem.W.Frag) : AlR := (M.left P K, M.fns.map fun m => fnW2 K m.at_)
def valR (M : Meta) (P : Program) : AlR := (true, M.fns.map (FMeta.val P.main.body))
/-- all addresses below n, the newest first -/
def asR (n : Nat) : List Addr := mainGlobals :: cStatics :: (List.range n).reverse
def obsRG (n : Nat) (M : Meta) (P : Program) (g : Addr → Option Obj) : AlR := obsR M P (frG g (asR n))
def hookR (n : Nat) (M : Meta) (P : Program) : PySem.W.Hook where
  α := AlR
  obs := fun s => obsRG n M P s.heap.get?
  val := fun _ => valR M P
  says := fun _ h => ∃ K : PySem.W.Frag, K.In h ∧ obsR M P K = valR M P
  of := fun _ _ e => ⟨_, frG_in, e⟩
  keeps := fun _ _ _ ⟨K, hK, c⟩ k => ⟨K, PySem.W.Frag.In.keeps hK k, c⟩
theorem obsRG_eq {n : Nat} {M : Meta} {P : Program} {g : Addr → Option Obj} {s : Shared} (h : ∀ a, g a = s.heap.get? a) : obsRG n M P g = (hookR n M P).obs s := by
  have e : g = s.heap.get? := funext h
  rw [e] <;> rfl
end Rs

/-! part RsH3 -/
set_option Elab.async false
set_option linter.all false
set_option maxRecDepth 100000
set_option maxHeartbeats 4000000
namespace Rs
open PySem L2 He
/-- what == does for the classes that have an own one: a claim about the pure language alone -/
def Meta.EqRun (M : Meta) : Prop := ∀ c gp n f fs b m k r i j, ((M.cls.map (·.2))[c]?).bind Cls.eqg = some (gp, n, f) → dep (.ins c fs) = some i → i ≤ k + 2 → dep b = some j → j ≤ k + 2 →
  eqD (M.cls.map (·.2)) (.ins c fs) b = some r → Rs.run (M.cls.map (·.2)) (M.fns.map (·.fn)) (k + 1) f [.ins c fs, b] m = .ok (.bl r) m
theorem lookup_mem {α : Type} {x : Str} {y : α} : ∀ {l : List (Str × α)}, l.lookup x = some y → (x, y) ∈ l
  | [], h => by cases h
  | (a, b) :: l, h => by
    rw [List.lookup] at h
    cases q : (x == a) with
    | true =>
      rw [q] at h
      cases h
      rw [beq_iff_eq.mp q]
      exact List.mem_cons_self
    | false =>
      rw [q] at h
      exact List.mem_cons_of_mem _ (lookup_mem h)
theorem lookupN_mem {α : Type} {x : Nat} {y : α} : ∀ {l : List (Nat × α)}, l.lookup x = some y → (x, y) ∈ l
  | [], h => by cases h
  | (a, b) :: l, h => by
    rw [List.lookup] at h
    cases q : (x == a) with
    | true =>
      rw [q] at h
      cases h
      rw [beq_iff_eq.mp q]
      exact List.mem_cons_self
    | false =>
      rw [q] at h
      exact List.mem_cons_of_mem _ (lookupN_mem h)
section
variable {M : Meta} {P : Program} {w : World} {K : PySem.W.Frag} {mg : Str → Option Value} {base h : Heap}
structure MOk (M : Meta) (P : Program) (K : PySem.W.Frag) : Prop where
  left : M.left P K = true
  words : ∀ (f : Nat) (m : FMeta), M.fns[f]? = some m → fnW2 K m.at_ = m.val P.main.body
  text : M.text P = true
theorem mok_of (c : obsR M P K = valR M P) (t : M.text P = true) : MOk M P K := by
  refine ⟨congrArg (fun z : AlR => z.1) c, fun f m hm => ?_, t⟩
  have e : (M.fns.map fun m => fnW2 K m.at_)[f]? = (M.fns.map (FMeta.val P.main.body))[f]? := by
    have z : M.fns.map (fun m => fnW2 K m.at_) = M.fns.map (FMeta.val P.main.body) := congrArg (fun z : AlR => z.2) c
    rw [z]
  rw [List.getElem?_map, List.getElem?_map, hm] at e
  exact Option.some.inj e
theorem MOk.nmi (o : MOk M P K) (i j : Nat) (h : nmF M.nms i = nmF M.nms j) : i = j := by
  have t := o.text
  simp only [Meta.text, Bool.and_eq_true, decide_eq_true_eq] at t
  exact nmF_inj t.1.1.2 (fun x hx => of_decide_eq_true (List.all_eq_true.mp t.1.2 x hx)) i j h
theorem MOk.fns (o : MOk M P K) {f : Nat} {m : FMeta} (hm : M.fns[f]? = some m) : m.text M P.main.body = true ∧ m.left M P K = true ∧ fnW2 K m.at_ = m.val P.main.body := by
  have t := o.text
  have l := o.left
  simp only [Meta.text, Bool.and_eq_true] at t
  simp only [Meta.left, Bool.and_eq_true] at l
  exact ⟨List.all_eq_true.mp t.1.1.1 m (List.mem_of_getElem? hm), List.all_eq_true.mp l.1.1.1 m (List.mem_of_getElem? hm), o.words f m hm⟩
theorem fa_at {f : Nat} {m : FMeta} (hm : M.fns[f]? = some m) : M.fa K f = fAd K m.at_ := by
  unfold Meta.fa
  rw [hm]
theorem C_at {c : Nat} {q : Str × Cls} (hm : M.cls[c]? = some q) : M.C K c = ga K q.1 := by
  unfold Meta.C
  rw [hm]
theorem isNoneV_ok {v : Value} (h : isNoneV v = true) : v = .none := by cases v <;> first | rfl | cases h
/-- the words of a function that stands -/
theorem words_of (o : MOk M P K) {f : Nat} {m : FMeta} (hm : M.fns[f]? = some m) :
    ∃ (oc : Value) (od : Option Addr) (fd : FuncData) (osl : Array (Option Value)), K.lookup (M.fa K f) = some ⟨oc, od, .func fd, osl⟩ ∧ fdAt K (M.fa K f) = fd ∧ fd.name = nameOf m.at_ ∧ fd.qualname = qualOf m.at_ ∧ fd.params = defArgs (findDef P.main.body m.at_) ∧ fd.body = .stmts (defBody (findDef P.main.body m.at_)) ∧
      fd.scope = defScope (findDef P.main.body m.at_) ∧ fd.globals = mainGlobals ∧ fd.closure.map (·.1) = (if m.sup.isSome then [("__class__" : Str)] else []) ∧ fd.builtins = builtinsNs ∧ PySem.W.codeIn K fd.code (qualOf m.at_) = true ∧ fd.defaults = .none ∧ PySem.W.keepIn K (.ref (M.fa K f)) = true ∧
      (∀ c fi, m.sup = some (c, fi) → supK M P K c fi fd = true) := by
  obtain ⟨_, h2, h3⟩ := o.fns hm
  rw [fa_at hm]
  unfold FMeta.left at h2
  obtain ⟨h4, h5⟩ := Bool.and_eq_true_iff.mp h2
  unfold fnW2 FMeta.val at h3
  cases q : K.lookup (fAd K m.at_) with
  | none =>
    rw [q] at h5
    cases h5
  | some ob =>
    obtain ⟨oc, od, dt, osl⟩ := ob
    rw [q] at h5 h3
    cases dt with
    | func fd =>
      simp only [Option.some.injEq, Prod.mk.injEq] at h3
      obtain ⟨e1, e2, e3, e4, e5, e6, e7, e8⟩ := h3
      simp only [Bool.and_eq_true] at h5
      obtain ⟨⟨k1, k2⟩, k3⟩ := h5
      refine ⟨oc, od, fd, osl, rfl, by unfold fdAt; rw [q], e1, e2, e3, e4, e5, e6, e7, e8, k1, isNoneV_ok k2, h4, fun c fi hs => ?_⟩
      rw [hs] at k3
      exact k3
    | _ => cases h5
theorem bnd_of (o : MOk M P K) {f : Nat} {m : FMeta} (hm : M.fns[f]? = some m) : ∀ us : List Value, us.length = (parOf (findDef P.main.body m.at_)).length → bindArgs (fdAt K (M.fa K f)) ⟨us, []⟩ = pure ((parOf (findDef P.main.body m.at_)).zip us) := fun us hl => by
  obtain ⟨oc, od, fd, osl, h1, h2, h3, h4, h5, h6, h7, h8, h9, h10, h11, h12, h13, h14⟩ := words_of o hm
  obtain ⟨t, _, _⟩ := o.fns hm
  simp only [FMeta.text, Bool.and_eq_true, decide_eq_true_eq] at t
  obtain ⟨⟨⟨⟨t1, t2⟩, t3⟩, t4⟩, t5⟩ := t
  rw [h2]
  have z := bind_plain (fd := fd) (us := us) (by rw [h5]; exact t1) h12 (by rw [h5]; exact t2) (by rw [h5]; exact hl)
  rw [z, h5]
  rfl
abbrev pg (M : Meta) (P : Program) (w : World) (K : PySem.W.Frag) (mg : Str → Option Value) (base : Heap) : Pgm := M.pgm P w K mg base
theorem ps_at {f : Nat} {m : FMeta} (hm : M.fns[f]? = some m) : (M.pgm P w K mg base).ps f = parOf (findDef P.main.body m.at_) := by
  show (match M.fns[f]? with
    | some m => parOf (findDef P.main.body m.at_)
    | none => []) = _
  rw [hm]
theorem fn_at {f : Nat} {q : Fn} (h : (M.pgm P w K mg base).fns[f]? = some q) : ∃ m, M.fns[f]? = some m ∧ m.fn = q := by
  have h : (M.fns.map (·.fn))[f]? = some q := h
  rw [List.getElem?_map] at h
  exact Option.map_eq_some_iff.mp h
theorem fn_is {f : Nat} (h : f < M.fns.length) : ∃ q, (M.pgm P w K mg base).fns[f]? = some q := by
  refine ⟨(M.fns[f]).fn, ?_⟩
  show (M.fns.map (·.fn))[f]? = _
  rw [List.getElem?_map, List.getElem?_eq_getElem h]
  rfl
theorem cls_at {c : Nat} {q : Cls} (h : (M.pgm P w K mg base).T[c]? = some q) : ∃ x, M.cls[c]? = some (x, q) := by
  have h : (M.cls.map (·.2))[c]? = some q := h
  rw [List.getElem?_map] at h
  obtain ⟨⟨x, q'⟩, h1, rfl⟩ := Option.map_eq_some_iff.mp h
  exact ⟨x, h1⟩
theorem T_len {c : Nat} (h : ((M.pgm P w K mg base).T[c]?).isSome = true) : c < M.cls.length := by
  obtain ⟨q, hq⟩ := Option.isSome_iff_exists.mp h
  obtain ⟨x, hx⟩ := cls_at hq
  exact (List.getElem?_eq_some_iff.mp hx).1
theorem rng_all {n i : Nat} {f : Nat → Bool} (h : (rng n).all f = true) (hi : i < n) : f i = true := List.all_eq_true.mp h i (List.mem_range.mpr hi)
theorem optN_ok {o : Option Bool} {b : Bool} (h : optN o b = true) : o = some b := of_decide_eq_true h
theorem or_no {a : Option (List Nat)} {b : Bool} (h : (a.isSome || b) = true) (e : a = none) : b = true := by rw [e] at h; exact h
theorem fns_ok (o : MOk M P K) (hmg : mg "super" = none) {f : Nat} {q : Fn} (h : (M.pgm P w K mg base).fns[f]? = some q) : FnP (M.pgm P w K mg base) M.gl f q ∨ SupP (M.pgm P w K mg base) M.gl f q := by
  obtain ⟨m, hm, rfl⟩ := fn_at h
  obtain ⟨oc, od, fd, osl, h1, h2, h3, h4, h5, h6, h7, h8, h9, h10, h11, h12, h13, h14⟩ := words_of o hm
  obtain ⟨t, _, _⟩ := o.fns hm
  simp only [FMeta.text, Bool.and_eq_true, decide_eq_true_eq] at t
  obtain ⟨⟨⟨⟨t1, t2⟩, t3⟩, t4⟩, t5⟩ := t
  have t3 := beq_iff_eq.mp t3
  have t4 := beq_iff_eq.mp t4
  obtain ⟨n1, n2, n3, n4, n5, n6, n7, n8, n9, n10, n11, n12, n13, n14, n15⟩ := fd
  dsimp only at h3 h4 h5 h6 h7 h8 h9 h10 h11 h12 h14
  subst h3 h4 h5 h6 h7 h8 h10 h12
  cases hs : m.sup with
  | none =>
    rw [hs] at t5 h9
    simp only [Bool.and_eq_true] at t5
    left
    have h9 : n7.map (·.1) = [] := h9
    rw [List.map_eq_nil_iff] at h9
    subst h9
    refine ⟨m.N, nameOf m.at_, qualOf m.at_, _, _, _, ⟨⟨oc, od, .none, n9, n10, n11, n12, n13, n14, osl, h2, (show K.lookup (M.fa K f) = some ⟨oc, od, .func (fdAt K (M.fa K f)), osl⟩ by rw [h2]; exact h1), h11, .inl ⟨rfl, rfl⟩, .inl rfl⟩, h13⟩, ?_, ?_, t4, t5.2⟩
    · rw [ps_at hm]
      exact fnScB_ok t5.1
    · rw [ps_at hm]
      exact t3
  | some cf =>
    obtain ⟨c, fi⟩ := cf
    rw [hs] at t5 h9
    simp only [Bool.and_eq_true, decide_eq_true_eq] at t5
    obtain ⟨⟨⟨⟨⟨u1, u2⟩, u3⟩, u4⟩, u5⟩, u6⟩ := t5
    right
    have hk := h14 c fi hs
    simp only [supK, Bool.and_eq_true] at hk
    obtain ⟨⟨⟨⟨⟨⟨⟨⟨⟨v1, v2⟩, v3⟩, v4⟩, v5⟩, v6⟩, v7⟩, v8⟩, v9⟩, v10⟩ := hk
    have v1 := isNoneV_ok v1
    have v2 := Option.isNone_iff_eq_none.mp v2
    subst v1 v2
    have h9 : n7.map (·.1) = [("__class__" : Str)] := h9
    match n7, h9, v4 with
    | [(y, cc)], h9, v4 =>
      obtain rfl : y = "__class__" := (List.cons.inj h9).1
      have v4 : (match K.lookup cc with
        | some ⟨_, _, .cell (some (.ref C)), _⟩ => C == M.C K c
        | _ => false) = true := v4
      obtain ⟨q2, hq2⟩ := fn_is (P := P) (w := w) (K := K) (mg := mg) (base := base) u5
      cases n13 with
      | ref cda =>
        have v3 : (match K.lookup cda with
          | some ⟨_, _, .fields vs, _⟩ => (match (vs[2]? : Option Value) with
            | some (.str file _) => (P.main.file : Str) == file
            | _ => false)
          | _ => false) = true := v3
        have hcode : ∃ (ccl : Value) (cdd : Option Addr) (vs : Array Value) (ccs : Array (Option Value)) (file : Str) (tf : Tok), K.lookup cda = some ⟨ccl, cdd, .fields vs, ccs⟩ ∧ vs[2]? = some (.str file tf) ∧ ((P.main.file : Str) == file) = true := by
          split at v3
          · rename_i hq
            split at v3
            · rename_i hf
              exact ⟨_, _, _, _, _, _, hq, hf, v3⟩
            · cases v3
          · cases v3
        have hcell : ∃ (cl : Value) (cld : Option Addr) (csl : Array (Option Value)), K.lookup cc = some ⟨cl, cld, .cell (some (.ref (M.C K c))), csl⟩ := by
          split at v4
          · rename_i hq
            rw [beq_iff_eq.mp v4] at hq
            exact ⟨_, _, _, hq⟩
          · cases v4
        have hcls : ∃ cd : ClassData, PySem.W.clsIn K (M.C K c) = some cd ∧ PySem.W.alongIn K "__init__" ((cd.mro.dropWhile (· != .ref (M.C K c))).drop 1) = some (some (.ref (M.fa K fi))) := by
          cases hq : PySem.W.clsIn K (M.C K c) with
          | none =>
            rw [hq] at v5
            cases v5
          | some cd =>
            rw [hq] at v5
            exact ⟨cd, rfl, optB_ok v5⟩
        have hps : ∃ x0, (defArgs (findDef P.main.body m.at_)).posonlyargs = [] ∧ (parOf (findDef P.main.body m.at_))[0]? = some x0 := by
          simp only [plainPar, Bool.and_eq_true, List.isEmpty_iff] at t1
          cases hpar : parOf (findDef P.main.body m.at_) with
          | nil =>
            rw [hpar] at u6
            cases u6
          | cons x0 _ => exact ⟨x0, t1.1.1.1, rfl⟩
        obtain ⟨x0, hpo, hx0⟩ := hps
        refine ⟨m.N, ⟨nameOf m.at_, qualOf m.at_, _, _, _, [(("__class__" : Str), cc)], cda⟩, n10, n11, n14, oc, od, osl, cc, x0, c, fi, q2, h1, h2, rfl, h11, ?_, ⟨hcode, hcell, hcls, of_decide_eq_true v6, optB_ok v7, of_decide_eq_true v8, v9, hmg, ?_⟩, isGlob?_ok u2, ?_, ?_, ?_, t4, hq2, u3⟩
        · rw [ps_at hm]
          exact NdefX.nscope_by u1
        · have t := o.text
          simp only [Meta.text, Bool.and_eq_true] at t
          have t2 := Option.isNone_iff_eq_none.mp t.2
          show (List.lookup _ P.main.scope.names).isSome = false
          rw [t2]
          rfl
        · have hx0 : ((defArgs (findDef P.main.body m.at_)).args.map (·.arg))[0]? = some x0 := hx0
          show ((defArgs (findDef P.main.body m.at_)).posonlyargs ++ (defArgs (findDef P.main.body m.at_)).args).head?.map (·.arg) = some x0
          rw [hpo, List.nil_append]
          rw [List.getElem?_map, ← List.head?_eq_getElem?] at hx0
          exact hx0
        · rw [ps_at hm]
          exact hx0
        · rw [ps_at hm]
          exact t3
      | _ => cases v3
end
end Rs

/-! part RsH4 -/
set_option Elab.async false
set_option linter.all false
set_option maxRecDepth 100000
set_option maxHeartbeats 4000000
namespace Rs
open PySem L2 He
theorem strsLeft_ok : ∀ {us : List Value} {ds : List D}, strsLeft us ds = true → ∃ vs, Vals vs us ∧ ∀ (g : Gm) (G : Hp) (la : List Addr), RepL g G la ds vs
  | [], [], _ => ⟨[], .nil, fun _ _ _ => .nil⟩
  | .str s t :: us, .str z :: ds, h => by
    obtain ⟨h1, h2⟩ := Bool.and_eq_true_iff.mp (show (s == z && strsLeft us ds) = true from h)
    obtain ⟨vs, h3, h4⟩ := strsLeft_ok h2
    exact ⟨.str s :: vs, .cons ⟨t, rfl⟩ h3, fun g G la => .cons (by rw [beq_iff_eq.mp h1]; exact .str z) (h4 g G la)⟩
theorem tupLeft_ok {K : PySem.W.Frag} {a : Addr} {ds : List D} (h : tupLeft K a ds = true) : ∃ vs, (∀ G : Hp, SqT K G a vs) ∧ ∀ (g : Gm) (G : Hp) (la : List Addr), RepL g G la ds vs := by
  unfold tupLeft at h
  split at h
  · rename_i o ho
    obtain ⟨h1, h2⟩ := Bool.and_eq_true_iff.mp h
    split at h2
    · rename_i its n hd
      obtain ⟨h3, h4⟩ := Bool.and_eq_true_iff.mp h2
      obtain ⟨vs, h5, h6⟩ := strsLeft_ok h4
      refine ⟨vs, fun G => .inr ⟨o, its, n, ho, eq_of_beq h1, hd, ?_, h5⟩, h6⟩
      have := of_decide_eq_true h3
      rw [sizeLine_eq]
      omega
    · cases h2
  · cases h
section
variable {M : Meta} {P : Program} {w : World} {K : PySem.W.Frag} {mg : Str → Option Value} {base h : Heap}
theorem MOk.cls (o : MOk M P K) {c : Nat} {x : Str} {q : Cls} (hm : M.cls[c]? = some (x, q)) : clsLeft M K x q = true := by
  have l := o.left
  simp only [Meta.left, Bool.and_eq_true] at l
  exact List.all_eq_true.mp l.1.1.2 (x, q) (List.mem_of_getElem? hm)
theorem MOk.gl (o : MOk M P K) {x : Str} {g : Gn} (hm : M.gl.lookup x = some g) : glLeft M K x g = true := by
  have l := o.left
  simp only [Meta.left, Bool.and_eq_true] at l
  exact List.all_eq_true.mp l.1.2 (x, g) (lookup_mem hm)
theorem and9 {a b c d e f g h i : Bool} (z : (a && b && c && d && e && f && g && h && i) = true) : a = true ∧ b = true ∧ c = true ∧ d = true ∧ e = true ∧ f = true ∧ g = true ∧ h = true ∧ i = true := by
  simp only [Bool.and_eq_true] at z
  obtain ⟨⟨⟨⟨⟨⟨⟨⟨z1, z2⟩, z3⟩, z4⟩, z5⟩, z6⟩, z7⟩, z8⟩, z9⟩ := z
  exact ⟨z1, z2, z3, z4, z5, z6, z7, z8, z9⟩
theorem clsF_of (o : MOk M P K) {c : Nat} {q : Cls} (hq : (M.pgm P w K mg base).T[c]? = some q) : ClsF (M.pgm P w K mg base) c q := by
  obtain ⟨x, hx⟩ := cls_at hq
  have l := o.cls hx
  have hC : (M.pgm P w K mg base).C c = ga K x := C_at hx
  unfold clsLeft at l
  dsimp only at l
  obtain ⟨l1, l2, l3, l4, l5, l6, l7, l8, l9⟩ := and9 l
  have no : q.exf = none → q.exf.isSome = false := fun e => by rw [e]; rfl
  refine ⟨fun e => ?_, fun f hf => ?_, fun g f hf => ?_, fun e => ?_, fun c' hc' => ?_, fun t ht => ?_, fun t ht e => ?_, fun f hf e => ?_⟩
  · rw [no e, Bool.false_or] at l1
    simp only [Bool.and_eq_true] at l1
    obtain ⟨⟨⟨k1, k2⟩, k3⟩, k4⟩ := l1
    rw [hC]
    exact ⟨k1, k2, k3, optB_ok k4⟩
  · rw [hC]
    exact optB_ok (List.all_eq_true.mp l2 f (by simpa using hf))
  · have z := List.all_eq_true.mp l3 (g, f) (lookupN_mem hf)
    simp only [Bool.and_eq_true, decide_eq_true_eq] at z
    obtain ⟨⟨⟨k1, k2⟩, k3⟩, k4⟩ := z
    rw [hC]
    exact ⟨⟨optB_ok k1, k2, k3⟩, fn_is k4⟩
  · rw [no e, Bool.false_or] at l4
    simp only [Bool.and_eq_true] at l4
    obtain ⟨⟨⟨k1, k2⟩, k3⟩, k4⟩ := l4
    rw [hC]
    exact ⟨optB_ok k1, optB_ok k2, optN_ok k3, optN_ok k4⟩
  · rw [hC]
    exact optN_ok (rng_all l5 (T_len hc'))
  · rw [hC]
    exact optN_ok (List.all_eq_true.mp l6 t ht)
  · rw [no e, Bool.false_or] at l7
    rw [hC]
    exact optN_ok (List.all_eq_true.mp l7 t ht)
  · rw [no e, Bool.false_or, hf] at l8
    simp only [Bool.and_eq_true, decide_eq_true_eq] at l8
    obtain ⟨⟨⟨⟨k1, k2⟩, k3⟩, k4⟩, k5⟩ := l8
    rw [hC]
    exact ⟨⟨k1, optB_ok k2, k3, k4⟩, fn_is k5⟩
theorem eqF_of (o : MOk M P K) (er : M.EqRun) : EqF (M.pgm P w K mg base) := by
  refine ⟨fun c gp n f he => ?_, fun c c' h1 h2 e => ?_, er⟩
  · have he : ((M.pgm P w K mg base).T[c]?).bind Cls.eqg = some (gp, n, f) := he
    obtain ⟨q, hq, hf⟩ := Option.bind_eq_some_iff.mp he
    obtain ⟨x, hx⟩ := cls_at hq
    have l := o.cls hx
    have hC : (M.pgm P w K mg base).C c = ga K x := C_at hx
    unfold clsLeft at l
    dsimp only at l
    obtain ⟨_, _, _, _, _, _, _, _, l9⟩ := and9 l
    rw [hf] at l9
    simp only [Bool.and_eq_true] at l9
    obtain ⟨⟨⟨⟨k1, k2⟩, k3⟩, k4⟩, k5⟩ := l9
    cases hm : M.fns[f]? with
    | none =>
      rw [hm] at k5
      cases k5
    | some m =>
      rw [hm] at k5
      refine ⟨by rw [hC]; exact optB_ok k1, k2, ?_, fun c' hc' => by rw [hC]; exact rng_all k3 (T_len hc'), fun t ht => by rw [hC]; exact List.all_eq_true.mp k4 t ht, m.fn, ?_, beq_iff_eq.mp k5⟩
      · rw [ps_at hm]
        exact .all (bnd_of o hm)
      · show (M.fns.map (·.fn))[f]? = _
        rw [List.getElem?_map, hm]
        rfl
  · have l := o.left
    simp only [Meta.left, Bool.and_eq_true, decide_eq_true_eq] at l
    have nd := l.2
    have h1 := T_len h1
    have h2 := T_len h2
    have g1 : ((rng M.cls.length).map (M.C K))[c]? = some (M.C K c) := by
      rw [List.getElem?_map, show (rng M.cls.length)[c]? = some c by unfold rng; rw [List.getElem?_range h1]]
      rfl
    have g2 : ((rng M.cls.length).map (M.C K))[c']? = some (M.C K c') := by
      rw [List.getElem?_map, show (rng M.cls.length)[c']? = some c' by unfold rng; rw [List.getElem?_range h2]]
      rfl
    have e : M.C K c = M.C K c' := e
    rw [← e] at g2
    obtain ⟨u1, v1⟩ := List.getElem?_eq_some_iff.mp g1
    obtain ⟨u2, v2⟩ := List.getElem?_eq_some_iff.mp g2
    exact (List.getElem_inj nd).mp (v1.trans v2.symm)
theorem facts_ok (o : MOk M P K) (er : M.EqRun) (X : K.In h) (G : h.Ns mainGlobals mg) : Facts (M.pgm P w K mg base) M.gl := by
  refine ⟨o.nmi, eqF_of o er, fun x f hx => ?_, fun x c hx => ?_, fun x hx => ?_, fun x d hx => ?_, fun f q hf => ?_, fun c q hq => clsF_of o hq⟩
  · have l := o.gl hx
    simp only [glLeft, Bool.and_eq_true] at l
    obtain ⟨⟨l1, l2⟩, l3⟩ := l
    exact ⟨PySem.W.mg_of X G (optB_ok l2), l3⟩
  · have l := o.gl hx
    simp only [glLeft, Bool.and_eq_true] at l
    obtain ⟨⟨l1, l2⟩, l3⟩ := l
    cases hm : M.cls[c]? with
    | none =>
      rw [hm] at l1
      cases l1
    | some q =>
      rw [hm] at l1
      have hC : (M.pgm P w K mg base).C c = ga K x := by
        show M.C K c = _
        rw [C_at hm, beq_iff_eq.mp l1]
      rw [hC]
      refine ⟨PySem.W.mg_of X G (optB_ok l2), l3, ?_⟩
      show ((M.cls.map (·.2))[c]?).isSome = true
      rw [List.getElem?_map, hm]
      rfl
  · exact PySem.W.mg_none_of X G (optB_ok (o.gl hx))
  · have l := o.gl hx
    unfold glLeft at l
    dsimp only at l
    split at l
    · rename_i he
      rw [← beq_iff_eq.mp l]
      exact ⟨.int _, _, PySem.W.mg_of X G he, ⟨_, rfl⟩, fun _ _ => .int _⟩
    · rename_i he
      rw [← beq_iff_eq.mp l]
      exact ⟨.str _, _, PySem.W.mg_of X G he, ⟨_, rfl⟩, fun _ _ => .str _⟩
    · rename_i he
      obtain ⟨vs, h1, h2⟩ := tupLeft_ok l
      exact ⟨.ref _, _, PySem.W.mg_of X G he, rfl, fun G la => .tup (h1 G) (h2 _ G la)⟩
    · cases l
  · obtain ⟨m, hm, rfl⟩ := fn_at hf
    rw [ps_at hm]
    exact .all (bnd_of o hm)
/-- the law's function, at the end -/
theorem law_end {n k f : Nat} {m : FMeta} {x : Str} (o : MOk M P K) (er : M.EqRun) (X : K.In h) (G : h.Ns mainGlobals mg) (hm : M.fns[f]? = some m) (hx : parOf (findDef P.main.body m.at_) = [x]) (hsup : mg "super" = none)
    (pure_ : ∀ ns : List Int, ns.length ≤ n → ∃ mu, Rs.run (M.cls.map (·.2)) (M.fns.map (·.fn)) k f [.scr ns] [] = .ok (.bl true) mu) :
    ∃ (fd : FuncData) (sp : Sp), (∀ (s : Shared) (u : Value), BindsTo s fd ⟨[u], []⟩ [(x, u)]) ∧
        (∀ (H : Hp) (a : Addr) (ns : List Int), ns.length ≤ n → Only H → SqL K H a (ns.map V.int) → sp [.ref a] H (fun v _ => v = .bl true) fun _ _ _ => False) ∧
        ∀ base : Heap, K.In base → base.Ns mainGlobals mg → FnOk P w K mg base CX0 (lev k) (M.fa K f) fd [x] sp := by
  refine ⟨fdAt K (M.fa K f), fun vs H Q E => spF ⟨K, M.C K, nmF M.nms⟩ (Rs.run (M.cls.map (·.2)) (M.fns.map (·.fn)) k) f 1 vs H Q (fun _ _ _ => False), fun s u => ?_, fun H a ns hl hO hS => ?_, fun base hK hN => ?_⟩
  · have z := bnd_of o hm [u] (by rw [hx]; rfl)
    rw [hx] at z
    exact .of_eq z
  · obtain ⟨mu, hr⟩ := pure_ ns hl
    refine ⟨⟨H, H, [], []⟩, [.scr ns], rfl, ⟨fun _ _ z => z, rfl, List.nodup_nil, fun n a mo z => by simp at z, fun n a z => by simp at z, fun a z => by simp at z⟩, .cons (.scr hS) .nil, rfl, ?_⟩
    rw [show (Rs.run (M.cls.map (·.2)) (M.fns.map (·.fn)) k) f [.scr ns] (⟨H, H, [], []⟩ : Wd).mu = .ok (.bl true) mu from hr]
    intro w' em gr ok' v rv
    cases rv
    rfl
  · have fx : Facts (M.pgm P w K mg base) M.gl := facts_ok o er hK hN
    have T := tab_all fx (fun f q hf => fns_ok o hsup hf) k k (Nat.le_refl k)
    have FO := T f m.fn (by
      show (M.fns.map (·.fn))[f]? = _
      rw [List.getElem?_map, hm]
      rfl)
    have hps : (M.pgm P w K mg base).ps f = [x] := by rw [ps_at hm, hx]
    have har : m.fn.ar = 1 := by
      obtain ⟨t, _, _⟩ := o.fns hm
      simp only [FMeta.text, Bool.and_eq_true] at t
      rw [beq_iff_eq.mp t.1.1.2, hx]
      rfl
    rw [hps, har] at FO
    refine ⟨fun vs H Q E z => FO.len vs H Q _ z, fun A outer s H args us vs Q E hr e0 hb r z => codeAny_mono (FO.run A outer s H args us vs Q (fun _ _ _ => False) hr e0 hb r z) fun rs s' hq => ?_⟩
    cases rs with
    | ok fl => cases fl <;> exact hq
    | error e =>
      have hq : L2.CX P w outer H s (fun _ _ _ => False) e s' := hq
      obtain ⟨_, _, _, _, _, _, _, _, _, _, _, _, z⟩ := hq
      exact z.elim
end
end Rs

/-! part RsP1 -/
set_option Elab.async false
set_option linter.all false
set_option maxRecDepth 100000
set_option maxHeartbeats 4000000
/-! The pure language, by what holds behind. -/
namespace Rs
open PySem L2
def W {α : Type} (r : R α) (Q : α → Mu → Prop) : Prop := match r with
  | .ok a m => Q a m
  | _ => False
theorem W_ok {α : Type} {a : α} {m : Mu} {Q : α → Mu → Prop} : W (.ok a m) Q = Q a m := rfl
theorem W_bad {α : Type} {Q : α → Mu → Prop} : W (.bad : R α) Q = False := rfl
theorem W_bind {α β : Type} {r : R α} {f : α → Mu → R β} {Q : β → Mu → Prop} : W (r.bind f) Q = W r (fun a m => W (f a m) Q) := by cases r <;> rfl
theorem W_mono {α : Type} {r : R α} {P Q : α → Mu → Prop} (h : W r P) (f : ∀ a m, P a m → Q a m) : W r Q := by
  cases r with
  | ok a m => exact f a m h
  | _ => exact h
theorem W_opt {α : Type} {o : Option α} {m : Mu} {Q : α → Mu → Prop} : W (R.opt o m) Q = (match o with
  | some a => Q a m
  | none => False) := by cases o <;> rfl
theorem W_of {α : Type} {r : R α} {a : α} {m : Mu} {Q : α → Mu → Prop} (h : r = .ok a m) (q : Q a m) : W r Q := by rw [h]; exact q
theorem W_out {α : Type} {r : R α} {Q : α → Mu → Prop} (h : W r Q) : ∃ a m, r = .ok a m ∧ Q a m := by
  cases r with
  | ok a m => exact ⟨a, m, rfl, h⟩
  | _ => exact h.elim
/-- a function's end -/
def fin (r : R Fl) : R D := r.bind fun fl m => (match fl with
      | .nx _ => .ok .non m
      | .rt d => .ok d m
      | _ => .bad)
theorem fin_rt {d : D} {m : Mu} : fin (.ok (.rt d) m) = .ok d m := rfl
theorem fin_nx {r : Ev} {m : Mu} : fin (.ok (.nx r) m) = .ok .non m := rfl
theorem W_fin {r : R Fl} {Q : D → Mu → Prop} : W (fin r) Q = W r (fun fl m => match fl with
      | .nx _ => Q .non m
      | .rt d => Q d m
      | _ => False) := by
  unfold fin
  rw [W_bind]
  congr 1
  funext fl m
  cases fl <;> rfl
section
variable {T : Tab} {k : Nat} {F : Nat → List D → Mu → R D} {r : Ev} {m : Mu}
theorem E_var {i : Nat} : E T k F (.var i) r m = (match r[i]? with
    | some (some d) => .ok d m
    | _ => .bad) := rfl
theorem E_cst {d : D} : E T k F (.cst d) r m = .ok d m := rfl
theorem E_bin {op : Operator} {a b : IE} : E T k F (.bin op a b) r m = (E T k F a r m).bind fun x m => (E T k F b r m).bind fun y m => .opt (binD op (look m x) (look m y)) m := rfl
theorem E_neg {a : IE} : E T k F (.neg a) r m = (E T k F a r m).bind fun x m => (match x with
    | .int i => .ok (.int (-i)) m
    | _ => .bad) := rfl
theorem E_cmp {op : CmpOp} {a b : IE} : E T k F (.cmp op a b) r m = (E T k F a r m).bind fun x m => (E T k F b r m).bind fun y m => .opt ((cmpD T k op m x y).map .bl) m := rfl
theorem E_chn {op op2 : CmpOp} {a b c : IE} : E T k F (.chn op op2 a b c) r m = (E T k F a r m).bind fun x m => (E T k F b r m).bind fun y m => (match cmpD T k op m x y with
    | some true => (E T k F c r m).bind fun z m => .opt ((cmpD T k op2 m y z).map .bl) m
    | some false => .ok (.bl false) m
    | none => .bad) := rfl
theorem E_isn {a : IE} {pos : Bool} : E T k F (.isn a pos) r m = (E T k F a r m).bind fun x m => .ok (.bl (match x with
    | .non => pos
    | _ => !pos)) m := rfl
theorem E_and {a b : IE} : E T k F (.and a b) r m = (E T k F a r m).bind fun x m => (match x with
    | .bl true => (E T k F b r m).bind fun y m => (match y with
      | .bl c => .ok (.bl c) m
      | _ => .bad)
    | .bl false => .ok (.bl false) m
    | _ => .bad) := rfl
theorem E_or {a b : IE} : E T k F (.or a b) r m = (E T k F a r m).bind fun x m => (match x with
    | .bl false => (E T k F b r m).bind fun y m => (match y with
      | .bl c => .ok (.bl c) m
      | _ => .bad)
    | .bl true => .ok (.bl true) m
    | _ => .bad) := rfl
theorem E_not {a : IE} : E T k F (.not a) r m = (E T k F a r m).bind fun x m => (match x with
    | .bl b => .ok (.bl (!b)) m
    | _ => .bad) := rfl
theorem E_tru {a : IE} : E T k F (.tru a) r m = (E T k F a r m).bind fun x m => .opt ((truD (look m x)).map .bl) m := rfl
theorem E_ife {c a b : IE} : E T k F (.ife c a b) r m = (E T k F c r m).bind fun x m => (match x with
    | .bl true => E T k F a r m
    | .bl false => E T k F b r m
    | _ => .bad) := rfl
theorem E_att {a : IE} {f : Nat} : E T k F (.att a f) r m = (E T k F a r m).bind fun x m => .opt (attD T m x f) m := rfl
theorem E_idx {a b : IE} : E T k F (.idx a b) r m = (E T k F a r m).bind fun x m => (E T k F b r m).bind fun y m => .opt (idxD (look m x) y) m := rfl
theorem E_slc {a : IE} {lo hi : IO} : E T k F (.slc a lo hi) r m = (E T k F a r m).bind fun x m => (Eo T k F lo r m).bind fun l m => (Eo T k F hi r m).bind fun h m => .opt (slcD (look m x) l h) m := rfl
theorem E_tup {es : IEs} : E T k F (.tup es) r m = (Es T k F es r m).bind fun ds m => if ds.length ≤ line then .ok (.tup ds) m else .bad := rfl
theorem E_fz {f : IF} : E T k F (.fz f) r m = (EF T k F f r m).bind fun mo m => layZ mo m := rfl
theorem E_mk {f : IF} : E T k F (.mk f) r m = (EF T k F f r m).bind fun mo m => layM mo m := rfl
theorem E_call {f : Nat} {as : IEs} : E T k F (.call f as) r m = (Es T k F as r m).bind fun ds m => F f ds m := rfl
theorem E_new {c : Nat} {as : IEs} : E T k F (.new c as) r m = (Es T k F as r m).bind fun ds m => newD T F c ds m := rfl
theorem E_met {a : IE} {g : Nat} {as : IEs} : E T k F (.met a g as) r m = (E T k F a r m).bind fun x m => (match metD T m x g with
    | some f => (Es T k F as r m).bind fun ds m => F f (x :: ds) m
    | none => .bad) := rfl
theorem E_blt {b : Bl} {as : IEs} : E T k F (.blt b as) r m = (Es T k F as r m).bind fun ds m => .opt (bltD b (ds.map (look m))) m := rfl
theorem E_bmt {b : Bm} {a : IE} {as : IEs} : E T k F (.bmt b a as) r m = (E T k F a r m).bind fun x m => if bmTy b (look m x) then (Es T k F as r m).bind fun ds m => .opt (bmD b (look m x) (ds.map (look m))) m else .bad := rfl
theorem E_len {a : IE} {g : Nat} : E T k F (.len a g) r m = (E T k F a r m).bind fun x m => (match metD T m x g with
    | some f => (match F f [x] m with
      | .ok (.int n) m1 => lenG n m1
      | .exc c fs m => .exc c fs m
      | _ => .bad)
    | none => .opt ((lenD (look m x)).map fun (n : Nat) => D.int (n : Int)) m) := rfl
theorem E_str {a : IE} {g : Nat} : E T k F (.str a g) r m = (E T k F a r m).bind fun x m => (match metD T m x g with
    | some f => (match F f [x] m with
      | .ok (.str s) m1 => .ok (.str s) m1
      | .exc c fs m => .exc c fs m
      | _ => .bad)
    | none => .opt ((strD x).map .str) m) := rfl
theorem E_isi {a : IE} {c : Ct} : E T k F (.isi a c) r m = (E T k F a r m).bind fun x m => .opt ((isiD T (look m x) c).map .bl) m := rfl
theorem E_frz {a : IE} : E T k F (.frz a) r m = (E T k F a r m).bind fun x m => frzD x m := rfl
theorem E_fst {es : IEs} : E T k F (.fst es) r m = (Ej T k F es Str.empty r m).bind fun z m => .ok (.str z) m := rfl
theorem E_fmt {a : IE} : E T k F (.fmt a) r m = (E T k F a r m).bind fun x m => .opt ((strD x).map .str) m := rfl
theorem E_sln {a : IE} : E T k F (.sln a) r m = (E T k F a r m).bind fun x m => .opt ((slnD (look m x)).map fun (n : Nat) => D.int (n : Int)) m := rfl
theorem E_sdj {a b : IE} : E T k F (.sdj a b) r m = (E T k F a r m).bind fun x m => (match ksD (look m x) with
    | some ks => (E T k F b r m).bind fun y m => (match ksD (look m y) with
      | some ls => .ok (.bl (ks.all fun k => !hasK k ls)) m
      | none => .bad)
    | none => .bad) := rfl
theorem Eo_no : Eo T k F .no r m = .ok none m := rfl
theorem Eo_yes {e : IE} : Eo T k F (.yes e) r m = (E T k F e r m).bind fun x m => (match x with
    | .int i => .ok (some i) m
    | _ => .bad) := rfl
theorem Eb_no : Eb T k F .no r m = .ok true m := rfl
theorem Eb_yes {e : IE} : Eb T k F (.yes e) r m = (E T k F e r m).bind fun d m => (match d with
    | .bl b => .ok b m
    | _ => .bad) := rfl
theorem Es_nil : Es T k F .nil r m = .ok [] m := rfl
theorem Es_cons {e : IE} {es : IEs} : Es T k F (.cons e es) r m = (E T k F e r m).bind fun d m => (Es T k F es r m).bind fun ds m => .ok (d :: ds) m := rfl
theorem Ej_nil {acc : Str} : Ej T k F .nil acc r m = .ok acc m := rfl
theorem Ej_cons {e : IE} {es : IEs} {acc : Str} : Ej T k F (.cons e es) acc r m = (E T k F e r m).bind fun d m => (match d with
    | .str y => if (acc ++ y).length ≤ line then Ej T k F es (acc ++ y) r m else .bad
    | _ => .bad) := rfl
theorem EF_lst {es : IEs} : EF T k F (.lst es) r m = (Es T k F es r m).bind fun ds m => if ds.length ≤ line then .ok (.lst ds) m else .bad := rfl
theorem EF_cmp {elt : IE} {t : IT} {s : II} {c : IO} {own : List Nat} : EF T k F (.cmp elt t s c own) r m = (EI T k F s r m).bind fun sc m => (turnsC (fun x m => match bindT t x (wipeE r own) with
    | some r1 => (Eb T k F c r1 m).bind fun b m => (match b with
      | true => (E T k F elt r1 m).bind fun d m => .ok (some d) m
      | false => .ok none m)
    | none => .bad) sc sc.len 0 m).bind fun ds m => if ds.length ≤ line then .ok (.lst ds) m else .bad := rfl
theorem EF_lof {a : IE} : EF T k F (.lof a) r m = (E T k F a r m).bind fun x m => (match look m x with
    | .lst xs => .ok (.lst xs) m
    | .tup xs => .ok (.lst xs) m
    | _ => .bad) := rfl
theorem EF_lsx {es : IEs} {a : IE} : EF T k F (.lsx es a) r m = ((Es T k F es r m).bind fun ds m => (E T k F a r m).bind fun x m => starR x ds m).bind fun ds m => if ds.length ≤ line then .ok (.lst ds) m else .bad := rfl
theorem EF_dtp {a : IE} : EF T k F (.dtp a) r m = (E T k F a r m).bind fun x m => (match look m x with
    | .lst xs => (match pairsD xs with
      | some kvs => .ok (.dct (mergeD [] kvs)) m
      | none => .bad)
    | _ => .bad) := rfl
theorem EF_srt {a : IE} : EF T k F (.srt a) r m = (E T k F a r m).bind fun x m => .opt ((srtD (look m x)).map .lst) m := rfl
theorem EF_sst {a : IE} : EF T k F (.sst a) r m = (E T k F a r m).bind fun x m => .opt ((sstD (look m x)).map .lst) m := rfl
theorem EF_dcm {kk vv : IE} {t : IT} {s : II} {own : List Nat} : EF T k F (.dcm kk vv t s own) r m = (EI T k F s r m).bind fun sc m => (turnsC (fun x m => match bindT t x (wipeE r own) with
    | some r1 => (E T k F kk r1 m).bind fun x m => (E T k F vv r1 m).bind fun y m => .ok (some (.tup [x, y])) m
    | none => .bad) sc sc.len 0 m).bind fun ds m => if ds.length ≤ line then (match pairsD ds with
      | some kvs => .ok (.dct (mergeD [] kvs)) m
      | none => .bad) else .bad := rfl
theorem EF_dct {ks : List Key} {vs : IEs} : EF T k F (.dct ks vs) r m = (Es T k F vs r m).bind fun vd m => if ks.length = vd.length ∧ ks.length ≤ 15 then .ok (.dct (mergeD [] (ks.zip vd))) m else .bad := rfl
theorem EI_seq {a : IE} : EI T k F (.seq a) r m = (E T k F a r m).bind fun x m => (match x with
    | .loc n => (match m[n]? with
      | some (.lst ds) => .ok (.plc n ds.length) m
      | _ => .bad)
    | x => .opt ((itemsD x).map .its) m) := rfl
theorem EI_rng {a : IE} : EI T k F (.rng a) r m = (E T k F a r m).bind fun x m => (match x with
    | .int j => .opt ((rangeD 0 j).map .its) m
    | _ => .bad) := rfl
theorem EI_rng2 {a b : IE} : EI T k F (.rng2 a b) r m = (E T k F a r m).bind fun x m => (E T k F b r m).bind fun y m => (match x, y with
    | .int i, .int j => .opt ((rangeD i j).map .its) m
    | _, _ => .bad) := rfl
theorem EI_enm {a : IE} : EI T k F (.enm a) r m = (E T k F a r m).bind fun x m => (match x with
    | .lst xs => .ok (.its (enmL xs)) m
    | _ => .bad) := rfl
theorem S_pr3 {i j l : Nat} {a b c : IE} : S T k F (.pr3 i j l a b c) r m = (E T k F a r m).bind fun x m => (E T k F b r m).bind fun y m => (E T k F c r m).bind fun z m => if i < r.length ∧ j < r.length ∧ l < r.length then .ok (.nx (((r.set i (some x)).set j (some y)).set l (some z))) m else .bad := rfl
theorem S_asg {t : IT} {e : IE} : S T k F (.asg t e) r m = (E T k F e r m).bind fun d m => .opt ((bindT t d r).map .nx) m := rfl
theorem S_par {i j : Nat} {a b : IE} : S T k F (.par i j a b) r m = (E T k F a r m).bind fun x m => (E T k F b r m).bind fun y m => if i < r.length ∧ j < r.length then .ok (.nx ((r.set i (some x)).set j (some y))) m else .bad := rfl
theorem S_sta {o e : IE} {f : Nat} : S T k F (.sta o f e) r m = (E T k F e r m).bind fun d m => (E T k F o r m).bind fun x m => (match staD T x f d m with
    | some m => .ok (.nx r) m
    | none => .bad) := rfl
theorem S_sti {o i e : IE} : S T k F (.sti o i e) r m = (E T k F e r m).bind fun d m => (E T k F o r m).bind fun x m => (E T k F i r m).bind fun y m => (match stiD x y d m with
    | some m => .ok (.nx r) m
    | none => .bad) := rfl
theorem S_aug {i : Nat} {op : Operator} {e : IE} : S T k F (.aug i op e) r m = (match r[i]? with
    | some (some x) => (E T k F e r m).bind fun y m => .opt ((augD op x y).map fun d => .nx (r.set i (some d))) m
    | _ => .bad) := rfl
theorem S_exp {e : IE} : S T k F (.exp e) r m = (E T k F e r m).bind fun _ m => .ok (.nx r) m := rfl
theorem S_mut {mm : Mm} {o a : IE} : S T k F (.mut mm o a) r m = (E T k F o r m).bind fun x m => if lstAt m x then (E T k F a r m).bind fun y m => (match mutD mm x y m with
    | some m => .ok (.nx r) m
    | none => .bad) else .bad := rfl
theorem S_ret {e : IE} : S T k F (.ret e) r m = (E T k F e r m).bind fun d m => .ok (.rt d) m := rfl
theorem S_ifs {c : IE} {a b : ISs} : S T k F (.ifs c a b) r m = (E T k F c r m).bind fun x m => (match x with
    | .bl true => Ss T k F a r m
    | .bl false => Ss T k F b r m
    | _ => .bad) := rfl
theorem S_for {t : IT} {s : II} {b : ISs} : S T k F (.for_ t s b) r m = (EI T k F s r m).bind fun sc m => turnsS (fun x r m => match bindT t x r with
    | some r1 => Ss T k F b r1 m
    | none => .bad) sc sc.len 0 r m := rfl
theorem S_sup {c f : Nat} {as : IEs} : S T k F (.sup c f as) r m = (match r[0]? with
    | some (some x) => if clsOf m x = some c then (Es T k F as r m).bind fun ds m => (F f (x :: ds) m).bind fun _ m => .ok (.nx r) m else .bad
    | _ => .bad) := rfl
theorem S_pas : S T k F .pas r m = .ok (.nx r) m := rfl
theorem S_con : S T k F .con r m = .ok (.ct r) m := rfl
theorem S_brk : S T k F .brk r m = .ok (.bk r) m := rfl
theorem Ss_nil : Ss T k F .nil r m = .ok (.nx r) m := rfl
theorem Ss_cons {s : IS} {ss : ISs} : Ss T k F (.cons s ss) r m = (S T k F s r m).bind fun fl m => (match fl with
    | .nx r => Ss T k F ss r m
    | fl => .ok fl m) := rfl
end
theorem bindT_nm {i : Nat} {d : D} {r : Ev} : bindT (.nm i) d r = if i < r.length then some (r.set i (some d)) else none := rfl
theorem bindT_tp {ts : ITs} {xs : List D} {r : Ev} : bindT (.tp ts) (.tup xs) r = bindTs ts xs r := rfl
theorem bindTs_nil {r : Ev} : bindTs .nil [] r = some r := rfl
theorem bindTs_cons {t : IT} {ts : ITs} {x : D} {xs : List D} {r : Ev} : bindTs (.cons t ts) (x :: xs) r = (bindT t x r).bind (bindTs ts xs) := rfl
theorem layZ_lst {ds : List D} {m : Mu} : layZ (.lst ds) m = .ok (.lst ds) m := rfl
theorem layZ_dct {ds : List (Key × D)} {m : Mu} : layZ (.dct ds) m = .ok (.dct ds) m := rfl
theorem layM_eq {mo : MO} {m : Mu} : layM mo m = .ok (.loc m.length) (m ++ [mo]) := rfl
theorem look_int {m : Mu} {i : Int} : look m (.int i) = .int i := rfl
theorem look_bl {m : Mu} {i : Bool} : look m (.bl i) = .bl i := rfl
theorem look_str {m : Mu} {i : Str} : look m (.str i) = .str i := rfl
theorem look_non {m : Mu} : look m .non = .non := rfl
theorem look_tup {m : Mu} {i : List D} : look m (.tup i) = .tup i := rfl
theorem look_lst {m : Mu} {i : List D} : look m (.lst i) = .lst i := rfl
theorem look_scr {m : Mu} {i : List Int} : look m (.scr i) = .scr i := rfl
theorem look_dct {m : Mu} {i : List (Key × D)} : look m (.dct i) = .dct i := rfl
theorem look_ins {m : Mu} {c : Nat} {i : List (Nat × D)} : look m (.ins c i) = .ins c i := rfl
theorem look_loc {m : Mu} {n : Nat} : look m (.loc n) = seen m[n]? n := rfl
theorem seen_lst {n : Nat} {ds : List D} : seen (some (.lst ds)) n = .lst ds := rfl
theorem seen_dct {n : Nat} {ds : List (Key × D)} : seen (some (.dct ds)) n = .dct ds := rfl
theorem seen_ins {n c : Nat} {ds : List (Nat × D)} : seen (some (.ins c ds)) n = .ins c ds := rfl
/-! ### turns -/
theorem turnsC_its {f : D → Mu → R (Option D)} {ds : List D} (I : Nat → List D → Mu → Prop) {Q : List D → Mu → Prop} :
    ∀ (t i : Nat) (acc : List D) (m : Mu), i + t = ds.length → I i acc m → (∀ (i : Nat) (x : D) (acc : List D) (m : Mu), ds[i]? = some x → I i acc m → W (f x m) (fun o m' => I (i + 1) (acc ++ o.toList) m')) →
      (∀ out m, I ds.length out m → Q out m) → W (turnsC f (.its ds) t i m) (fun out m => Q (acc ++ out) m)
  | 0, i, acc, m, h, h0, _, hq => by
    have e : turnsC f (.its ds) 0 i m = .ok [] m := rfl
    rw [e]
    have hi : i = ds.length := by omega
    subst hi
    show Q (acc ++ []) m
    rw [List.append_nil]
    exact hq _ _ h0
  | t + 1, i, acc, m, h, h0, step, hq => by
    have hi : i < ds.length := by omega
    have hx : ds[i]? = some ds[i] := List.getElem?_eq_getElem hi
    have e : turnsC f (.its ds) (t + 1) i m = (match f ds[i] m with
      | .ok o m1 => (match turnsC f (.its ds) t (i + 1) m1 with
        | .ok ds m2 => .ok (match o with
          | some d => d :: ds
          | none => ds) m2
        | _ => .bad)
      | _ => .bad) := by
      show (match (some ds).bind (fun ds => ds[i]?) with
        | some x => _
        | none => R.bad) = _
      rw [show (some ds).bind (fun ds => ds[i]?) = some ds[i] from hx]
      try rfl
    rw [e]
    obtain ⟨o, m1, e1, h1⟩ := W_out (step i ds[i] acc m hx h0)
    rw [e1]
    dsimp only
    have ih := turnsC_its I t (i + 1) (acc ++ o.toList) m1 (by omega) h1 step hq
    obtain ⟨out, m2, e2, h2⟩ := W_out ih
    rw [e2]
    cases o with
    | none =>
      show Q (acc ++ out) m2
      simpa using h2
    | some d =>
      show Q (acc ++ (d :: out)) m2
      simpa using h2
/-- a comprehension over items -/
theorem W_its {f : D → Mu → R (Option D)} {ds : List D} {m : Mu} {Q : List D → Mu → Prop} (I : Nat → List D → Mu → Prop) (h0 : I 0 [] m)
    (step : ∀ (i : Nat) (x : D) (acc : List D) (m : Mu), ds[i]? = some x → I i acc m → W (f x m) (fun o m' => I (i + 1) (acc ++ o.toList) m')) (hq : ∀ out m, I ds.length out m → Q out m) : W (turnsC f (.its ds) ds.length 0 m) Q := by
  have z := turnsC_its (Q := Q) I ds.length 0 [] m (by omega) h0 step hq
  exact z
/-- .. that changes the store in no way that matters, each item by a function -/
theorem W_map {f : D → Mu → R (Option D)} {ds : List D} {m : Mu} {Q : List D → Mu → Prop} (g : D → Option D) (J : Mu → Prop) (h0 : J m)
    (step : ∀ (x : D) (m : Mu), x ∈ ds → J m → W (f x m) (fun o m' => o = g x ∧ J m')) (hq : ∀ m, J m → Q (ds.filterMap g) m) : W (turnsC f (.its ds) ds.length 0 m) Q := by
  refine W_its (fun i acc m => acc = (ds.take i).filterMap g ∧ J m) ⟨rfl, h0⟩ (fun i x acc m hx ⟨e, hj⟩ => ?_) (fun out m ⟨e, hj⟩ => ?_)
  · refine W_mono (step x m (List.mem_of_getElem? hx) hj) fun o m' ⟨e2, hj'⟩ => ⟨?_, hj'⟩
    subst e e2
    obtain ⟨hi, e3⟩ := List.getElem?_eq_some_iff.mp hx
    rw [List.take_succ, hx, List.filterMap_append]
    congr 1
  · subst e
    rw [List.take_length]
    exact hq m hj
theorem turnsS_its {f : D → Ev → Mu → R Fl} {ds : List D} (I : Nat → Ev → Mu → Prop) {Q : Fl → Mu → Prop} :
    ∀ (t i : Nat) (r : Ev) (m : Mu), i + t = ds.length → I i r m → (∀ (i : Nat) (x : D) (r : Ev) (m : Mu), ds[i]? = some x → I i r m → W (f x r m) (fun fl m' => match fl with
      | .nx r' => I (i + 1) r' m'
      | .ct r' => I (i + 1) r' m'
      | .bk r' => Q (.nx r') m'
      | .rt d => Q (.rt d) m')) →
      (∀ r m, I ds.length r m → Q (.nx r) m) → W (turnsS f (.its ds) t i r m) Q
  | 0, i, r, m, h, h0, _, hq => by
    have hi : i = ds.length := by omega
    subst hi
    exact hq _ _ h0
  | t + 1, i, r, m, h, h0, step, hq => by
    have hi : i < ds.length := by omega
    have hx : ds[i]? = some ds[i] := List.getElem?_eq_getElem hi
    have e : turnsS f (.its ds) (t + 1) i r m = (f ds[i] r m).bind fun fl m => (match fl with
      | .nx r => turnsS f (.its ds) t (i + 1) r m
      | .ct r => turnsS f (.its ds) t (i + 1) r m
      | .bk r => .ok (.nx r) m
      | .rt d => .ok (.rt d) m) := by
      show (match (some ds).bind (fun ds => ds[i]?) with
        | some x => _
        | none => R.bad) = _
      rw [show (some ds).bind (fun ds => ds[i]?) = some ds[i] from hx]
      try rfl
    rw [e, W_bind]
    refine W_mono (step i ds[i] r m hx h0) fun fl m1 h1 => ?_
    cases fl with
    | nx r' => exact turnsS_its I t (i + 1) r' m1 (by omega) h1 step hq
    | ct r' => exact turnsS_its I t (i + 1) r' m1 (by omega) h1 step hq
    | bk r' => exact h1
    | rt d => exact h1
theorem W_for {f : D → Ev → Mu → R Fl} {ds : List D} {r : Ev} {m : Mu} {Q : Fl → Mu → Prop} (I : Nat → Ev → Mu → Prop) (h0 : I 0 r m)
    (step : ∀ (i : Nat) (x : D) (r : Ev) (m : Mu), ds[i]? = some x → I i r m → W (f x r m) (fun fl m' => match fl with
      | .nx r' => I (i + 1) r' m'
      | .ct r' => I (i + 1) r' m'
      | .bk r' => Q (.nx r') m'
      | .rt d => Q (.rt d) m')) (hq : ∀ r m, I ds.length r m → Q (.nx r) m) : W (turnsS f (.its ds) ds.length 0 r m) Q := turnsS_its I ds.length 0 r m (by omega) h0 step hq
theorem Sc_len {ds : List D} : Sc.len (.its ds) = ds.length := rfl
theorem range_at {lo : Int} {n i : Nat} {x : D} (h : ((List.range n).map fun (i : Nat) => D.int (lo + (i : Int)))[i]? = some x) : i < n ∧ x = .int (lo + i) := by
  rw [List.getElem?_map] at h
  obtain ⟨j, hj, rfl⟩ := Option.map_eq_some_iff.mp h
  obtain ⟨h1, h2⟩ := List.getElem?_eq_some_iff.mp hj
  rw [List.getElem_range] at h2
  subst h2
  exact ⟨by rw [List.length_range] at h1; exact h1, rfl⟩
theorem rangeD_eq {lo hi : Int} (h : -(2 ^ 62) ≤ lo ∧ lo < 2 ^ 62 ∧ -(2 ^ 62) ≤ hi ∧ hi < 2 ^ 62) : rangeD lo hi = some ((List.range (hi - lo).toNat).map fun (i : Nat) => D.int (lo + (i : Int))) := by unfold rangeD; rw [big_val]; exact if_pos h
/-! ### the store grows -/
def Ex (m m' : Mu) : Prop := ∃ x, m' = m ++ x
theorem Ex.rfl' {m : Mu} : Ex m m := ⟨[], by simp⟩
theorem Ex.trans {a b c : Mu} (h : Ex a b) (g : Ex b c) : Ex a c := by
  obtain ⟨x, rfl⟩ := h
  obtain ⟨y, rfl⟩ := g
  exact ⟨x ++ y, by simp⟩
theorem Ex.app {m x : Mu} : Ex m (m ++ x) := ⟨x, rfl⟩
theorem Ex.get {m m' : Mu} (h : Ex m m') {n : Nat} {o : MO} (e : m[n]? = some o) : m'[n]? = some o := by
  obtain ⟨x, rfl⟩ := h
  rw [List.getElem?_append_left (List.getElem?_eq_some_iff.mp e).1]
  exact e
theorem set_last {m : Mu} {x y : MO} : (m ++ [x]).set m.length y = m ++ [y] := by simp
theorem get_last {m : Mu} {x : MO} : (m ++ [x])[m.length]? = some x := by simp
end Rs

/-! part RsP2 -/
set_option Elab.async false
set_option linter.all false
set_option maxRecDepth 100000
set_option maxHeartbeats 4000000
namespace Rs
open PySem L2
section
variable {T : Tab} {k : Nat} {m : Mu} {i j : Int}
theorem bin_add : binD .Add (.int i) (.int j) = some (.int (i + j)) := rfl
theorem bin_sub : binD .Sub (.int i) (.int j) = some (.int (i - j)) := rfl
theorem lg {n : Int} {B : Nat} (h : n.natAbs < 2 ^ B) : n.natAbs.log2 ≤ B := by
  by_cases h0 : n.natAbs = 0
  · rw [h0]; simp
  · have := (Nat.log2_lt (n := n.natAbs) (k := B) h0).mpr h
    omega
theorem bin_mul (a b : Nat) (h : i.natAbs < 2 ^ a) (h' : j.natAbs < 2 ^ b) (hs : a + b < 1000000) : binD .Mult (.int i) (.int j) = some (.int (i * j)) := by
  have h1 := lg h
  have h2 := lg h'
  exact if_pos (by omega)
theorem bin_div (b : Nat) (h : 0 < j) (h' : j.natAbs < 2 ^ b) (hs : b < 9000) : binD .FloorDiv (.int i) (.int j) = some (.int (i / j)) := by
  have h2 := lg h'
  exact if_pos ⟨h, by omega⟩
theorem bin_mod (h : 0 < j) : binD .Mod (.int i) (.int j) = some (.int (i % j)) := if_pos h
theorem bin_pow (h : 0 ≤ j ∧ j ≤ 1000000 ∧ i.natAbs < 2 ^ 64) : binD .Pow (.int i) (.int j) = some (.int (i ^ j.toNat)) := if_pos h
theorem bin_str {s t : Str} (h : s.length + t.length ≤ line) : binD .Add (.str s) (.str t) = some (.str (s ++ t)) := if_pos h
theorem bin_lst {s t : List D} (h : s.length + t.length ≤ line) : binD .Add (.lst s) (.lst t) = some (.lst (s ++ t)) := if_pos h
theorem cmp_lt : cmpD T k .Lt m (.int i) (.int j) = some (decide (i < j)) := rfl
theorem cmp_le : cmpD T k .LtE m (.int i) (.int j) = some (decide (i ≤ j)) := rfl
theorem cmp_gt : cmpD T k .Gt m (.int i) (.int j) = some (decide (j < i)) := rfl
theorem cmp_ge : cmpD T k .GtE m (.int i) (.int j) = some (decide (j ≤ i)) := rfl
theorem cmp_eq {x y : D} : cmpD T k .Eq m x y = eqO T k m x y := rfl
theorem cmp_ne {x y : D} : cmpD T k .NotEq m x y = neO T k (look m x) (look m y) := rfl
theorem cmp_in {x y : D} : cmpD T k .In m x y = inD T k (look m x) (look m y) := rfl
theorem cmp_nin {x y : D} : cmpD T k .NotIn m x y = (inD T k (look m x) (look m y)).map not := rfl
theorem blt_int : bltD .int [.int i] = some (.int i) := rfl
theorem blt_max2 : bltD .max2 [.int i, .int j] = some (.int (if j > i then j else i)) := rfl
theorem blt_min2 : bltD .min2 [.int i, .int j] = some (.int (if j < i then j else i)) := rfl
theorem blt_tupl {xs : List D} : bltD .tuple [.lst xs] = some (.tup xs) := rfl
theorem blt_tupt {xs : List D} : bltD .tuple [.tup xs] = some (.tup xs) := rfl
theorem met_no {d : D} {f : Nat} (h : ∀ c fs, look m d ≠ .ins c fs) : metD T m d f = none := by
  unfold metD
  split
  · rename_i e; exact absurd e (h _ _)
  · rfl
theorem met_lst {xs : List D} {f : Nat} : metD T m (.lst xs) f = none := rfl
theorem met_tup {xs : List D} {f : Nat} : metD T m (.tup xs) f = none := rfl
theorem met_scr {xs : List Int} {f : Nat} : metD T m (.scr xs) f = none := rfl
theorem met_str {xs : Str} {f : Nat} : metD T m (.str xs) f = none := rfl
theorem met_int {f : Nat} : metD T m (.int i) f = none := rfl
theorem len_lst {xs : List D} : lenD (.lst xs) = some xs.length := rfl
theorem len_tup {xs : List D} : lenD (.tup xs) = some xs.length := rfl
theorem len_scr {xs : List Int} : lenD (.scr xs) = some xs.length := rfl
theorem len_str {s : Str} (h : s.length ≤ line) : lenD (.str s) = some s.length := if_pos h
/-! depth, plainness of lists of ints -/
theorem depL_ints : ∀ cs : List Int, depL (cs.map .int) = some 0
  | [] => rfl
  | c :: cs => by
    rw [List.map_cons]
    simp only [depL, dep, depL_ints cs, Nat.max_self]
theorem plainL_ints : ∀ cs : List Int, plainL (cs.map .int) = true
  | [] => rfl
  | c :: cs => by
    rw [List.map_cons]
    simp only [plainL, plainD, plainL_ints cs, Bool.and_self]
theorem ne_ints (cs : List Int) : neO T (k + 1) (.lst (cs.map .int)) (.lst []) = some (!cs.isEmpty) := by
  unfold neO room
  have h1 : dep (.lst (cs.map .int)) = some 1 := by simp only [dep, depL_ints, Option.map_some]
  have h2 : dep (.lst []) = some 1 := rfl
  rw [h1, h2]
  have h3 : plainD (.lst (cs.map .int)) = true := by simp only [plainD, plainL_ints]
  have h4 : plainD (.lst []) = true := rfl
  rw [h3, h4]
  have h5 : (1 ≤ k + 1 ∧ 1 ≤ k + 1) := by omega
  simp only [h5, decide_true, Bool.and_self, if_true]
  cases cs with
  | nil => rfl
  | cons c cs => rfl
theorem lineLe {n : Nat} (h : n ≤ 1000) : n ≤ line := by rw [line_val]; omega
theorem lenG_ok {n : Int} {m : Mu} (h : 0 ≤ n) (h' : n < 2 ^ 60) : lenG n m = .ok (.int n) m := by unfold lenG; rw [big_val]; exact if_pos ⟨h, by omega⟩
theorem le_line {n : Nat} (h : n ≤ 1000) : (n ≤ line) = True := eq_true (by rw [line_val]; omega)
theorem atI_nn {α : Type} {xs : List α} {i : Int} (h : 0 ≤ i) (h' : i < xs.length) : atI xs i = xs[i.toNat]? := by
  unfold atI ixN
  rw [if_pos h, if_pos h']
  rfl
theorem atI_of {α : Type} {xs : List α} {i : Nat} {x : α} (h : xs[i]? = some x) : atI xs (i : Int) = some x := by
  have hl := (List.getElem?_eq_some_iff.mp h).1
  rw [atI_nn (by omega) (by omega), Int.toNat_natCast, h]
theorem items_tup {xs : List D} : itemsD (.tup xs) = some xs := rfl
theorem items_lst {xs : List D} : itemsD (.lst xs) = some xs := rfl
theorem items_str {s : Str} : itemsD (.str s) = some (s.cps.toList.map fun c => .str ⟨#[c]⟩) := rfl
theorem wipe_nil {r : Ev} : wipeE r [] = r := rfl
theorem wipe_cons {r : Ev} {v : Nat} {vs : List Nat} : wipeE r (v :: vs) = (wipeE r vs).set v none := rfl
theorem idx_tup {xs : List D} {n : Nat} : idxD (.tup xs) (.int (n : Int)) = xs[n]? := by
  show atI xs (n : Int) = _
  by_cases h : n < xs.length
  · rw [atI_nn (by omega) (by omega), Int.toNat_natCast]
  · unfold atI ixN
    rw [if_pos (by omega), if_neg (by omega), List.getElem?_eq_none (by omega)]
    rfl
theorem idx_lst {xs : List D} {n : Nat} : idxD (.lst xs) (.int (n : Int)) = xs[n]? := idx_tup
theorem idx_t0 {xs : List D} : idxD (.tup xs) (.int 0) = xs[0]? := idx_tup (n := 0)
theorem idx_t1 {xs : List D} : idxD (.tup xs) (.int 1) = xs[1]? := idx_tup (n := 1)
theorem idx_t2 {xs : List D} : idxD (.tup xs) (.int 2) = xs[2]? := idx_tup (n := 2)
theorem idx_t3 {xs : List D} : idxD (.tup xs) (.int 3) = xs[3]? := idx_tup (n := 3)
theorem idx_l0 {xs : List D} : idxD (.lst xs) (.int 0) = xs[0]? := idx_tup (n := 0)
theorem idx_l1 {xs : List D} : idxD (.lst xs) (.int 1) = xs[1]? := idx_tup (n := 1)
theorem eq_ss {s t : Str} : eqO T k m (.str s) (.str t) = some (decide (s = t)) := by
  unfold eqO room
  have h : dep (.str s) = some 0 := rfl
  have h' : dep (.str t) = some 0 := rfl
  simp only [look_str, h, h', isLoc, Nat.zero_le, and_self, decide_true, Bool.not_false, Bool.and_self, Bool.true_or, if_true]
  rfl
theorem eq_ii {s t : Int} : eqO T k m (.int s) (.int t) = some (s == t) := by
  unfold eqO room
  have h : dep (.int s) = some 0 := rfl
  have h' : dep (.int t) = some 0 := rfl
  simp only [look_int, h, h', isLoc, Nat.zero_le, and_self, decide_true, Bool.not_false, Bool.and_self, Bool.true_or, if_true]
  rfl
theorem ne_ss {s t : Str} : neO T k (.str s) (.str t) = some (!decide (s = t)) := by
  unfold neO room
  have h : dep (.str s) = some 0 := rfl
  have h' : dep (.str t) = some 0 := rfl
  simp only [h, h', plainD, Nat.zero_le, and_self, decide_true, Bool.and_self, if_true]
  rfl
theorem ne_ii {s t : Int} : neO T k (.int s) (.int t) = some (!(s == t)) := by
  unfold neO room
  have h : dep (.int s) = some 0 := rfl
  have h' : dep (.int t) = some 0 := rfl
  simp only [h, h', plainD, Nat.zero_le, and_self, decide_true, Bool.and_self, if_true]
  rfl
theorem ne_bb {s t : Bool} : neO T k (.bl s) (.bl t) = some (!(s == t)) := by
  unfold neO room
  have h : dep (.bl s) = some 0 := rfl
  have h' : dep (.bl t) = some 0 := rfl
  simp only [h, h', plainD, Nat.zero_le, and_self, decide_true, Bool.and_self, if_true]
  rfl
theorem tru_bl {b : Bool} : truD (.bl b) = some b := rfl
end
theorem eqD_is {T : Tab} {c c' g f f' : Nat} {n n' : List Nat} {q q' : Cls} {fs gs : List (Nat × D)} (h : T[c]? = some q) (h1 : q.eqg = some (g, n, f)) (h' : T[c']? = some q') (h2 : q'.eqg = some (g, n', f')) (p1 : pre n fs = true) (p2 : pre n gs = true) : eqD T (.ins c fs) (.ins c' gs) = eqF T n fs gs := by
  simp only [eqD, h, h1, h', h2, Option.bind_some, if_true, p1, p2, Bool.and_self]
theorem eqF_0 {T : Tab} {as bs : List (Nat × D)} : eqF T [] as bs = some true := by simp only [eqF]
theorem eqF_1 {T : Tab} {n : Nat} {ns : List Nat} {a b : D} {as bs : List (Nat × D)} : eqF T (n :: ns) ((n, a) :: as) ((n, b) :: bs) = (match eqD T a b with
    | some true => eqF T ns as bs
    | r => r) := by
  simp only [eqF, and_self, if_true]
  try rfl
theorem eqL_0 {T : Tab} : eqL T [] [] = some true := by simp only [eqL]
theorem eqL_1 {T : Tab} {a b : D} {as bs : List D} : eqL T (a :: as) (b :: bs) = (match eqD T a b with
    | some true => eqL T as bs
    | r => r) := by simp only [eqL] <;> rfl
theorem eqL_2 {T : Tab} {b : D} {bs : List D} : eqL T [] (b :: bs) = some false := by simp only [eqL]
theorem eqL_3 {T : Tab} {b : D} {bs : List D} : eqL T (b :: bs) [] = some false := by simp only [eqL]
theorem eqD_tt' {T : Tab} {as bs : List D} : eqD T (.tup as) (.tup bs) = eqL T as bs := by simp only [eqD]
theorem eqD_ll' {T : Tab} {as bs : List D} : eqD T (.lst as) (.lst bs) = if as.length = bs.length then eqL T as bs else some false := by simp only [eqD]
theorem eqD_ss {T : Tab} {a b : Str} : eqD T (.str a) (.str b) = some (decide (a = b)) := by simp only [eqD]
theorem eqD_ii2 {T : Tab} {a b : Int} : eqD T (.int a) (.int b) = some (a == b) := by simp only [eqD]
theorem eqD_bb {T : Tab} {a b : Bool} : eqD T (.bl a) (.bl b) = some (a == b) := by simp only [eqD]
theorem eqD_is' {T : Tab} {a : Int} {b : Str} : eqD T (.int a) (.str b) = some false := by simp only [eqD]
theorem eqD_si {T : Tab} {a : Str} {b : Int} : eqD T (.str a) (.int b) = some false := by simp only [eqD]
theorem eqO_room {T : Tab} {k : Nat} {m : Mu} {x y : D} {i j : Nat} (h1 : dep (look m x) = some i) (h2 : dep (look m y) = some j) (h3 : i ≤ k) (h4 : j ≤ k) (h5 : isLoc x = false) (h6 : isLoc y = false) : eqO T k m x y = eqD T (look m x) (look m y) := by
  unfold eqO room
  rw [h1, h2, h5, h6]
  simp [h3, h4]
theorem neO_room {T : Tab} {k : Nat} {x y : D} {i j : Nat} (h1 : dep x = some i) (h2 : dep y = some j) (h3 : i ≤ k) (h4 : j ≤ k) (h5 : plainD x = true) (h6 : plainD y = true) : neO T k x y = (eqD T x y).map not := by
  unfold neO room
  rw [h1, h2, h5, h6]
  simp [h3, h4]
theorem inD_lst {T : Tab} {k : Nat} {x : D} {xs : List D} {i j : Nat} (h1 : dep x = some i) (h2 : dep (.lst xs) = some j) (h3 : i ≤ k) (h4 : j ≤ k) (h5 : plainD x = true) (h6 : plainL xs = true) : inD T k x (.lst xs) = some (anyD T x xs) := by
  unfold inD room
  dsimp only
  rw [h1, h2, h5, h6]
  simp [h3, h4]
theorem inD_tup {T : Tab} {k : Nat} {x : D} {xs : List D} {i j : Nat} (h1 : dep x = some i) (h2 : dep (.tup xs) = some j) (h3 : i ≤ k) (h4 : j ≤ k) (h5 : plainD x = true) (h6 : plainL xs = true) : inD T k x (.tup xs) = some (anyD T x xs) := by
  unfold inD room
  dsimp only
  rw [h1, h2, h5, h6]
  simp [h3, h4]
theorem depL_map {α : Type} {f : α → D} {B : Nat} : ∀ {ps : List α}, (∀ p ∈ ps, ∃ d, dep (f p) = some d ∧ d ≤ B) → ∃ d, depL (ps.map f) = some d ∧ d ≤ B
  | [], _ => ⟨0, rfl, Nat.zero_le _⟩
  | p :: ps, h => by
    obtain ⟨a, h1, h2⟩ := h p List.mem_cons_self
    obtain ⟨b, h3, h4⟩ := depL_map (ps := ps) fun q hq => h q (List.mem_cons_of_mem _ hq)
    refine ⟨max a b, ?_, by omega⟩
    rw [List.map_cons]
    simp only [depL, h1, h3]
theorem plainL_map {α : Type} {f : α → D} : ∀ {ps : List α}, (∀ p ∈ ps, plainD (f p) = true) → plainL (ps.map f) = true
  | [], _ => rfl
  | p :: ps, h => by
    rw [List.map_cons]
    simp only [plainL, h p List.mem_cons_self, plainL_map (ps := ps) fun q hq => h q (List.mem_cons_of_mem _ hq), Bool.and_self]
theorem eqL_self {T : Tab} {xs : List D} (h : ∀ x ∈ xs, eqD T x x = some true) : eqL T xs xs = some true := by
  induction xs with
  | nil => exact eqL_0
  | cons x xs ih =>
    rw [eqL_1, h x List.mem_cons_self]
    exact ih fun y hy => h y (List.mem_cons_of_mem _ hy)
theorem ne_bools {T : Tab} {k : Nat} {α : Type} (f : α → Bool) (xs : List α) : neO T (k + 1) (.lst (xs.map fun x => .bl (f x))) (.lst (xs.map fun x => .bl (f x))) = some false := by
  obtain ⟨d, h1, h2⟩ := depL_map (f := fun x => D.bl (f x)) (B := 0) (ps := xs) fun p _ => ⟨0, rfl, Nat.le_refl _⟩
  have h3 : dep (.lst (xs.map fun x => .bl (f x))) = some (d + 1) := by simp only [dep, h1, Option.map_some]
  have h4 : plainD (.lst (xs.map fun x => .bl (f x))) = true := by
    simp only [plainD]
    exact plainL_map fun p _ => rfl
  rw [neO_room h3 h3 (by omega) (by omega) h4 h4, eqD_ll', if_pos rfl, eqL_self fun x hx => ?_]
  · rfl
  · obtain ⟨y, _, rfl⟩ := List.mem_map.mp hx
    rw [eqD_bb]
    simp
theorem rangeD_nat {n : Nat} (h : n ≤ 1000000000) : rangeD 0 (n : Int) = some ((List.range n).map fun (i : Nat) => D.int (i : Int)) := by
  rw [rangeD_eq ⟨by omega, by omega, by omega, by omega⟩]
  congr 1
  rw [Int.sub_zero, Int.toNat_natCast]
  congr 1
  funext i
  rw [Int.zero_add]
theorem rangeD_int {n : Int} (h : n ≤ 1000000000) (h' : -1000000000 ≤ n) : rangeD 0 n = some ((List.range n.toNat).map fun (i : Nat) => D.int (i : Int)) := by
  by_cases h0 : 0 ≤ n
  · obtain ⟨k, rfl⟩ := Int.eq_ofNat_of_zero_le h0
    rw [Int.toNat_natCast]
    exact rangeD_nat (by omega)
  · unfold rangeD
    rw [big_val]
    by_cases h1 : -(2 ^ 62) ≤ (0 : Int) ∧ (0 : Int) < 2 ^ 62 ∧ -(2 ^ 62) ≤ n ∧ n < 2 ^ 62
    · rw [if_pos h1]
      have e : (n - 0).toNat = 0 := by omega
      have e2 : n.toNat = 0 := by omega
      rw [e, e2]
      rfl
    · exact absurd ⟨by omega, by omega, by omega, by omega⟩ h1
/-- a comprehension over the images of a list -/
theorem W_mapF {α : Type} {f : D → Mu → R (Option D)} {m : Mu} {Q : List D → Mu → Prop} {n : Nat} (ps : List α) (f0 : α → D) (g : α → Option D) (J : Mu → Prop) (h0 : J m)
    (step : ∀ p ∈ ps, ∀ m, J m → W (f (f0 p) m) (fun o m' => o = g p ∧ J m')) (hq : ∀ m, J m → Q (ps.filterMap g) m) (hn : n = ps.length := by simp) : W (turnsC f (.its (ps.map f0)) n 0 m) Q := by
  have hn : n = (ps.map f0).length := by rw [hn, List.length_map]
  subst hn
  refine W_its (fun i acc m => acc = (ps.take i).filterMap g ∧ J m) ⟨rfl, h0⟩ (fun i x acc m hx ⟨e, hj⟩ => ?_) (fun out m ⟨e, hj⟩ => ?_)
  · rw [List.getElem?_map] at hx
    obtain ⟨p, hp, rfl⟩ := Option.map_eq_some_iff.mp hx
    refine W_mono (step p (List.mem_of_getElem? hp) m hj) fun o m' ⟨e2, hj'⟩ => ⟨?_, hj'⟩
    subst e e2
    rw [List.take_succ, hp, List.filterMap_append]
    simp only [Option.toList, List.filterMap_cons, List.filterMap_nil]
    cases g p <;> rfl
  · subst e
    rw [List.length_map, List.take_length]
    exact hq m hj
theorem W_mapL {α : Type} {f : D → Mu → R (Option D)} {m : Mu} {Q : List D → Mu → Prop} {n : Nat} (ps : List α) (f0 g : α → D) (J : Mu → Prop) (h0 : J m)
    (step : ∀ p ∈ ps, ∀ m, J m → W (f (f0 p) m) (fun o m' => o = some (g p) ∧ J m')) (hq : ∀ m, J m → Q (ps.map g) m) (hn : n = ps.length := by simp) : W (turnsC f (.its (ps.map f0)) n 0 m) Q :=
  W_mapF ps f0 (fun p => some (g p)) J h0 step (fun m hj => by
    have e : ps.filterMap (fun p => some (g p)) = ps.map g := by induction ps <;> simp_all
    rw [e]
    exact hq m hj) hn
/-- a comprehension whose items are drawn: each is of a kind -/
theorem W_drawn {f : D → Mu → R (Option D)} {m : Mu} {Q : List D → Mu → Prop} {n : Nat} {ds : List D} (P : D → Prop) (J : Nat → Mu → Prop) (h0 : J 0 m)
    (step : ∀ (i : Nat) (x : D) (m : Mu), ds[i]? = some x → J i m → W (f x m) (fun o m' => ∃ d, o = some d ∧ P d ∧ J (i + 1) m')) (hq : ∀ out m, out.length = ds.length → (∀ d ∈ out, P d) → J ds.length m → Q out m) (hn : n = ds.length := by simp) : W (turnsC f (.its ds) n 0 m) Q := by
  subst hn
  refine W_its (fun i acc m => acc.length = i ∧ (∀ d ∈ acc, P d) ∧ J i m) ⟨rfl, (fun d hd => nomatch hd), h0⟩ (fun i x acc m hx ⟨e, hp, hj⟩ => ?_) fun out m ⟨e, hp, hj⟩ => hq out m e hp hj
  refine W_mono (step i x m hx hj) fun o m' ⟨d, e2, hd, hj'⟩ => ?_
  subst e2
  refine ⟨by simp [e], fun z hz => ?_, hj'⟩
  rcases List.mem_append.mp hz with hz | hz
  · exact hp z hz
  · rw [List.mem_singleton.mp hz]
    exact hd
end Rs

/-! part K05_ir -/
set_option Elab.async false
set_option linter.all false
set_option maxRecDepth 100000
/-! printed by gen.py: the pure form of law_k05_shapes -/
namespace K05
open PySem Rs

/-- 0: parts_of(term, found, part) -/
def b0 : ISs :=
 (.cons (.asg (.nm 1) (.mk (.lst (.cons (.var 0) .nil))))
 (.cons (.for_ (.nm 2) (.seq (.att (.var 0) 0))
 (.cons (.mut .extend (.var 1) (.call 0 (.cons (.var 2) .nil)))
 .nil))
 (.cons (.ret (.frz (.var 1)))
 .nil)))
def b0l1q1 : ISs := .nil
def b0l1q0 : ISs := .cons (.mut .extend (.var 1) (.call 0 (.cons (.var 2) .nil))) b0l1q1
theorem b0l1c0 : b0l1q0 = .cons (.mut .extend (.var 1) (.call 0 (.cons (.var 2) .nil))) b0l1q1 := rfl
theorem b0l1n : b0l1q1 = .nil := rfl
def b0q3 : ISs := .nil
def b0q2 : ISs := .cons (.ret (.frz (.var 1))) b0q3
theorem b0c2 : b0q2 = .cons (.ret (.frz (.var 1))) b0q3 := rfl
def b0q1 : ISs := .cons (.for_ (.nm 2) (.seq (.att (.var 0) 0)) b0l1q0) b0q2
theorem b0c1 : b0q1 = .cons (.for_ (.nm 2) (.seq (.att (.var 0) 0)) b0l1q0) b0q2 := rfl
def b0q0 : ISs := .cons (.asg (.nm 1) (.mk (.lst (.cons (.var 0) .nil)))) b0q1
theorem b0c0 : b0q0 = .cons (.asg (.nm 1) (.mk (.lst (.cons (.var 0) .nil)))) b0q1 := rfl
theorem b0n : b0q3 = .nil := rfl
theorem b0e : b0 = b0q0 := rfl
/-- 1: does_of(rule, look) -/
def b1 : ISs :=
 (.cons (.ret (.fz (.cmp (.var 1) (.nm 1) (.seq (.att (.var 0) 1)) (.yes (.tru (.isi (.var 1) (.own 5)))) [1])))
 .nil)
def b1q1 : ISs := .nil
def b1q0 : ISs := .cons (.ret (.fz (.cmp (.var 1) (.nm 1) (.seq (.att (.var 0) 1)) (.yes (.tru (.isi (.var 1) (.own 5)))) [1]))) b1q1
theorem b1c0 : b1q0 = .cons (.ret (.fz (.cmp (.var 1) (.nm 1) (.seq (.att (.var 0) 1)) (.yes (.tru (.isi (.var 1) (.own 5)))) [1]))) b1q1 := rfl
theorem b1n : b1q1 = .nil := rfl
theorem b1e : b1 = b1q0 := rfl
/-- 2: cannots_of(rule, look) -/
def b2 : ISs :=
 (.cons (.ret (.fz (.cmp (.var 1) (.nm 1) (.seq (.att (.var 0) 1)) (.yes (.tru (.isi (.var 1) (.own 6)))) [1])))
 .nil)
def b2q1 : ISs := .nil
def b2q0 : ISs := .cons (.ret (.fz (.cmp (.var 1) (.nm 1) (.seq (.att (.var 0) 1)) (.yes (.tru (.isi (.var 1) (.own 6)))) [1]))) b2q1
theorem b2c0 : b2q0 = .cons (.ret (.fz (.cmp (.var 1) (.nm 1) (.seq (.att (.var 0) 1)) (.yes (.tru (.isi (.var 1) (.own 6)))) [1]))) b2q1 := rfl
theorem b2n : b2q1 = .nil := rfl
theorem b2e : b2 = b2q0 := rfl
/-- 3: is_right_part(operators, arity, names, part) -/
def b3 : ISs :=
 (.cons (.ifs (.cmp .Eq (.att (.var 3) 2) (.cst (.str "arg")))
 (.cons (.ret (.chn .LtE .Lt (.cst (.int 0)) (.att (.var 3) 3) (.var 1)))
 .nil)
 .nil)
 (.cons (.ifs (.cmp .Eq (.att (.var 3) 2) (.cst (.str "got")))
 (.cons (.ret (.cmp .In (.att (.var 3) 3) (.var 2)))
 .nil)
 .nil)
 (.cons (.ret (.and (.cmp .Eq (.att (.var 3) 2) (.cst (.str "of"))) (.and (.cmp .In (.att (.var 3) 3) (.var 0)) (.cmp .Eq (.idx (.var 0) (.att (.var 3) 3)) (.len (.att (.var 3) 0) 4)))))
 .nil)))
def b3q3 : ISs := .nil
def b3q2 : ISs := .cons (.ret (.and (.cmp .Eq (.att (.var 3) 2) (.cst (.str "of"))) (.and (.cmp .In (.att (.var 3) 3) (.var 0)) (.cmp .Eq (.idx (.var 0) (.att (.var 3) 3)) (.len (.att (.var 3) 0) 4))))) b3q3
theorem b3c2 : b3q2 = .cons (.ret (.and (.cmp .Eq (.att (.var 3) 2) (.cst (.str "of"))) (.and (.cmp .In (.att (.var 3) 3) (.var 0)) (.cmp .Eq (.idx (.var 0) (.att (.var 3) 3)) (.len (.att (.var 3) 0) 4))))) b3q3 := rfl
def b3q1 : ISs := .cons (.ifs (.cmp .Eq (.att (.var 3) 2) (.cst (.str "got")))
 (.cons (.ret (.cmp .In (.att (.var 3) 3) (.var 2)))
 .nil)
 .nil) b3q2
theorem b3c1 : b3q1 = .cons (.ifs (.cmp .Eq (.att (.var 3) 2) (.cst (.str "got")))
 (.cons (.ret (.cmp .In (.att (.var 3) 3) (.var 2)))
 .nil)
 .nil) b3q2 := rfl
def b3q0 : ISs := .cons (.ifs (.cmp .Eq (.att (.var 3) 2) (.cst (.str "arg")))
 (.cons (.ret (.chn .LtE .Lt (.cst (.int 0)) (.att (.var 3) 3) (.var 1)))
 .nil)
 .nil) b3q1
theorem b3c0 : b3q0 = .cons (.ifs (.cmp .Eq (.att (.var 3) 2) (.cst (.str "arg")))
 (.cons (.ret (.chn .LtE .Lt (.cst (.int 0)) (.att (.var 3) 3) (.var 1)))
 .nil)
 .nil) b3q1 := rfl
theorem b3n : b3q3 = .nil := rfl
theorem b3e : b3 = b3q0 := rfl
/-- 4: is_right(operators, rule, arity, names, look, part) -/
def b4 : ISs :=
 (.cons (.ifs (.cmp .NotIn (.att (.var 1) 5) (.var 0))
 (.cons (.ret (.cst (.bl false)))
 .nil)
 .nil)
 (.cons (.asg (.tp (.cons (.nm 2) (.cons (.nm 3) .nil))) (.tup (.cons (.idx (.var 0) (.att (.var 1) 5)) (.cons (.fz (.cmp (.att (.var 4) 6) (.nm 4) (.seq (.call 1 (.cons (.var 1) .nil))) .no [4])) .nil))))
 (.cons (.ifs (.or (.cmp .Lt (.sln (.var 3)) (.len (.var 3) 4)) (.not (.tru (.blt .all (.cons (.fz (.cmp (.chn .LtE .Lt (.cst (.int 0)) (.att (.var 4) 7) (.var 2)) (.nm 4) (.seq (.att (.var 1) 1)) .no [4])) .nil)))))
 (.cons (.ret (.cst (.bl false)))
 .nil)
 .nil)
 (.cons (.ret (.blt .all (.cons (.fz (.cmp (.call 3 (.cons (.var 0) (.cons (.var 2) (.cons (.var 3) (.cons (.var 5) .nil))))) (.nm 5) (.seq (.call 0 (.cons (.att (.var 1) 8) .nil))) .no [5])) .nil)))
 .nil))))
def b4q4 : ISs := .nil
def b4q3 : ISs := .cons (.ret (.blt .all (.cons (.fz (.cmp (.call 3 (.cons (.var 0) (.cons (.var 2) (.cons (.var 3) (.cons (.var 5) .nil))))) (.nm 5) (.seq (.call 0 (.cons (.att (.var 1) 8) .nil))) .no [5])) .nil))) b4q4
theorem b4c3 : b4q3 = .cons (.ret (.blt .all (.cons (.fz (.cmp (.call 3 (.cons (.var 0) (.cons (.var 2) (.cons (.var 3) (.cons (.var 5) .nil))))) (.nm 5) (.seq (.call 0 (.cons (.att (.var 1) 8) .nil))) .no [5])) .nil))) b4q4 := rfl
def b4q2 : ISs := .cons (.ifs (.or (.cmp .Lt (.sln (.var 3)) (.len (.var 3) 4)) (.not (.tru (.blt .all (.cons (.fz (.cmp (.chn .LtE .Lt (.cst (.int 0)) (.att (.var 4) 7) (.var 2)) (.nm 4) (.seq (.att (.var 1) 1)) .no [4])) .nil)))))
 (.cons (.ret (.cst (.bl false)))
 .nil)
 .nil) b4q3
theorem b4c2 : b4q2 = .cons (.ifs (.or (.cmp .Lt (.sln (.var 3)) (.len (.var 3) 4)) (.not (.tru (.blt .all (.cons (.fz (.cmp (.chn .LtE .Lt (.cst (.int 0)) (.att (.var 4) 7) (.var 2)) (.nm 4) (.seq (.att (.var 1) 1)) .no [4])) .nil)))))
 (.cons (.ret (.cst (.bl false)))
 .nil)
 .nil) b4q3 := rfl
def b4q1 : ISs := .cons (.asg (.tp (.cons (.nm 2) (.cons (.nm 3) .nil))) (.tup (.cons (.idx (.var 0) (.att (.var 1) 5)) (.cons (.fz (.cmp (.att (.var 4) 6) (.nm 4) (.seq (.call 1 (.cons (.var 1) .nil))) .no [4])) .nil)))) b4q2
theorem b4c1 : b4q1 = .cons (.asg (.tp (.cons (.nm 2) (.cons (.nm 3) .nil))) (.tup (.cons (.idx (.var 0) (.att (.var 1) 5)) (.cons (.fz (.cmp (.att (.var 4) 6) (.nm 4) (.seq (.call 1 (.cons (.var 1) .nil))) .no [4])) .nil)))) b4q2 := rfl
def b4q0 : ISs := .cons (.ifs (.cmp .NotIn (.att (.var 1) 5) (.var 0))
 (.cons (.ret (.cst (.bl false)))
 .nil)
 .nil) b4q1
theorem b4c0 : b4q0 = .cons (.ifs (.cmp .NotIn (.att (.var 1) 5) (.var 0))
 (.cons (.ret (.cst (.bl false)))
 .nil)
 .nil) b4q1 := rfl
theorem b4n : b4q4 = .nil := rfl
theorem b4e : b4 = b4q0 := rfl
/-- 5: check_rules(operators, rules, index, rule) -/
def b5 : ISs :=
 (.cons (.for_ (.tp (.cons (.nm 2) (.cons (.nm 3) .nil))) (.enm (.var 1))
 (.cons (.ifs (.not (.tru (.call 4 (.cons (.var 0) (.cons (.var 3) .nil)))))
 (.cons .dea
 .nil)
 .nil)
 .nil))
 .nil)
def b5l0q1 : ISs := .nil
def b5l0q0 : ISs := .cons (.ifs (.not (.tru (.call 4 (.cons (.var 0) (.cons (.var 3) .nil)))))
 (.cons .dea
 .nil)
 .nil) b5l0q1
theorem b5l0c0 : b5l0q0 = .cons (.ifs (.not (.tru (.call 4 (.cons (.var 0) (.cons (.var 3) .nil)))))
 (.cons .dea
 .nil)
 .nil) b5l0q1 := rfl
theorem b5l0n : b5l0q1 = .nil := rfl
def b5q1 : ISs := .nil
def b5q0 : ISs := .cons (.for_ (.tp (.cons (.nm 2) (.cons (.nm 3) .nil))) (.enm (.var 1)) b5l0q0) b5q1
theorem b5c0 : b5q0 = .cons (.for_ (.tp (.cons (.nm 2) (.cons (.nm 3) .nil))) (.enm (.var 1)) b5l0q0) b5q1 := rfl
theorem b5n : b5q1 = .nil := rfl
theorem b5e : b5 = b5q0 := rfl
/-- 6: is_straight(rule, owners, parts, found, look, part) -/
def b6 : ISs :=
 (.cons (.asg (.nm 1) (.fz (.dcm (.att (.var 4) 6) (.att (.var 4) 7) (.nm 4) (.seq (.call 1 (.cons (.var 0) .nil))) [4])))
 (.cons (.asg (.nm 2) (.call 0 (.cons (.att (.var 0) 8) .nil)))
 (.cons (.asg (.nm 3) (.mk (.cmp (.att (.var 5) 3) (.nm 5) (.seq (.var 2)) (.yes (.cmp .Eq (.att (.var 5) 2) (.cst (.str "arg")))) [5])))
 (.cons (.mut .extend (.var 3) (.fz (.cmp (.idx (.var 1) (.att (.var 5) 3)) (.nm 5) (.seq (.var 2)) (.yes (.cmp .Eq (.att (.var 5) 2) (.cst (.str "got")))) [5])))
 (.cons (.ret (.cmp .Eq (.sln (.var 3)) (.len (.var 3) 4)))
 .nil)))))
def b6q5 : ISs := .nil
def b6q4 : ISs := .cons (.ret (.cmp .Eq (.sln (.var 3)) (.len (.var 3) 4))) b6q5
theorem b6c4 : b6q4 = .cons (.ret (.cmp .Eq (.sln (.var 3)) (.len (.var 3) 4))) b6q5 := rfl
def b6q3 : ISs := .cons (.mut .extend (.var 3) (.fz (.cmp (.idx (.var 1) (.att (.var 5) 3)) (.nm 5) (.seq (.var 2)) (.yes (.cmp .Eq (.att (.var 5) 2) (.cst (.str "got")))) [5]))) b6q4
theorem b6c3 : b6q3 = .cons (.mut .extend (.var 3) (.fz (.cmp (.idx (.var 1) (.att (.var 5) 3)) (.nm 5) (.seq (.var 2)) (.yes (.cmp .Eq (.att (.var 5) 2) (.cst (.str "got")))) [5]))) b6q4 := rfl
def b6q2 : ISs := .cons (.asg (.nm 3) (.mk (.cmp (.att (.var 5) 3) (.nm 5) (.seq (.var 2)) (.yes (.cmp .Eq (.att (.var 5) 2) (.cst (.str "arg")))) [5]))) b6q3
theorem b6c2 : b6q2 = .cons (.asg (.nm 3) (.mk (.cmp (.att (.var 5) 3) (.nm 5) (.seq (.var 2)) (.yes (.cmp .Eq (.att (.var 5) 2) (.cst (.str "arg")))) [5]))) b6q3 := rfl
def b6q1 : ISs := .cons (.asg (.nm 2) (.call 0 (.cons (.att (.var 0) 8) .nil))) b6q2
theorem b6c1 : b6q1 = .cons (.asg (.nm 2) (.call 0 (.cons (.att (.var 0) 8) .nil))) b6q2 := rfl
def b6q0 : ISs := .cons (.asg (.nm 1) (.fz (.dcm (.att (.var 4) 6) (.att (.var 4) 7) (.nm 4) (.seq (.call 1 (.cons (.var 0) .nil))) [4]))) b6q1
theorem b6c0 : b6q0 = .cons (.asg (.nm 1) (.fz (.dcm (.att (.var 4) 6) (.att (.var 4) 7) (.nm 4) (.seq (.call 1 (.cons (.var 0) .nil))) [4]))) b6q1 := rfl
theorem b6n : b6q5 = .nil := rfl
theorem b6e : b6 = b6q0 := rfl
/-- 7: is_plain(rule, looked, kept, look, part) -/
def b7 : ISs :=
 (.cons (.asg (.nm 1) (.fz (.cmp (.att (.var 3) 7) (.nm 3) (.seq (.call 1 (.cons (.var 0) .nil))) .no [3])))
 (.cons (.asg (.nm 2) (.fz (.cmp (.att (.var 4) 3) (.nm 4) (.seq (.call 0 (.cons (.att (.var 0) 8) .nil))) (.yes (.cmp .Eq (.att (.var 4) 2) (.cst (.str "arg")))) [4])))
 (.cons (.ret (.and (.cmp .Eq (.sln (.var 1)) (.len (.var 1) 4)) (.sdj (.var 1) (.var 2))))
 .nil)))
def b7q3 : ISs := .nil
def b7q2 : ISs := .cons (.ret (.and (.cmp .Eq (.sln (.var 1)) (.len (.var 1) 4)) (.sdj (.var 1) (.var 2)))) b7q3
theorem b7c2 : b7q2 = .cons (.ret (.and (.cmp .Eq (.sln (.var 1)) (.len (.var 1) 4)) (.sdj (.var 1) (.var 2)))) b7q3 := rfl
def b7q1 : ISs := .cons (.asg (.nm 2) (.fz (.cmp (.att (.var 4) 3) (.nm 4) (.seq (.call 0 (.cons (.att (.var 0) 8) .nil))) (.yes (.cmp .Eq (.att (.var 4) 2) (.cst (.str "arg")))) [4]))) b7q2
theorem b7c1 : b7q1 = .cons (.asg (.nm 2) (.fz (.cmp (.att (.var 4) 3) (.nm 4) (.seq (.call 0 (.cons (.att (.var 0) 8) .nil))) (.yes (.cmp .Eq (.att (.var 4) 2) (.cst (.str "arg")))) [4]))) b7q2 := rfl
def b7q0 : ISs := .cons (.asg (.nm 1) (.fz (.cmp (.att (.var 3) 7) (.nm 3) (.seq (.call 1 (.cons (.var 0) .nil))) .no [3]))) b7q1
theorem b7c0 : b7q0 = .cons (.asg (.nm 1) (.fz (.cmp (.att (.var 3) 7) (.nm 3) (.seq (.call 1 (.cons (.var 0) .nil))) .no [3]))) b7q1 := rfl
theorem b7n : b7q3 = .nil := rfl
theorem b7e : b7 = b7q0 := rfl
/-- 8: has_shape(rule, shape) -/
def b8 : ISs :=
 (.cons (.ifs (.and (.cmp .In (.var 1) (.tup (.cons (.cst (.str "plain")) (.cons (.cst (.str "asks")) (.cons (.cst (.str "looks")) .nil))))) (.not (.tru (.call 6 (.cons (.var 0) .nil)))))
 (.cons (.ret (.cst (.bl false)))
 .nil)
 .nil)
 (.cons (.ifs (.and (.cmp .In (.var 1) (.tup (.cons (.cst (.str "plain")) (.cons (.cst (.str "asks")) (.cons (.cst (.str "copies")) .nil))))) (.cmp .NotEq (.call 2 (.cons (.var 0) .nil)) (.fz (.lst .nil))))
 (.cons (.ret (.cst (.bl false)))
 .nil)
 .nil)
 (.cons (.ret (.or (.cmp .NotEq (.var 1) (.cst (.str "plain"))) (.call 7 (.cons (.var 0) .nil))))
 .nil)))
def b8q3 : ISs := .nil
def b8q2 : ISs := .cons (.ret (.or (.cmp .NotEq (.var 1) (.cst (.str "plain"))) (.call 7 (.cons (.var 0) .nil)))) b8q3
theorem b8c2 : b8q2 = .cons (.ret (.or (.cmp .NotEq (.var 1) (.cst (.str "plain"))) (.call 7 (.cons (.var 0) .nil)))) b8q3 := rfl
def b8q1 : ISs := .cons (.ifs (.and (.cmp .In (.var 1) (.tup (.cons (.cst (.str "plain")) (.cons (.cst (.str "asks")) (.cons (.cst (.str "copies")) .nil))))) (.cmp .NotEq (.call 2 (.cons (.var 0) .nil)) (.fz (.lst .nil))))
 (.cons (.ret (.cst (.bl false)))
 .nil)
 .nil) b8q2
theorem b8c1 : b8q1 = .cons (.ifs (.and (.cmp .In (.var 1) (.tup (.cons (.cst (.str "plain")) (.cons (.cst (.str "asks")) (.cons (.cst (.str "copies")) .nil))))) (.cmp .NotEq (.call 2 (.cons (.var 0) .nil)) (.fz (.lst .nil))))
 (.cons (.ret (.cst (.bl false)))
 .nil)
 .nil) b8q2 := rfl
def b8q0 : ISs := .cons (.ifs (.and (.cmp .In (.var 1) (.tup (.cons (.cst (.str "plain")) (.cons (.cst (.str "asks")) (.cons (.cst (.str "looks")) .nil))))) (.not (.tru (.call 6 (.cons (.var 0) .nil)))))
 (.cons (.ret (.cst (.bl false)))
 .nil)
 .nil) b8q1
theorem b8c0 : b8q0 = .cons (.ifs (.and (.cmp .In (.var 1) (.tup (.cons (.cst (.str "plain")) (.cons (.cst (.str "asks")) (.cons (.cst (.str "looks")) .nil))))) (.not (.tru (.call 6 (.cons (.var 0) .nil)))))
 (.cons (.ret (.cst (.bl false)))
 .nil)
 .nil) b8q1 := rfl
theorem b8n : b8q3 = .nil := rfl
theorem b8e : b8 = b8q0 := rfl
/-- 9: _law_pen(_law_script) -/
def b9 : ISs :=
 (.cons (.ret (.mk (.dct [.inr "cells", .inr "at", .inr "left"] (.cons (.fz (.lof (.slc (.var 0) .no (.yes (.cst (.int 63)))))) (.cons (.cst (.int 0)) (.cons (.cst (.int 0)) .nil))))))
 .nil)
def b9q1 : ISs := .nil
def b9q0 : ISs := .cons (.ret (.mk (.dct [.inr "cells", .inr "at", .inr "left"] (.cons (.fz (.lof (.slc (.var 0) .no (.yes (.cst (.int 63)))))) (.cons (.cst (.int 0)) (.cons (.cst (.int 0)) .nil)))))) b9q1
theorem b9c0 : b9q0 = .cons (.ret (.mk (.dct [.inr "cells", .inr "at", .inr "left"] (.cons (.fz (.lof (.slc (.var 0) .no (.yes (.cst (.int 63)))))) (.cons (.cst (.int 0)) (.cons (.cst (.int 0)) .nil)))))) b9q1 := rfl
theorem b9n : b9q1 = .nil := rfl
theorem b9e : b9 = b9q0 := rfl
/-- 10: _law_draw(_law_pen_here, _law_many, _law_at, _law_cell, _law_mixed, _law_digit) -/
def b10 : ISs :=
 (.cons (.ifs (.cmp .GtE (.idx (.var 0) (.cst (.str "left"))) (.var 1))
 (.cons (.asg (.nm 5) (.bin .Mod (.blt .int (.cons (.idx (.var 0) (.cst (.str "left"))) .nil)) (.var 1)))
 (.cons (.sti (.var 0) (.cst (.str "left")) (.bin .FloorDiv (.idx (.var 0) (.cst (.str "left"))) (.var 1)))
 (.cons (.ret (.var 5))
 .nil)))
 .nil)
 (.cons (.asg (.nm 2) (.idx (.var 0) (.cst (.str "at"))))
 (.cons (.sti (.var 0) (.cst (.str "at")) (.bin .Add (.var 2) (.cst (.int 1))))
 (.cons (.asg (.nm 3) (.bin .Add (.bin .Mult (.cst (.int 41)) (.var 2)) (.cst (.int 23))))
 (.cons (.ifs (.cmp .NotEq (.idx (.var 0) (.cst (.str "cells"))) (.fz (.lst .nil)))
 (.cons (.asg (.nm 3) (.idx (.idx (.var 0) (.cst (.str "cells"))) (.bin .Mod (.blt .int (.cons (.var 2) .nil)) (.len (.idx (.var 0) (.cst (.str "cells"))) 4))))
 .nil)
 .nil)
 (.cons (.ifs (.and (.cmp .Lt (.var 2) (.len (.idx (.var 0) (.cst (.str "cells"))) 4)) (.cmp .GtE (.var 3) (.bin .Pow (.cst (.int 10)) (.cst (.int 18)))))
 (.cons (.sti (.var 0) (.cst (.str "left")) (.bin .FloorDiv (.bin .Sub (.var 3) (.bin .Pow (.cst (.int 10)) (.cst (.int 18)))) (.var 1)))
 (.cons (.ret (.bin .Mod (.blt .int (.cons (.bin .Sub (.var 3) (.bin .Pow (.cst (.int 10)) (.cst (.int 18)))) .nil)) (.var 1)))
 .nil))
 .nil)
 (.cons (.asg (.nm 4) (.bin .Add (.bin .Add (.bin .Add (.bin .Mult (.bin .Mod (.blt .int (.cons (.var 3) .nil)) (.cst (.int 2147483587))) (.cst (.int 48271))) (.bin .Mult (.bin .Mult (.cst (.int 40014)) (.var 2)) (.var 2))) (.bin .Mult (.cst (.int 59)) (.var 2))) (.cst (.int 17))))
 (.cons (.asg (.nm 4) (.bin .Mod (.blt .int (.cons (.var 4) .nil)) (.cst (.int 2147483629))))
 (.cons (.asg (.nm 4) (.bin .Mod (.blt .int (.cons (.bin .Mult (.var 4) (.bin .Add (.var 4) (.cst (.int 69621)))) .nil)) (.cst (.int 2147483549))))
 (.cons (.ret (.bin .Mod (.blt .int (.cons (.bin .FloorDiv (.bin .Mod (.blt .int (.cons (.bin .Mult (.var 4) (.var 4)) .nil)) (.cst (.int 2147483579))) (.cst (.int 32))) .nil)) (.var 1)))
 .nil))))))))))
def b10q10 : ISs := .nil
def b10q9 : ISs := .cons (.ret (.bin .Mod (.blt .int (.cons (.bin .FloorDiv (.bin .Mod (.blt .int (.cons (.bin .Mult (.var 4) (.var 4)) .nil)) (.cst (.int 2147483579))) (.cst (.int 32))) .nil)) (.var 1))) b10q10
theorem b10c9 : b10q9 = .cons (.ret (.bin .Mod (.blt .int (.cons (.bin .FloorDiv (.bin .Mod (.blt .int (.cons (.bin .Mult (.var 4) (.var 4)) .nil)) (.cst (.int 2147483579))) (.cst (.int 32))) .nil)) (.var 1))) b10q10 := rfl
def b10q8 : ISs := .cons (.asg (.nm 4) (.bin .Mod (.blt .int (.cons (.bin .Mult (.var 4) (.bin .Add (.var 4) (.cst (.int 69621)))) .nil)) (.cst (.int 2147483549)))) b10q9
theorem b10c8 : b10q8 = .cons (.asg (.nm 4) (.bin .Mod (.blt .int (.cons (.bin .Mult (.var 4) (.bin .Add (.var 4) (.cst (.int 69621)))) .nil)) (.cst (.int 2147483549)))) b10q9 := rfl
def b10q7 : ISs := .cons (.asg (.nm 4) (.bin .Mod (.blt .int (.cons (.var 4) .nil)) (.cst (.int 2147483629)))) b10q8
theorem b10c7 : b10q7 = .cons (.asg (.nm 4) (.bin .Mod (.blt .int (.cons (.var 4) .nil)) (.cst (.int 2147483629)))) b10q8 := rfl
def b10q6 : ISs := .cons (.asg (.nm 4) (.bin .Add (.bin .Add (.bin .Add (.bin .Mult (.bin .Mod (.blt .int (.cons (.var 3) .nil)) (.cst (.int 2147483587))) (.cst (.int 48271))) (.bin .Mult (.bin .Mult (.cst (.int 40014)) (.var 2)) (.var 2))) (.bin .Mult (.cst (.int 59)) (.var 2))) (.cst (.int 17)))) b10q7
theorem b10c6 : b10q6 = .cons (.asg (.nm 4) (.bin .Add (.bin .Add (.bin .Add (.bin .Mult (.bin .Mod (.blt .int (.cons (.var 3) .nil)) (.cst (.int 2147483587))) (.cst (.int 48271))) (.bin .Mult (.bin .Mult (.cst (.int 40014)) (.var 2)) (.var 2))) (.bin .Mult (.cst (.int 59)) (.var 2))) (.cst (.int 17)))) b10q7 := rfl
def b10q5 : ISs := .cons (.ifs (.and (.cmp .Lt (.var 2) (.len (.idx (.var 0) (.cst (.str "cells"))) 4)) (.cmp .GtE (.var 3) (.bin .Pow (.cst (.int 10)) (.cst (.int 18)))))
 (.cons (.sti (.var 0) (.cst (.str "left")) (.bin .FloorDiv (.bin .Sub (.var 3) (.bin .Pow (.cst (.int 10)) (.cst (.int 18)))) (.var 1)))
 (.cons (.ret (.bin .Mod (.blt .int (.cons (.bin .Sub (.var 3) (.bin .Pow (.cst (.int 10)) (.cst (.int 18)))) .nil)) (.var 1)))
 .nil))
 .nil) b10q6
theorem b10c5 : b10q5 = .cons (.ifs (.and (.cmp .Lt (.var 2) (.len (.idx (.var 0) (.cst (.str "cells"))) 4)) (.cmp .GtE (.var 3) (.bin .Pow (.cst (.int 10)) (.cst (.int 18)))))
 (.cons (.sti (.var 0) (.cst (.str "left")) (.bin .FloorDiv (.bin .Sub (.var 3) (.bin .Pow (.cst (.int 10)) (.cst (.int 18)))) (.var 1)))
 (.cons (.ret (.bin .Mod (.blt .int (.cons (.bin .Sub (.var 3) (.bin .Pow (.cst (.int 10)) (.cst (.int 18)))) .nil)) (.var 1)))
 .nil))
 .nil) b10q6 := rfl
def b10q4 : ISs := .cons (.ifs (.cmp .NotEq (.idx (.var 0) (.cst (.str "cells"))) (.fz (.lst .nil)))
 (.cons (.asg (.nm 3) (.idx (.idx (.var 0) (.cst (.str "cells"))) (.bin .Mod (.blt .int (.cons (.var 2) .nil)) (.len (.idx (.var 0) (.cst (.str "cells"))) 4))))
 .nil)
 .nil) b10q5
theorem b10c4 : b10q4 = .cons (.ifs (.cmp .NotEq (.idx (.var 0) (.cst (.str "cells"))) (.fz (.lst .nil)))
 (.cons (.asg (.nm 3) (.idx (.idx (.var 0) (.cst (.str "cells"))) (.bin .Mod (.blt .int (.cons (.var 2) .nil)) (.len (.idx (.var 0) (.cst (.str "cells"))) 4))))
 .nil)
 .nil) b10q5 := rfl
def b10q3 : ISs := .cons (.asg (.nm 3) (.bin .Add (.bin .Mult (.cst (.int 41)) (.var 2)) (.cst (.int 23)))) b10q4
theorem b10c3 : b10q3 = .cons (.asg (.nm 3) (.bin .Add (.bin .Mult (.cst (.int 41)) (.var 2)) (.cst (.int 23)))) b10q4 := rfl
def b10q2 : ISs := .cons (.sti (.var 0) (.cst (.str "at")) (.bin .Add (.var 2) (.cst (.int 1)))) b10q3
theorem b10c2 : b10q2 = .cons (.sti (.var 0) (.cst (.str "at")) (.bin .Add (.var 2) (.cst (.int 1)))) b10q3 := rfl
def b10q1 : ISs := .cons (.asg (.nm 2) (.idx (.var 0) (.cst (.str "at")))) b10q2
theorem b10c1 : b10q1 = .cons (.asg (.nm 2) (.idx (.var 0) (.cst (.str "at")))) b10q2 := rfl
def b10q0 : ISs := .cons (.ifs (.cmp .GtE (.idx (.var 0) (.cst (.str "left"))) (.var 1))
 (.cons (.asg (.nm 5) (.bin .Mod (.blt .int (.cons (.idx (.var 0) (.cst (.str "left"))) .nil)) (.var 1)))
 (.cons (.sti (.var 0) (.cst (.str "left")) (.bin .FloorDiv (.idx (.var 0) (.cst (.str "left"))) (.var 1)))
 (.cons (.ret (.var 5))
 .nil)))
 .nil) b10q1
theorem b10c0 : b10q0 = .cons (.ifs (.cmp .GtE (.idx (.var 0) (.cst (.str "left"))) (.var 1))
 (.cons (.asg (.nm 5) (.bin .Mod (.blt .int (.cons (.idx (.var 0) (.cst (.str "left"))) .nil)) (.var 1)))
 (.cons (.sti (.var 0) (.cst (.str "left")) (.bin .FloorDiv (.idx (.var 0) (.cst (.str "left"))) (.var 1)))
 (.cons (.ret (.var 5))
 .nil)))
 .nil) b10q1 := rfl
theorem b10n : b10q10 = .nil := rfl
theorem b10e : b10 = b10q0 := rfl
/-- 11: _law_pick(_law_pen_here, _law_items) -/
def b11 : ISs :=
 (.cons (.ret (.idx (.var 1) (.call 10 (.cons (.var 0) (.cons (.len (.var 1) 4) .nil)))))
 .nil)
def b11q1 : ISs := .nil
def b11q0 : ISs := .cons (.ret (.idx (.var 1) (.call 10 (.cons (.var 0) (.cons (.len (.var 1) 4) .nil))))) b11q1
theorem b11c0 : b11q0 = .cons (.ret (.idx (.var 1) (.call 10 (.cons (.var 0) (.cons (.len (.var 1) 4) .nil))))) b11q1 := rfl
theorem b11n : b11q1 = .nil := rfl
theorem b11e : b11 = b11q0 := rfl
/-- 12: _law_letters(_law_pen_here, _law_many, _law_turn, _law_left, _law_found, _law_at) -/
def b12 : ISs :=
 (.cons (.asg (.tp (.cons (.nm 3) (.cons (.nm 4) .nil))) (.tup (.cons (.cst (.str "abcdefghijklmnopqrstuvwxyz")) (.cons (.cst (.str "")) .nil))))
 (.cons (.for_ (.nm 2) (.rng (.var 1))
 (.cons (.asg (.nm 5) (.call 10 (.cons (.var 0) (.cons (.len (.var 3) 4) .nil))))
 (.cons (.par 4 3 (.bin .Add (.var 4) (.idx (.var 3) (.var 5))) (.bin .Add (.slc (.var 3) .no (.yes (.var 5))) (.slc (.var 3) (.yes (.bin .Add (.var 5) (.cst (.int 1)))) .no)))
 .nil)))
 (.cons (.ret (.var 4))
 .nil)))
def b12l1q2 : ISs := .nil
def b12l1q1 : ISs := .cons (.par 4 3 (.bin .Add (.var 4) (.idx (.var 3) (.var 5))) (.bin .Add (.slc (.var 3) .no (.yes (.var 5))) (.slc (.var 3) (.yes (.bin .Add (.var 5) (.cst (.int 1)))) .no))) b12l1q2
theorem b12l1c1 : b12l1q1 = .cons (.par 4 3 (.bin .Add (.var 4) (.idx (.var 3) (.var 5))) (.bin .Add (.slc (.var 3) .no (.yes (.var 5))) (.slc (.var 3) (.yes (.bin .Add (.var 5) (.cst (.int 1)))) .no))) b12l1q2 := rfl
def b12l1q0 : ISs := .cons (.asg (.nm 5) (.call 10 (.cons (.var 0) (.cons (.len (.var 3) 4) .nil)))) b12l1q1
theorem b12l1c0 : b12l1q0 = .cons (.asg (.nm 5) (.call 10 (.cons (.var 0) (.cons (.len (.var 3) 4) .nil)))) b12l1q1 := rfl
theorem b12l1n : b12l1q2 = .nil := rfl
def b12q3 : ISs := .nil
def b12q2 : ISs := .cons (.ret (.var 4)) b12q3
theorem b12c2 : b12q2 = .cons (.ret (.var 4)) b12q3 := rfl
def b12q1 : ISs := .cons (.for_ (.nm 2) (.rng (.var 1)) b12l1q0) b12q2
theorem b12c1 : b12q1 = .cons (.for_ (.nm 2) (.rng (.var 1)) b12l1q0) b12q2 := rfl
def b12q0 : ISs := .cons (.asg (.tp (.cons (.nm 3) (.cons (.nm 4) .nil))) (.tup (.cons (.cst (.str "abcdefghijklmnopqrstuvwxyz")) (.cons (.cst (.str "")) .nil)))) b12q1
theorem b12c0 : b12q0 = .cons (.asg (.tp (.cons (.nm 3) (.cons (.nm 4) .nil))) (.tup (.cons (.cst (.str "abcdefghijklmnopqrstuvwxyz")) (.cons (.cst (.str "")) .nil)))) b12q1 := rfl
theorem b12n : b12q3 = .nil := rfl
theorem b12e : b12 = b12q0 := rfl
/-- 13: _law_leaf(_law_pen_here, _law_pool_here, _law_once, _law_at) -/
def b13 : ISs :=
 (.cons (.ifs (.cmp .Eq (.var 1) (.fz (.lst .nil)))
 (.cons (.ret (.tup (.cons (.tup (.cons (.cst (.str "of")) (.cons (.cst (.str "d")) (.cons (.tup .nil) .nil)))) (.cons (.var 1) .nil))))
 .nil)
 .nil)
 (.cons (.asg (.nm 3) (.call 10 (.cons (.var 0) (.cons (.len (.var 1) 4) .nil))))
 (.cons (.ret (.tup (.cons (.idx (.var 1) (.var 3)) (.cons (.ife (.tru (.var 2)) (.bin .Add (.slc (.var 1) .no (.yes (.var 3))) (.slc (.var 1) (.yes (.bin .Add (.var 3) (.cst (.int 1)))) .no)) (.var 1)) .nil))))
 .nil)))
def b13q3 : ISs := .nil
def b13q2 : ISs := .cons (.ret (.tup (.cons (.idx (.var 1) (.var 3)) (.cons (.ife (.tru (.var 2)) (.bin .Add (.slc (.var 1) .no (.yes (.var 3))) (.slc (.var 1) (.yes (.bin .Add (.var 3) (.cst (.int 1)))) .no)) (.var 1)) .nil)))) b13q3
theorem b13c2 : b13q2 = .cons (.ret (.tup (.cons (.idx (.var 1) (.var 3)) (.cons (.ife (.tru (.var 2)) (.bin .Add (.slc (.var 1) .no (.yes (.var 3))) (.slc (.var 1) (.yes (.bin .Add (.var 3) (.cst (.int 1)))) .no)) (.var 1)) .nil)))) b13q3 := rfl
def b13q1 : ISs := .cons (.asg (.nm 3) (.call 10 (.cons (.var 0) (.cons (.len (.var 1) 4) .nil)))) b13q2
theorem b13c1 : b13q1 = .cons (.asg (.nm 3) (.call 10 (.cons (.var 0) (.cons (.len (.var 1) 4) .nil)))) b13q2 := rfl
def b13q0 : ISs := .cons (.ifs (.cmp .Eq (.var 1) (.fz (.lst .nil)))
 (.cons (.ret (.tup (.cons (.tup (.cons (.cst (.str "of")) (.cons (.cst (.str "d")) (.cons (.tup .nil) .nil)))) (.cons (.var 1) .nil))))
 .nil)
 .nil) b13q1
theorem b13c0 : b13q0 = .cons (.ifs (.cmp .Eq (.var 1) (.fz (.lst .nil)))
 (.cons (.ret (.tup (.cons (.tup (.cons (.cst (.str "of")) (.cons (.cst (.str "d")) (.cons (.tup .nil) .nil)))) (.cons (.var 1) .nil))))
 .nil)
 .nil) b13q1 := rfl
theorem b13n : b13q3 = .nil := rfl
theorem b13e : b13 = b13q0 := rfl
/-- 14: _law_target(_law_pen_here, _law_ops, _law_pool_here, _law_deep, _law_once, _law_parts, _law_k, _law_name, _law_arity, _law_part) -/
def b14 : ISs :=
 (.cons (.ifs (.or (.cmp .Eq (.var 3) (.cst (.int 0))) (.cmp .Eq (.call 10 (.cons (.var 0) (.cons (.cst (.int 3)) .nil))) (.cst (.int 0))))
 (.cons (.ret (.call 13 (.cons (.var 0) (.cons (.var 2) (.cons (.var 4) .nil)))))
 .nil)
 .nil)
 (.cons (.asg (.tp (.cons (.nm 7) (.cons (.nm 8) .nil))) (.call 11 (.cons (.var 0) (.cons (.var 1) .nil))))
 (.cons (.asg (.nm 5) (.mk (.lst .nil)))
 (.cons (.for_ (.nm 6) (.rng (.var 8))
 (.cons (.asg (.tp (.cons (.nm 9) (.cons (.nm 2) .nil))) (.call 14 (.cons (.var 0) (.cons (.var 1) (.cons (.var 2) (.cons (.ife (.cmp .Lt (.var 8) (.cst (.int 3))) (.bin .Sub (.var 3) (.cst (.int 1))) (.cst (.int 0))) (.cons (.var 4) .nil)))))))
 (.cons (.mut .append (.var 5) (.var 9))
 .nil)))
 (.cons (.ret (.tup (.cons (.tup (.cons (.cst (.str "of")) (.cons (.var 7) (.cons (.blt .tuple (.cons (.var 5) .nil)) .nil)))) (.cons (.var 2) .nil))))
 .nil)))))
def b14l3q2 : ISs := .nil
def b14l3q1 : ISs := .cons (.mut .append (.var 5) (.var 9)) b14l3q2
theorem b14l3c1 : b14l3q1 = .cons (.mut .append (.var 5) (.var 9)) b14l3q2 := rfl
def b14l3q0 : ISs := .cons (.asg (.tp (.cons (.nm 9) (.cons (.nm 2) .nil))) (.call 14 (.cons (.var 0) (.cons (.var 1) (.cons (.var 2) (.cons (.ife (.cmp .Lt (.var 8) (.cst (.int 3))) (.bin .Sub (.var 3) (.cst (.int 1))) (.cst (.int 0))) (.cons (.var 4) .nil))))))) b14l3q1
theorem b14l3c0 : b14l3q0 = .cons (.asg (.tp (.cons (.nm 9) (.cons (.nm 2) .nil))) (.call 14 (.cons (.var 0) (.cons (.var 1) (.cons (.var 2) (.cons (.ife (.cmp .Lt (.var 8) (.cst (.int 3))) (.bin .Sub (.var 3) (.cst (.int 1))) (.cst (.int 0))) (.cons (.var 4) .nil))))))) b14l3q1 := rfl
theorem b14l3n : b14l3q2 = .nil := rfl
def b14q5 : ISs := .nil
def b14q4 : ISs := .cons (.ret (.tup (.cons (.tup (.cons (.cst (.str "of")) (.cons (.var 7) (.cons (.blt .tuple (.cons (.var 5) .nil)) .nil)))) (.cons (.var 2) .nil)))) b14q5
theorem b14c4 : b14q4 = .cons (.ret (.tup (.cons (.tup (.cons (.cst (.str "of")) (.cons (.var 7) (.cons (.blt .tuple (.cons (.var 5) .nil)) .nil)))) (.cons (.var 2) .nil)))) b14q5 := rfl
def b14q3 : ISs := .cons (.for_ (.nm 6) (.rng (.var 8)) b14l3q0) b14q4
theorem b14c3 : b14q3 = .cons (.for_ (.nm 6) (.rng (.var 8)) b14l3q0) b14q4 := rfl
def b14q2 : ISs := .cons (.asg (.nm 5) (.mk (.lst .nil))) b14q3
theorem b14c2 : b14q2 = .cons (.asg (.nm 5) (.mk (.lst .nil))) b14q3 := rfl
def b14q1 : ISs := .cons (.asg (.tp (.cons (.nm 7) (.cons (.nm 8) .nil))) (.call 11 (.cons (.var 0) (.cons (.var 1) .nil)))) b14q2
theorem b14c1 : b14q1 = .cons (.asg (.tp (.cons (.nm 7) (.cons (.nm 8) .nil))) (.call 11 (.cons (.var 0) (.cons (.var 1) .nil)))) b14q2 := rfl
def b14q0 : ISs := .cons (.ifs (.or (.cmp .Eq (.var 3) (.cst (.int 0))) (.cmp .Eq (.call 10 (.cons (.var 0) (.cons (.cst (.int 3)) .nil))) (.cst (.int 0))))
 (.cons (.ret (.call 13 (.cons (.var 0) (.cons (.var 2) (.cons (.var 4) .nil)))))
 .nil)
 .nil) b14q1
theorem b14c0 : b14q0 = .cons (.ifs (.or (.cmp .Eq (.var 3) (.cst (.int 0))) (.cmp .Eq (.call 10 (.cons (.var 0) (.cons (.cst (.int 3)) .nil))) (.cst (.int 0))))
 (.cons (.ret (.call 13 (.cons (.var 0) (.cons (.var 2) (.cons (.var 4) .nil)))))
 .nil)
 .nil) b14q1 := rfl
theorem b14n : b14q5 = .nil := rfl
theorem b14e : b14 = b14q0 := rfl
/-- 15: _law_looks(_law_pen_here, _law_arity, _law_letters_here, _law_shape, _law_index, _law_looks_here, _law_names, _law_k, _law_letter) -/
def b15 : ISs :=
 (.cons (.par 5 6 (.mk (.lst .nil)) (.cst (.str "tuvwyz")))
 (.cons (.for_ (.nm 4) (.rng (.var 1))
 (.cons (.for_ (.nm 7) (.rng (.call 10 (.cons (.var 0) (.cons (.ife (.cmp .Eq (.var 3) (.cst (.str "plain"))) (.cst (.int 2)) (.cst (.int 3))) .nil))))
 (.cons (.asg (.nm 8) (.call 11 (.cons (.var 0) (.cons (.var 2) .nil))))
 (.cons (.ifs (.and (.cmp .In (.var 3) (.fz (.lst (.cons (.cst (.str "looks")) (.cons (.cst (.str "all")) .nil))))) (.cmp .Eq (.call 10 (.cons (.var 0) (.cons (.cst (.int 3)) .nil))) (.cst (.int 0))))
 (.cons (.mut .append (.var 5) (.tup (.cons (.cst (.str "cannot")) (.cons (.var 4) (.cons (.var 8) .nil)))))
 .nil)
 (.cons (.mut .append (.var 5) (.tup (.cons (.cst (.str "does")) (.cons (.var 4) (.cons (.var 8) (.cons (.idx (.var 6) (.len (.var 5) 4)) .nil))))))
 .nil))
 .nil)))
 .nil))
 (.cons (.ret (.slc (.var 5) .no (.yes (.cst (.int 4)))))
 .nil)))
def b15l1l0q2 : ISs := .nil
def b15l1l0q1 : ISs := .cons (.ifs (.and (.cmp .In (.var 3) (.fz (.lst (.cons (.cst (.str "looks")) (.cons (.cst (.str "all")) .nil))))) (.cmp .Eq (.call 10 (.cons (.var 0) (.cons (.cst (.int 3)) .nil))) (.cst (.int 0))))
 (.cons (.mut .append (.var 5) (.tup (.cons (.cst (.str "cannot")) (.cons (.var 4) (.cons (.var 8) .nil)))))
 .nil)
 (.cons (.mut .append (.var 5) (.tup (.cons (.cst (.str "does")) (.cons (.var 4) (.cons (.var 8) (.cons (.idx (.var 6) (.len (.var 5) 4)) .nil))))))
 .nil)) b15l1l0q2
theorem b15l1l0c1 : b15l1l0q1 = .cons (.ifs (.and (.cmp .In (.var 3) (.fz (.lst (.cons (.cst (.str "looks")) (.cons (.cst (.str "all")) .nil))))) (.cmp .Eq (.call 10 (.cons (.var 0) (.cons (.cst (.int 3)) .nil))) (.cst (.int 0))))
 (.cons (.mut .append (.var 5) (.tup (.cons (.cst (.str "cannot")) (.cons (.var 4) (.cons (.var 8) .nil)))))
 .nil)
 (.cons (.mut .append (.var 5) (.tup (.cons (.cst (.str "does")) (.cons (.var 4) (.cons (.var 8) (.cons (.idx (.var 6) (.len (.var 5) 4)) .nil))))))
 .nil)) b15l1l0q2 := rfl
def b15l1l0q0 : ISs := .cons (.asg (.nm 8) (.call 11 (.cons (.var 0) (.cons (.var 2) .nil)))) b15l1l0q1
theorem b15l1l0c0 : b15l1l0q0 = .cons (.asg (.nm 8) (.call 11 (.cons (.var 0) (.cons (.var 2) .nil)))) b15l1l0q1 := rfl
theorem b15l1l0n : b15l1l0q2 = .nil := rfl
def b15l1q1 : ISs := .nil
def b15l1q0 : ISs := .cons (.for_ (.nm 7) (.rng (.call 10 (.cons (.var 0) (.cons (.ife (.cmp .Eq (.var 3) (.cst (.str "plain"))) (.cst (.int 2)) (.cst (.int 3))) .nil)))) b15l1l0q0) b15l1q1
theorem b15l1c0 : b15l1q0 = .cons (.for_ (.nm 7) (.rng (.call 10 (.cons (.var 0) (.cons (.ife (.cmp .Eq (.var 3) (.cst (.str "plain"))) (.cst (.int 2)) (.cst (.int 3))) .nil)))) b15l1l0q0) b15l1q1 := rfl
theorem b15l1n : b15l1q1 = .nil := rfl
def b15q3 : ISs := .nil
def b15q2 : ISs := .cons (.ret (.slc (.var 5) .no (.yes (.cst (.int 4))))) b15q3
theorem b15c2 : b15q2 = .cons (.ret (.slc (.var 5) .no (.yes (.cst (.int 4))))) b15q3 := rfl
def b15q1 : ISs := .cons (.for_ (.nm 4) (.rng (.var 1)) b15l1q0) b15q2
theorem b15c1 : b15q1 = .cons (.for_ (.nm 4) (.rng (.var 1)) b15l1q0) b15q2 := rfl
def b15q0 : ISs := .cons (.par 5 6 (.mk (.lst .nil)) (.cst (.str "tuvwyz"))) b15q1
theorem b15c0 : b15q0 = .cons (.par 5 6 (.mk (.lst .nil)) (.cst (.str "tuvwyz"))) b15q1 := rfl
theorem b15n : b15q3 = .nil := rfl
theorem b15e : b15 = b15q0 := rfl
/-- 16: _law_pool(_law_pen_here, _law_arity, _law_looks_here, _law_shape, _law_found, _law_index, _law_does, _law_gots, _law_every, _law_look) -/
def b16 : ISs :=
 (.cons (.asg (.nm 4) (.mk (.lst .nil)))
 (.cons (.for_ (.nm 5) (.rng (.var 1))
 (.cons (.asg (.nm 6) (.fz (.cmp (.var 9) (.nm 9) (.seq (.var 2)) (.yes (.and (.cmp .Eq (.idx (.var 9) (.cst (.int 0))) (.cst (.str "does"))) (.cmp .Eq (.idx (.var 9) (.cst (.int 1))) (.var 5)))) [9])))
 (.cons (.asg (.nm 7) (.fz (.cmp (.tup (.cons (.cst (.str "got")) (.cons (.idx (.var 9) (.cst (.int 3))) .nil))) (.nm 9) (.seq (.var 6)) .no [9])))
 (.cons (.asg (.nm 8) (.ife (.and (.cmp .Eq (.var 3) (.cst (.str "plain"))) (.cmp .NotEq (.var 7) (.fz (.lst .nil)))) (.var 7) (.bin .Add (.var 7) (.fz (.lst (.cons (.tup (.cons (.cst (.str "arg")) (.cons (.var 5) .nil))) .nil))))))
 (.cons (.ifs (.cmp .In (.var 3) (.fz (.lst (.cons (.cst (.str "copies")) (.cons (.cst (.str "all")) .nil)))))
 (.cons (.asg (.nm 4) (.bin .Add (.var 4) (.var 8)))
 .nil)
 (.cons (.ifs (.cmp .Gt (.call 10 (.cons (.var 0) (.cons (.cst (.int 5)) .nil))) (.cst (.int 0)))
 (.cons (.mut .append (.var 4) (.call 11 (.cons (.var 0) (.cons (.var 8) .nil))))
 .nil)
 .nil)
 .nil))
 .nil)))))
 (.cons (.ret (.frz (.var 4)))
 .nil)))
def b16l1q4 : ISs := .nil
def b16l1q3 : ISs := .cons (.ifs (.cmp .In (.var 3) (.fz (.lst (.cons (.cst (.str "copies")) (.cons (.cst (.str "all")) .nil)))))
 (.cons (.asg (.nm 4) (.bin .Add (.var 4) (.var 8)))
 .nil)
 (.cons (.ifs (.cmp .Gt (.call 10 (.cons (.var 0) (.cons (.cst (.int 5)) .nil))) (.cst (.int 0)))
 (.cons (.mut .append (.var 4) (.call 11 (.cons (.var 0) (.cons (.var 8) .nil))))
 .nil)
 .nil)
 .nil)) b16l1q4
theorem b16l1c3 : b16l1q3 = .cons (.ifs (.cmp .In (.var 3) (.fz (.lst (.cons (.cst (.str "copies")) (.cons (.cst (.str "all")) .nil)))))
 (.cons (.asg (.nm 4) (.bin .Add (.var 4) (.var 8)))
 .nil)
 (.cons (.ifs (.cmp .Gt (.call 10 (.cons (.var 0) (.cons (.cst (.int 5)) .nil))) (.cst (.int 0)))
 (.cons (.mut .append (.var 4) (.call 11 (.cons (.var 0) (.cons (.var 8) .nil))))
 .nil)
 .nil)
 .nil)) b16l1q4 := rfl
def b16l1q2 : ISs := .cons (.asg (.nm 8) (.ife (.and (.cmp .Eq (.var 3) (.cst (.str "plain"))) (.cmp .NotEq (.var 7) (.fz (.lst .nil)))) (.var 7) (.bin .Add (.var 7) (.fz (.lst (.cons (.tup (.cons (.cst (.str "arg")) (.cons (.var 5) .nil))) .nil)))))) b16l1q3
theorem b16l1c2 : b16l1q2 = .cons (.asg (.nm 8) (.ife (.and (.cmp .Eq (.var 3) (.cst (.str "plain"))) (.cmp .NotEq (.var 7) (.fz (.lst .nil)))) (.var 7) (.bin .Add (.var 7) (.fz (.lst (.cons (.tup (.cons (.cst (.str "arg")) (.cons (.var 5) .nil))) .nil)))))) b16l1q3 := rfl
def b16l1q1 : ISs := .cons (.asg (.nm 7) (.fz (.cmp (.tup (.cons (.cst (.str "got")) (.cons (.idx (.var 9) (.cst (.int 3))) .nil))) (.nm 9) (.seq (.var 6)) .no [9]))) b16l1q2
theorem b16l1c1 : b16l1q1 = .cons (.asg (.nm 7) (.fz (.cmp (.tup (.cons (.cst (.str "got")) (.cons (.idx (.var 9) (.cst (.int 3))) .nil))) (.nm 9) (.seq (.var 6)) .no [9]))) b16l1q2 := rfl
def b16l1q0 : ISs := .cons (.asg (.nm 6) (.fz (.cmp (.var 9) (.nm 9) (.seq (.var 2)) (.yes (.and (.cmp .Eq (.idx (.var 9) (.cst (.int 0))) (.cst (.str "does"))) (.cmp .Eq (.idx (.var 9) (.cst (.int 1))) (.var 5)))) [9]))) b16l1q1
theorem b16l1c0 : b16l1q0 = .cons (.asg (.nm 6) (.fz (.cmp (.var 9) (.nm 9) (.seq (.var 2)) (.yes (.and (.cmp .Eq (.idx (.var 9) (.cst (.int 0))) (.cst (.str "does"))) (.cmp .Eq (.idx (.var 9) (.cst (.int 1))) (.var 5)))) [9]))) b16l1q1 := rfl
theorem b16l1n : b16l1q4 = .nil := rfl
def b16q3 : ISs := .nil
def b16q2 : ISs := .cons (.ret (.frz (.var 4))) b16q3
theorem b16c2 : b16q2 = .cons (.ret (.frz (.var 4))) b16q3 := rfl
def b16q1 : ISs := .cons (.for_ (.nm 5) (.rng (.var 1)) b16l1q0) b16q2
theorem b16c1 : b16q1 = .cons (.for_ (.nm 5) (.rng (.var 1)) b16l1q0) b16q2 := rfl
def b16q0 : ISs := .cons (.asg (.nm 4) (.mk (.lst .nil))) b16q1
theorem b16c0 : b16q0 = .cons (.asg (.nm 4) (.mk (.lst .nil))) b16q1 := rfl
theorem b16n : b16q3 = .nil := rfl
theorem b16e : b16 = b16q0 := rfl
/-- 17: _law_rule(_law_pen_here, _law_ops, _law_op, _law_letters_here, _law_shape, _law_looks_here, _law_pool_here, _law_target_here) -/
def b17 : ISs :=
 (.cons (.asg (.nm 5) (.call 15 (.cons (.var 0) (.cons (.idx (.var 2) (.cst (.int 1))) (.cons (.var 3) (.cons (.var 4) .nil))))))
 (.cons (.asg (.nm 6) (.call 16 (.cons (.var 0) (.cons (.idx (.var 2) (.cst (.int 1))) (.cons (.var 5) (.cons (.var 4) .nil))))))
 (.cons (.asg (.nm 7) (.idx (.call 14 (.cons (.var 0) (.cons (.var 1) (.cons (.var 6) (.cons (.cst (.int 2)) (.cons (.cmp .NotIn (.var 4) (.fz (.lst (.cons (.cst (.str "copies")) (.cons (.cst (.str "all")) .nil))))) .nil)))))) (.cst (.int 0))))
 (.cons (.ret (.tup (.cons (.idx (.var 2) (.cst (.int 0))) (.cons (.var 5) (.cons (.call 11 (.cons (.var 0) (.cons (.var 3) .nil))) (.cons (.var 7) .nil))))))
 .nil))))
def b17q4 : ISs := .nil
def b17q3 : ISs := .cons (.ret (.tup (.cons (.idx (.var 2) (.cst (.int 0))) (.cons (.var 5) (.cons (.call 11 (.cons (.var 0) (.cons (.var 3) .nil))) (.cons (.var 7) .nil)))))) b17q4
theorem b17c3 : b17q3 = .cons (.ret (.tup (.cons (.idx (.var 2) (.cst (.int 0))) (.cons (.var 5) (.cons (.call 11 (.cons (.var 0) (.cons (.var 3) .nil))) (.cons (.var 7) .nil)))))) b17q4 := rfl
def b17q2 : ISs := .cons (.asg (.nm 7) (.idx (.call 14 (.cons (.var 0) (.cons (.var 1) (.cons (.var 6) (.cons (.cst (.int 2)) (.cons (.cmp .NotIn (.var 4) (.fz (.lst (.cons (.cst (.str "copies")) (.cons (.cst (.str "all")) .nil))))) .nil)))))) (.cst (.int 0)))) b17q3
theorem b17c2 : b17q2 = .cons (.asg (.nm 7) (.idx (.call 14 (.cons (.var 0) (.cons (.var 1) (.cons (.var 6) (.cons (.cst (.int 2)) (.cons (.cmp .NotIn (.var 4) (.fz (.lst (.cons (.cst (.str "copies")) (.cons (.cst (.str "all")) .nil))))) .nil)))))) (.cst (.int 0)))) b17q3 := rfl
def b17q1 : ISs := .cons (.asg (.nm 6) (.call 16 (.cons (.var 0) (.cons (.idx (.var 2) (.cst (.int 1))) (.cons (.var 5) (.cons (.var 4) .nil)))))) b17q2
theorem b17c1 : b17q1 = .cons (.asg (.nm 6) (.call 16 (.cons (.var 0) (.cons (.idx (.var 2) (.cst (.int 1))) (.cons (.var 5) (.cons (.var 4) .nil)))))) b17q2 := rfl
def b17q0 : ISs := .cons (.asg (.nm 5) (.call 15 (.cons (.var 0) (.cons (.idx (.var 2) (.cst (.int 1))) (.cons (.var 3) (.cons (.var 4) .nil)))))) b17q1
theorem b17c0 : b17q0 = .cons (.asg (.nm 5) (.call 15 (.cons (.var 0) (.cons (.idx (.var 2) (.cst (.int 1))) (.cons (.var 3) (.cons (.var 4) .nil)))))) b17q1 := rfl
theorem b17n : b17q4 = .nil := rfl
theorem b17e : b17 = b17q0 := rfl
/-- 18: _law_book(_law_pen_here, _law_letters_here, _law_shape, _law_most, _law_ops, _law_name, _law_rules, _law_k) -/
def b18 : ISs :=
 (.cons (.asg (.nm 4) (.mk (.lst (.cons (.tup (.cons (.cst (.str "d")) (.cons (.cst (.int 0)) .nil))) .nil))))
 (.cons (.for_ (.nm 5) (.seq (.slc (.cst (.str "fgh")) .no (.yes (.bin .Add (.cst (.int 1)) (.call 10 (.cons (.var 0) (.cons (.cst (.int 3)) .nil)))))))
 (.cons (.mut .append (.var 4) (.tup (.cons (.var 5) (.cons (.call 11 (.cons (.var 0) (.cons (.fz (.lst (.cons (.cst (.int 1)) (.cons (.cst (.int 1)) (.cons (.cst (.int 2)) (.cons (.cst (.int 3)) .nil)))))) .nil))) .nil))))
 .nil))
 (.cons (.asg (.nm 6) (.mk (.lst .nil)))
 (.cons (.for_ (.nm 7) (.rng (.bin .Add (.cst (.int 1)) (.call 10 (.cons (.var 0) (.cons (.var 3) .nil)))))
 (.cons (.mut .append (.var 6) (.call 17 (.cons (.var 0) (.cons (.var 4) (.cons (.call 11 (.cons (.var 0) (.cons (.var 4) .nil))) (.cons (.var 1) (.cons (.var 2) .nil)))))))
 .nil))
 (.cons (.ret (.tup (.cons (.frz (.var 4)) (.cons (.frz (.var 6)) .nil))))
 .nil)))))
def b18l1q1 : ISs := .nil
def b18l1q0 : ISs := .cons (.mut .append (.var 4) (.tup (.cons (.var 5) (.cons (.call 11 (.cons (.var 0) (.cons (.fz (.lst (.cons (.cst (.int 1)) (.cons (.cst (.int 1)) (.cons (.cst (.int 2)) (.cons (.cst (.int 3)) .nil)))))) .nil))) .nil)))) b18l1q1
theorem b18l1c0 : b18l1q0 = .cons (.mut .append (.var 4) (.tup (.cons (.var 5) (.cons (.call 11 (.cons (.var 0) (.cons (.fz (.lst (.cons (.cst (.int 1)) (.cons (.cst (.int 1)) (.cons (.cst (.int 2)) (.cons (.cst (.int 3)) .nil)))))) .nil))) .nil)))) b18l1q1 := rfl
theorem b18l1n : b18l1q1 = .nil := rfl
def b18l3q1 : ISs := .nil
def b18l3q0 : ISs := .cons (.mut .append (.var 6) (.call 17 (.cons (.var 0) (.cons (.var 4) (.cons (.call 11 (.cons (.var 0) (.cons (.var 4) .nil))) (.cons (.var 1) (.cons (.var 2) .nil))))))) b18l3q1
theorem b18l3c0 : b18l3q0 = .cons (.mut .append (.var 6) (.call 17 (.cons (.var 0) (.cons (.var 4) (.cons (.call 11 (.cons (.var 0) (.cons (.var 4) .nil))) (.cons (.var 1) (.cons (.var 2) .nil))))))) b18l3q1 := rfl
theorem b18l3n : b18l3q1 = .nil := rfl
def b18q5 : ISs := .nil
def b18q4 : ISs := .cons (.ret (.tup (.cons (.frz (.var 4)) (.cons (.frz (.var 6)) .nil)))) b18q5
theorem b18c4 : b18q4 = .cons (.ret (.tup (.cons (.frz (.var 4)) (.cons (.frz (.var 6)) .nil)))) b18q5 := rfl
def b18q3 : ISs := .cons (.for_ (.nm 7) (.rng (.bin .Add (.cst (.int 1)) (.call 10 (.cons (.var 0) (.cons (.var 3) .nil))))) b18l3q0) b18q4
theorem b18c3 : b18q3 = .cons (.for_ (.nm 7) (.rng (.bin .Add (.cst (.int 1)) (.call 10 (.cons (.var 0) (.cons (.var 3) .nil))))) b18l3q0) b18q4 := rfl
def b18q2 : ISs := .cons (.asg (.nm 6) (.mk (.lst .nil))) b18q3
theorem b18c2 : b18q2 = .cons (.asg (.nm 6) (.mk (.lst .nil))) b18q3 := rfl
def b18q1 : ISs := .cons (.for_ (.nm 5) (.seq (.slc (.cst (.str "fgh")) .no (.yes (.bin .Add (.cst (.int 1)) (.call 10 (.cons (.var 0) (.cons (.cst (.int 3)) .nil))))))) b18l1q0) b18q2
theorem b18c1 : b18q1 = .cons (.for_ (.nm 5) (.seq (.slc (.cst (.str "fgh")) .no (.yes (.bin .Add (.cst (.int 1)) (.call 10 (.cons (.var 0) (.cons (.cst (.int 3)) .nil))))))) b18l1q0) b18q2 := rfl
def b18q0 : ISs := .cons (.asg (.nm 4) (.mk (.lst (.cons (.tup (.cons (.cst (.str "d")) (.cons (.cst (.int 0)) .nil))) .nil)))) b18q1
theorem b18c0 : b18q0 = .cons (.asg (.nm 4) (.mk (.lst (.cons (.tup (.cons (.cst (.str "d")) (.cons (.cst (.int 0)) .nil))) .nil)))) b18q1 := rfl
theorem b18n : b18q5 = .nil := rfl
theorem b18e : b18 = b18q0 := rfl
/-- 19: _law_made_term(_law_term, _law_part) -/
def b19 : ISs :=
 (.cons (.ifs (.cmp .Eq (.idx (.var 0) (.cst (.int 0))) (.cst (.str "of")))
 (.cons (.ret (.new 4 (.cons (.idx (.var 0) (.cst (.int 1))) (.cons (.fz (.cmp (.call 19 (.cons (.var 1) .nil)) (.nm 1) (.seq (.idx (.var 0) (.cst (.int 2)))) .no [1])) .nil))))
 .nil)
 .nil)
 (.cons (.ifs (.cmp .Eq (.idx (.var 0) (.cst (.int 0))) (.cst (.str "at")))
 (.cons (.ret (.new 1 (.cons (.idx (.var 0) (.cst (.int 1))) .nil)))
 .nil)
 .nil)
 (.cons (.ret (.ife (.cmp .Eq (.idx (.var 0) (.cst (.int 0))) (.cst (.str "arg"))) (.new 2 (.cons (.idx (.var 0) (.cst (.int 1))) .nil)) (.new 3 (.cons (.idx (.var 0) (.cst (.int 1))) .nil))))
 .nil)))
def b19q3 : ISs := .nil
def b19q2 : ISs := .cons (.ret (.ife (.cmp .Eq (.idx (.var 0) (.cst (.int 0))) (.cst (.str "arg"))) (.new 2 (.cons (.idx (.var 0) (.cst (.int 1))) .nil)) (.new 3 (.cons (.idx (.var 0) (.cst (.int 1))) .nil)))) b19q3
theorem b19c2 : b19q2 = .cons (.ret (.ife (.cmp .Eq (.idx (.var 0) (.cst (.int 0))) (.cst (.str "arg"))) (.new 2 (.cons (.idx (.var 0) (.cst (.int 1))) .nil)) (.new 3 (.cons (.idx (.var 0) (.cst (.int 1))) .nil)))) b19q3 := rfl
def b19q1 : ISs := .cons (.ifs (.cmp .Eq (.idx (.var 0) (.cst (.int 0))) (.cst (.str "at")))
 (.cons (.ret (.new 1 (.cons (.idx (.var 0) (.cst (.int 1))) .nil)))
 .nil)
 .nil) b19q2
theorem b19c1 : b19q1 = .cons (.ifs (.cmp .Eq (.idx (.var 0) (.cst (.int 0))) (.cst (.str "at")))
 (.cons (.ret (.new 1 (.cons (.idx (.var 0) (.cst (.int 1))) .nil)))
 .nil)
 .nil) b19q2 := rfl
def b19q0 : ISs := .cons (.ifs (.cmp .Eq (.idx (.var 0) (.cst (.int 0))) (.cst (.str "of")))
 (.cons (.ret (.new 4 (.cons (.idx (.var 0) (.cst (.int 1))) (.cons (.fz (.cmp (.call 19 (.cons (.var 1) .nil)) (.nm 1) (.seq (.idx (.var 0) (.cst (.int 2)))) .no [1])) .nil))))
 .nil)
 .nil) b19q1
theorem b19c0 : b19q0 = .cons (.ifs (.cmp .Eq (.idx (.var 0) (.cst (.int 0))) (.cst (.str "of")))
 (.cons (.ret (.new 4 (.cons (.idx (.var 0) (.cst (.int 1))) (.cons (.fz (.cmp (.call 19 (.cons (.var 1) .nil)) (.nm 1) (.seq (.idx (.var 0) (.cst (.int 2)))) .no [1])) .nil))))
 .nil)
 .nil) b19q1 := rfl
theorem b19n : b19q3 = .nil := rfl
theorem b19e : b19 = b19q0 := rfl
/-- 20: _law_made_rule(_law_rule_here, _law_looks_here, _law_look) -/
def b20 : ISs :=
 (.cons (.asg (.nm 1) (.mk (.lst .nil)))
 (.cons (.for_ (.nm 2) (.seq (.idx (.var 0) (.cst (.int 1))))
 (.cons (.ifs (.cmp .Eq (.idx (.var 2) (.cst (.int 0))) (.cst (.str "does")))
 (.cons (.mut .append (.var 1) (.new 5 (.cons (.idx (.var 2) (.cst (.int 1))) (.cons (.idx (.var 2) (.cst (.int 2))) (.cons (.idx (.var 2) (.cst (.int 3))) .nil)))))
 .nil)
 (.cons (.mut .append (.var 1) (.new 6 (.cons (.idx (.var 2) (.cst (.int 1))) (.cons (.idx (.var 2) (.cst (.int 2))) .nil))))
 .nil))
 .nil))
 (.cons (.ret (.new 7 (.cons (.idx (.var 0) (.cst (.int 0))) (.cons (.var 1) (.cons (.idx (.var 0) (.cst (.int 2))) (.cons (.call 19 (.cons (.idx (.var 0) (.cst (.int 3))) .nil)) .nil))))))
 .nil)))
def b20l1q1 : ISs := .nil
def b20l1q0 : ISs := .cons (.ifs (.cmp .Eq (.idx (.var 2) (.cst (.int 0))) (.cst (.str "does")))
 (.cons (.mut .append (.var 1) (.new 5 (.cons (.idx (.var 2) (.cst (.int 1))) (.cons (.idx (.var 2) (.cst (.int 2))) (.cons (.idx (.var 2) (.cst (.int 3))) .nil)))))
 .nil)
 (.cons (.mut .append (.var 1) (.new 6 (.cons (.idx (.var 2) (.cst (.int 1))) (.cons (.idx (.var 2) (.cst (.int 2))) .nil))))
 .nil)) b20l1q1
theorem b20l1c0 : b20l1q0 = .cons (.ifs (.cmp .Eq (.idx (.var 2) (.cst (.int 0))) (.cst (.str "does")))
 (.cons (.mut .append (.var 1) (.new 5 (.cons (.idx (.var 2) (.cst (.int 1))) (.cons (.idx (.var 2) (.cst (.int 2))) (.cons (.idx (.var 2) (.cst (.int 3))) .nil)))))
 .nil)
 (.cons (.mut .append (.var 1) (.new 6 (.cons (.idx (.var 2) (.cst (.int 1))) (.cons (.idx (.var 2) (.cst (.int 2))) .nil))))
 .nil)) b20l1q1 := rfl
theorem b20l1n : b20l1q1 = .nil := rfl
def b20q3 : ISs := .nil
def b20q2 : ISs := .cons (.ret (.new 7 (.cons (.idx (.var 0) (.cst (.int 0))) (.cons (.var 1) (.cons (.idx (.var 0) (.cst (.int 2))) (.cons (.call 19 (.cons (.idx (.var 0) (.cst (.int 3))) .nil)) .nil)))))) b20q3
theorem b20c2 : b20q2 = .cons (.ret (.new 7 (.cons (.idx (.var 0) (.cst (.int 0))) (.cons (.var 1) (.cons (.idx (.var 0) (.cst (.int 2))) (.cons (.call 19 (.cons (.idx (.var 0) (.cst (.int 3))) .nil)) .nil)))))) b20q3 := rfl
def b20q1 : ISs := .cons (.for_ (.nm 2) (.seq (.idx (.var 0) (.cst (.int 1)))) b20l1q0) b20q2
theorem b20c1 : b20q1 = .cons (.for_ (.nm 2) (.seq (.idx (.var 0) (.cst (.int 1)))) b20l1q0) b20q2 := rfl
def b20q0 : ISs := .cons (.asg (.nm 1) (.mk (.lst .nil))) b20q1
theorem b20c0 : b20q0 = .cons (.asg (.nm 1) (.mk (.lst .nil))) b20q1 := rfl
theorem b20n : b20q3 = .nil := rfl
theorem b20e : b20 = b20q0 := rfl
/-- 21: _law_made_book(_law_book_here, _law_rule_here) -/
def b21 : ISs :=
 (.cons (.ret (.new 8 (.cons (.fz (.dtp (.idx (.var 0) (.cst (.int 0))))) (.cons (.fz (.cmp (.call 20 (.cons (.var 1) .nil)) (.nm 1) (.seq (.idx (.var 0) (.cst (.int 1)))) .no [1])) .nil))))
 .nil)
def b21q1 : ISs := .nil
def b21q0 : ISs := .cons (.ret (.new 8 (.cons (.fz (.dtp (.idx (.var 0) (.cst (.int 0))))) (.cons (.fz (.cmp (.call 20 (.cons (.var 1) .nil)) (.nm 1) (.seq (.idx (.var 0) (.cst (.int 1)))) .no [1])) .nil)))) b21q1
theorem b21c0 : b21q0 = .cons (.ret (.new 8 (.cons (.fz (.dtp (.idx (.var 0) (.cst (.int 0))))) (.cons (.fz (.cmp (.call 20 (.cons (.var 1) .nil)) (.nm 1) (.seq (.idx (.var 0) (.cst (.int 1)))) .no [1])) .nil)))) b21q1 := rfl
theorem b21n : b21q1 = .nil := rfl
theorem b21e : b21 = b21q0 := rfl
/-- 22: _law_leaves(_law_target_here, _law_found, _law_part) -/
def b22 : ISs :=
 (.cons (.ifs (.cmp .NotEq (.idx (.var 0) (.cst (.int 0))) (.cst (.str "of")))
 (.cons (.ret (.fz (.lst (.cons (.var 0) .nil))))
 .nil)
 .nil)
 (.cons (.asg (.nm 1) (.fz (.lst .nil)))
 (.cons (.for_ (.nm 2) (.seq (.idx (.var 0) (.cst (.int 2))))
 (.cons (.asg (.nm 1) (.bin .Add (.var 1) (.call 22 (.cons (.var 2) .nil))))
 .nil))
 (.cons (.ret (.var 1))
 .nil))))
def b22l2q1 : ISs := .nil
def b22l2q0 : ISs := .cons (.asg (.nm 1) (.bin .Add (.var 1) (.call 22 (.cons (.var 2) .nil)))) b22l2q1
theorem b22l2c0 : b22l2q0 = .cons (.asg (.nm 1) (.bin .Add (.var 1) (.call 22 (.cons (.var 2) .nil)))) b22l2q1 := rfl
theorem b22l2n : b22l2q1 = .nil := rfl
def b22q4 : ISs := .nil
def b22q3 : ISs := .cons (.ret (.var 1)) b22q4
theorem b22c3 : b22q3 = .cons (.ret (.var 1)) b22q4 := rfl
def b22q2 : ISs := .cons (.for_ (.nm 2) (.seq (.idx (.var 0) (.cst (.int 2)))) b22l2q0) b22q3
theorem b22c2 : b22q2 = .cons (.for_ (.nm 2) (.seq (.idx (.var 0) (.cst (.int 2)))) b22l2q0) b22q3 := rfl
def b22q1 : ISs := .cons (.asg (.nm 1) (.fz (.lst .nil))) b22q2
theorem b22c1 : b22q1 = .cons (.asg (.nm 1) (.fz (.lst .nil))) b22q2 := rfl
def b22q0 : ISs := .cons (.ifs (.cmp .NotEq (.idx (.var 0) (.cst (.int 0))) (.cst (.str "of")))
 (.cons (.ret (.fz (.lst (.cons (.var 0) .nil))))
 .nil)
 .nil) b22q1
theorem b22c0 : b22q0 = .cons (.ifs (.cmp .NotEq (.idx (.var 0) (.cst (.int 0))) (.cst (.str "of")))
 (.cons (.ret (.fz (.lst (.cons (.var 0) .nil))))
 .nil)
 .nil) b22q1 := rfl
theorem b22n : b22q4 = .nil := rfl
theorem b22e : b22 = b22q0 := rfl
/-- 23: _law_shapes(_law_rule_here, _law_index, _law_found, _law_looks_here, _law_leaves_here, _law_cannots, _law_straight, _law_plain, _law_gots, _law_own, _law_look, _law_leaf_here) -/
def b23 : ISs :=
 (.cons (.par 3 4 (.idx (.var 0) (.cst (.int 1))) (.call 22 (.cons (.idx (.var 0) (.cst (.int 3))) .nil)))
 (.cons (.pr3 5 6 7 (.fz (.cmp (.var 10) (.nm 10) (.seq (.var 3)) (.yes (.cmp .Eq (.idx (.var 10) (.cst (.int 0))) (.cst (.str "cannot")))) [10])) (.cst (.bl true)) (.cst (.bl true)))
 (.cons (.for_ (.nm 1) (.rng (.cst (.int 3)))
 (.cons (.asg (.nm 8) (.fz (.cmp (.idx (.var 10) (.cst (.int 3))) (.nm 10) (.seq (.var 3)) (.yes (.and (.cmp .Eq (.idx (.var 10) (.cst (.int 0))) (.cst (.str "does"))) (.cmp .Eq (.idx (.var 10) (.cst (.int 1))) (.var 1)))) [10])))
 (.cons (.asg (.nm 9) (.fz (.cmp (.var 11) (.nm 11) (.seq (.var 4)) (.yes (.or (.cmp .Eq (.var 11) (.tup (.cons (.cst (.str "arg")) (.cons (.var 1) .nil)))) (.and (.cmp .Eq (.idx (.var 11) (.cst (.int 0))) (.cst (.str "got"))) (.cmp .In (.idx (.var 11) (.cst (.int 1))) (.var 8))))) [11])))
 (.cons (.asg (.nm 6) (.and (.var 6) (.cmp .Lt (.len (.var 9) 4) (.cst (.int 2)))))
 (.cons (.asg (.nm 7) (.and (.var 7) (.and (.cmp .Lt (.len (.var 8) 4) (.cst (.int 2))) (.not (.and (.cmp .NotEq (.var 8) (.fz (.lst .nil))) (.cmp .In (.tup (.cons (.cst (.str "arg")) (.cons (.var 1) .nil))) (.var 9)))))))
 .nil)))))
 (.cons (.asg (.nm 2) (.ife (.and (.tru (.var 6)) (.and (.cmp .Eq (.var 5) (.fz (.lst .nil))) (.tru (.var 7)))) (.fz (.lst (.cons (.cst (.str "plain")) .nil))) (.fz (.lst .nil))))
 (.cons (.asg (.nm 2) (.bin .Add (.bin .Add (.var 2) (.ife (.and (.tru (.var 6)) (.cmp .Eq (.var 5) (.fz (.lst .nil)))) (.fz (.lst (.cons (.cst (.str "asks")) .nil))) (.fz (.lst .nil)))) (.ife (.tru (.var 6)) (.fz (.lst (.cons (.cst (.str "looks")) .nil))) (.fz (.lst .nil)))))
 (.cons (.ret (.bin .Add (.bin .Add (.var 2) (.ife (.cmp .Eq (.var 5) (.fz (.lst .nil))) (.fz (.lst (.cons (.cst (.str "copies")) .nil))) (.fz (.lst .nil)))) (.fz (.lst (.cons (.cst (.str "all")) .nil)))))
 .nil))))))
def b23l2q4 : ISs := .nil
def b23l2q3 : ISs := .cons (.asg (.nm 7) (.and (.var 7) (.and (.cmp .Lt (.len (.var 8) 4) (.cst (.int 2))) (.not (.and (.cmp .NotEq (.var 8) (.fz (.lst .nil))) (.cmp .In (.tup (.cons (.cst (.str "arg")) (.cons (.var 1) .nil))) (.var 9))))))) b23l2q4
theorem b23l2c3 : b23l2q3 = .cons (.asg (.nm 7) (.and (.var 7) (.and (.cmp .Lt (.len (.var 8) 4) (.cst (.int 2))) (.not (.and (.cmp .NotEq (.var 8) (.fz (.lst .nil))) (.cmp .In (.tup (.cons (.cst (.str "arg")) (.cons (.var 1) .nil))) (.var 9))))))) b23l2q4 := rfl
def b23l2q2 : ISs := .cons (.asg (.nm 6) (.and (.var 6) (.cmp .Lt (.len (.var 9) 4) (.cst (.int 2))))) b23l2q3
theorem b23l2c2 : b23l2q2 = .cons (.asg (.nm 6) (.and (.var 6) (.cmp .Lt (.len (.var 9) 4) (.cst (.int 2))))) b23l2q3 := rfl
def b23l2q1 : ISs := .cons (.asg (.nm 9) (.fz (.cmp (.var 11) (.nm 11) (.seq (.var 4)) (.yes (.or (.cmp .Eq (.var 11) (.tup (.cons (.cst (.str "arg")) (.cons (.var 1) .nil)))) (.and (.cmp .Eq (.idx (.var 11) (.cst (.int 0))) (.cst (.str "got"))) (.cmp .In (.idx (.var 11) (.cst (.int 1))) (.var 8))))) [11]))) b23l2q2
theorem b23l2c1 : b23l2q1 = .cons (.asg (.nm 9) (.fz (.cmp (.var 11) (.nm 11) (.seq (.var 4)) (.yes (.or (.cmp .Eq (.var 11) (.tup (.cons (.cst (.str "arg")) (.cons (.var 1) .nil)))) (.and (.cmp .Eq (.idx (.var 11) (.cst (.int 0))) (.cst (.str "got"))) (.cmp .In (.idx (.var 11) (.cst (.int 1))) (.var 8))))) [11]))) b23l2q2 := rfl
def b23l2q0 : ISs := .cons (.asg (.nm 8) (.fz (.cmp (.idx (.var 10) (.cst (.int 3))) (.nm 10) (.seq (.var 3)) (.yes (.and (.cmp .Eq (.idx (.var 10) (.cst (.int 0))) (.cst (.str "does"))) (.cmp .Eq (.idx (.var 10) (.cst (.int 1))) (.var 1)))) [10]))) b23l2q1
theorem b23l2c0 : b23l2q0 = .cons (.asg (.nm 8) (.fz (.cmp (.idx (.var 10) (.cst (.int 3))) (.nm 10) (.seq (.var 3)) (.yes (.and (.cmp .Eq (.idx (.var 10) (.cst (.int 0))) (.cst (.str "does"))) (.cmp .Eq (.idx (.var 10) (.cst (.int 1))) (.var 1)))) [10]))) b23l2q1 := rfl
theorem b23l2n : b23l2q4 = .nil := rfl
def b23q6 : ISs := .nil
def b23q5 : ISs := .cons (.ret (.bin .Add (.bin .Add (.var 2) (.ife (.cmp .Eq (.var 5) (.fz (.lst .nil))) (.fz (.lst (.cons (.cst (.str "copies")) .nil))) (.fz (.lst .nil)))) (.fz (.lst (.cons (.cst (.str "all")) .nil))))) b23q6
theorem b23c5 : b23q5 = .cons (.ret (.bin .Add (.bin .Add (.var 2) (.ife (.cmp .Eq (.var 5) (.fz (.lst .nil))) (.fz (.lst (.cons (.cst (.str "copies")) .nil))) (.fz (.lst .nil)))) (.fz (.lst (.cons (.cst (.str "all")) .nil))))) b23q6 := rfl
def b23q4 : ISs := .cons (.asg (.nm 2) (.bin .Add (.bin .Add (.var 2) (.ife (.and (.tru (.var 6)) (.cmp .Eq (.var 5) (.fz (.lst .nil)))) (.fz (.lst (.cons (.cst (.str "asks")) .nil))) (.fz (.lst .nil)))) (.ife (.tru (.var 6)) (.fz (.lst (.cons (.cst (.str "looks")) .nil))) (.fz (.lst .nil))))) b23q5
theorem b23c4 : b23q4 = .cons (.asg (.nm 2) (.bin .Add (.bin .Add (.var 2) (.ife (.and (.tru (.var 6)) (.cmp .Eq (.var 5) (.fz (.lst .nil)))) (.fz (.lst (.cons (.cst (.str "asks")) .nil))) (.fz (.lst .nil)))) (.ife (.tru (.var 6)) (.fz (.lst (.cons (.cst (.str "looks")) .nil))) (.fz (.lst .nil))))) b23q5 := rfl
def b23q3 : ISs := .cons (.asg (.nm 2) (.ife (.and (.tru (.var 6)) (.and (.cmp .Eq (.var 5) (.fz (.lst .nil))) (.tru (.var 7)))) (.fz (.lst (.cons (.cst (.str "plain")) .nil))) (.fz (.lst .nil)))) b23q4
theorem b23c3 : b23q3 = .cons (.asg (.nm 2) (.ife (.and (.tru (.var 6)) (.and (.cmp .Eq (.var 5) (.fz (.lst .nil))) (.tru (.var 7)))) (.fz (.lst (.cons (.cst (.str "plain")) .nil))) (.fz (.lst .nil)))) b23q4 := rfl
def b23q2 : ISs := .cons (.for_ (.nm 1) (.rng (.cst (.int 3))) b23l2q0) b23q3
theorem b23c2 : b23q2 = .cons (.for_ (.nm 1) (.rng (.cst (.int 3))) b23l2q0) b23q3 := rfl
def b23q1 : ISs := .cons (.pr3 5 6 7 (.fz (.cmp (.var 10) (.nm 10) (.seq (.var 3)) (.yes (.cmp .Eq (.idx (.var 10) (.cst (.int 0))) (.cst (.str "cannot")))) [10])) (.cst (.bl true)) (.cst (.bl true))) b23q2
theorem b23c1 : b23q1 = .cons (.pr3 5 6 7 (.fz (.cmp (.var 10) (.nm 10) (.seq (.var 3)) (.yes (.cmp .Eq (.idx (.var 10) (.cst (.int 0))) (.cst (.str "cannot")))) [10])) (.cst (.bl true)) (.cst (.bl true))) b23q2 := rfl
def b23q0 : ISs := .cons (.par 3 4 (.idx (.var 0) (.cst (.int 1))) (.call 22 (.cons (.idx (.var 0) (.cst (.int 3))) .nil))) b23q1
theorem b23c0 : b23q0 = .cons (.par 3 4 (.idx (.var 0) (.cst (.int 1))) (.call 22 (.cons (.idx (.var 0) (.cst (.int 3))) .nil))) b23q1 := rfl
theorem b23n : b23q6 = .nil := rfl
theorem b23e : b23 = b23q0 := rfl
/-- 24: law(_law_script, _law_pen_here, _law_every, _law_turn, _law_rule_here, _law_letters_here, _law_shape, _law_ops, _law_rules, _law_book_here, _law_common, _law_mine, _law_lone, _law_one) -/
def b24 : ISs :=
 (.cons (.asg (.nm 1) (.call 9 (.cons (.var 0) .nil)))
 (.cons (.asg (.nm 2) (.fz (.lst (.cons (.cst (.str "plain")) (.cons (.cst (.str "asks")) (.cons (.cst (.str "looks")) (.cons (.cst (.str "copies")) (.cons (.cst (.str "all")) .nil))))))))
 (.cons (.for_ (.nm 3) (.rng (.bin .Add (.cst (.int 5)) (.blt .min2 (.cons (.cst (.int 8)) (.cons (.len (.var 0) 4) .nil)))))
 (.cons (.par 5 6 (.call 12 (.cons (.var 1) (.cons (.bin .Add (.cst (.int 1)) (.call 10 (.cons (.var 1) (.cons (.cst (.int 3)) .nil)))) .nil))) (.ife (.cmp .Lt (.var 3) (.cst (.int 5))) (.idx (.var 2) (.var 3)) (.call 11 (.cons (.var 1) (.cons (.var 2) .nil)))))
 (.cons (.asg (.tp (.cons (.nm 7) (.cons (.nm 8) .nil))) (.call 18 (.cons (.var 1) (.cons (.var 5) (.cons (.var 6) (.cons (.cst (.int 6)) .nil))))))
 (.cons (.ifs (.cmp .Eq (.call 10 (.cons (.var 1) (.cons (.cst (.int 3)) .nil))) (.cst (.int 0)))
 (.cons (.asg (.nm 8) (.bin .Add (.var 8) (.fz (.lst (.cons (.call 17 (.cons (.var 1) (.cons (.var 7) (.cons (.call 11 (.cons (.var 1) (.cons (.var 7) .nil))) (.cons (.var 5) (.cons (.call 11 (.cons (.var 1) (.cons (.var 2) .nil))) .nil)))))) .nil)))))
 .nil)
 .nil)
 (.cons (.asg (.tp (.cons (.nm 9) (.cons (.nm 10) .nil))) (.tup (.cons (.call 21 (.cons (.tup (.cons (.var 7) (.cons (.var 8) .nil))) .nil)) (.cons (.fz (.lof (.var 2))) .nil))))
 (.cons (.for_ (.nm 4) (.seq (.var 8))
 (.cons (.asg (.nm 11) (.call 23 (.cons (.var 4) .nil)))
 (.cons (.asg (.nm 10) (.fz (.cmp (.var 13) (.nm 13) (.seq (.var 10)) (.yes (.cmp .In (.var 13) (.var 11))) [13])))
 (.cons (.asg (.nm 12) (.call 21 (.cons (.tup (.cons (.var 7) (.cons (.fz (.lst (.cons (.var 4) .nil))) .nil))) .nil)))
 (.cons (.ifs (.or (.cmp .NotEq (.fz (.cmp (.var 13) (.nm 13) (.seq (.var 2)) (.yes (.tru (.met (.var 12) 9 (.cons (.var 13) .nil)))) [13])) (.var 11)) (.cmp .NotEq (.met (.var 12) 10 .nil) (.idx (.var 11) (.cst (.int 0)))))
 (.cons (.ret (.cst (.bl false)))
 .nil)
 .nil)
 .nil)))))
 (.cons (.ifs (.or (.cmp .NotEq (.fz (.cmp (.var 13) (.nm 13) (.seq (.var 2)) (.yes (.tru (.met (.var 9) 9 (.cons (.var 13) .nil)))) [13])) (.var 10)) (.cmp .NotEq (.met (.var 9) 10 .nil) (.idx (.var 10) (.cst (.int 0)))))
 (.cons (.ret (.cst (.bl false)))
 .nil)
 .nil)
 (.cons (.ifs (.cmp .NotEq (.met (.call 21 (.cons (.tup (.cons (.var 7) (.cons (.fz (.lst .nil)) .nil))) .nil)) 10 .nil) (.cst (.str "plain")))
 (.cons (.ret (.cst (.bl false)))
 .nil)
 .nil)
 .nil))))))))
 (.cons (.ret (.cst (.bl true)))
 .nil))))
def b24l2l4q4 : ISs := .nil
def b24l2l4q3 : ISs := .cons (.ifs (.or (.cmp .NotEq (.fz (.cmp (.var 13) (.nm 13) (.seq (.var 2)) (.yes (.tru (.met (.var 12) 9 (.cons (.var 13) .nil)))) [13])) (.var 11)) (.cmp .NotEq (.met (.var 12) 10 .nil) (.idx (.var 11) (.cst (.int 0)))))
 (.cons (.ret (.cst (.bl false)))
 .nil)
 .nil) b24l2l4q4
theorem b24l2l4c3 : b24l2l4q3 = .cons (.ifs (.or (.cmp .NotEq (.fz (.cmp (.var 13) (.nm 13) (.seq (.var 2)) (.yes (.tru (.met (.var 12) 9 (.cons (.var 13) .nil)))) [13])) (.var 11)) (.cmp .NotEq (.met (.var 12) 10 .nil) (.idx (.var 11) (.cst (.int 0)))))
 (.cons (.ret (.cst (.bl false)))
 .nil)
 .nil) b24l2l4q4 := rfl
def b24l2l4q2 : ISs := .cons (.asg (.nm 12) (.call 21 (.cons (.tup (.cons (.var 7) (.cons (.fz (.lst (.cons (.var 4) .nil))) .nil))) .nil))) b24l2l4q3
theorem b24l2l4c2 : b24l2l4q2 = .cons (.asg (.nm 12) (.call 21 (.cons (.tup (.cons (.var 7) (.cons (.fz (.lst (.cons (.var 4) .nil))) .nil))) .nil))) b24l2l4q3 := rfl
def b24l2l4q1 : ISs := .cons (.asg (.nm 10) (.fz (.cmp (.var 13) (.nm 13) (.seq (.var 10)) (.yes (.cmp .In (.var 13) (.var 11))) [13]))) b24l2l4q2
theorem b24l2l4c1 : b24l2l4q1 = .cons (.asg (.nm 10) (.fz (.cmp (.var 13) (.nm 13) (.seq (.var 10)) (.yes (.cmp .In (.var 13) (.var 11))) [13]))) b24l2l4q2 := rfl
def b24l2l4q0 : ISs := .cons (.asg (.nm 11) (.call 23 (.cons (.var 4) .nil))) b24l2l4q1
theorem b24l2l4c0 : b24l2l4q0 = .cons (.asg (.nm 11) (.call 23 (.cons (.var 4) .nil))) b24l2l4q1 := rfl
theorem b24l2l4n : b24l2l4q4 = .nil := rfl
def b24l2q7 : ISs := .nil
def b24l2q6 : ISs := .cons (.ifs (.cmp .NotEq (.met (.call 21 (.cons (.tup (.cons (.var 7) (.cons (.fz (.lst .nil)) .nil))) .nil)) 10 .nil) (.cst (.str "plain")))
 (.cons (.ret (.cst (.bl false)))
 .nil)
 .nil) b24l2q7
theorem b24l2c6 : b24l2q6 = .cons (.ifs (.cmp .NotEq (.met (.call 21 (.cons (.tup (.cons (.var 7) (.cons (.fz (.lst .nil)) .nil))) .nil)) 10 .nil) (.cst (.str "plain")))
 (.cons (.ret (.cst (.bl false)))
 .nil)
 .nil) b24l2q7 := rfl
def b24l2q5 : ISs := .cons (.ifs (.or (.cmp .NotEq (.fz (.cmp (.var 13) (.nm 13) (.seq (.var 2)) (.yes (.tru (.met (.var 9) 9 (.cons (.var 13) .nil)))) [13])) (.var 10)) (.cmp .NotEq (.met (.var 9) 10 .nil) (.idx (.var 10) (.cst (.int 0)))))
 (.cons (.ret (.cst (.bl false)))
 .nil)
 .nil) b24l2q6
theorem b24l2c5 : b24l2q5 = .cons (.ifs (.or (.cmp .NotEq (.fz (.cmp (.var 13) (.nm 13) (.seq (.var 2)) (.yes (.tru (.met (.var 9) 9 (.cons (.var 13) .nil)))) [13])) (.var 10)) (.cmp .NotEq (.met (.var 9) 10 .nil) (.idx (.var 10) (.cst (.int 0)))))
 (.cons (.ret (.cst (.bl false)))
 .nil)
 .nil) b24l2q6 := rfl
def b24l2q4 : ISs := .cons (.for_ (.nm 4) (.seq (.var 8)) b24l2l4q0) b24l2q5
theorem b24l2c4 : b24l2q4 = .cons (.for_ (.nm 4) (.seq (.var 8)) b24l2l4q0) b24l2q5 := rfl
def b24l2q3 : ISs := .cons (.asg (.tp (.cons (.nm 9) (.cons (.nm 10) .nil))) (.tup (.cons (.call 21 (.cons (.tup (.cons (.var 7) (.cons (.var 8) .nil))) .nil)) (.cons (.fz (.lof (.var 2))) .nil)))) b24l2q4
theorem b24l2c3 : b24l2q3 = .cons (.asg (.tp (.cons (.nm 9) (.cons (.nm 10) .nil))) (.tup (.cons (.call 21 (.cons (.tup (.cons (.var 7) (.cons (.var 8) .nil))) .nil)) (.cons (.fz (.lof (.var 2))) .nil)))) b24l2q4 := rfl
def b24l2q2 : ISs := .cons (.ifs (.cmp .Eq (.call 10 (.cons (.var 1) (.cons (.cst (.int 3)) .nil))) (.cst (.int 0)))
 (.cons (.asg (.nm 8) (.bin .Add (.var 8) (.fz (.lst (.cons (.call 17 (.cons (.var 1) (.cons (.var 7) (.cons (.call 11 (.cons (.var 1) (.cons (.var 7) .nil))) (.cons (.var 5) (.cons (.call 11 (.cons (.var 1) (.cons (.var 2) .nil))) .nil)))))) .nil)))))
 .nil)
 .nil) b24l2q3
theorem b24l2c2 : b24l2q2 = .cons (.ifs (.cmp .Eq (.call 10 (.cons (.var 1) (.cons (.cst (.int 3)) .nil))) (.cst (.int 0)))
 (.cons (.asg (.nm 8) (.bin .Add (.var 8) (.fz (.lst (.cons (.call 17 (.cons (.var 1) (.cons (.var 7) (.cons (.call 11 (.cons (.var 1) (.cons (.var 7) .nil))) (.cons (.var 5) (.cons (.call 11 (.cons (.var 1) (.cons (.var 2) .nil))) .nil)))))) .nil)))))
 .nil)
 .nil) b24l2q3 := rfl
def b24l2q1 : ISs := .cons (.asg (.tp (.cons (.nm 7) (.cons (.nm 8) .nil))) (.call 18 (.cons (.var 1) (.cons (.var 5) (.cons (.var 6) (.cons (.cst (.int 6)) .nil)))))) b24l2q2
theorem b24l2c1 : b24l2q1 = .cons (.asg (.tp (.cons (.nm 7) (.cons (.nm 8) .nil))) (.call 18 (.cons (.var 1) (.cons (.var 5) (.cons (.var 6) (.cons (.cst (.int 6)) .nil)))))) b24l2q2 := rfl
def b24l2q0 : ISs := .cons (.par 5 6 (.call 12 (.cons (.var 1) (.cons (.bin .Add (.cst (.int 1)) (.call 10 (.cons (.var 1) (.cons (.cst (.int 3)) .nil)))) .nil))) (.ife (.cmp .Lt (.var 3) (.cst (.int 5))) (.idx (.var 2) (.var 3)) (.call 11 (.cons (.var 1) (.cons (.var 2) .nil))))) b24l2q1
theorem b24l2c0 : b24l2q0 = .cons (.par 5 6 (.call 12 (.cons (.var 1) (.cons (.bin .Add (.cst (.int 1)) (.call 10 (.cons (.var 1) (.cons (.cst (.int 3)) .nil)))) .nil))) (.ife (.cmp .Lt (.var 3) (.cst (.int 5))) (.idx (.var 2) (.var 3)) (.call 11 (.cons (.var 1) (.cons (.var 2) .nil))))) b24l2q1 := rfl
theorem b24l2n : b24l2q7 = .nil := rfl
def b24q4 : ISs := .nil
def b24q3 : ISs := .cons (.ret (.cst (.bl true))) b24q4
theorem b24c3 : b24q3 = .cons (.ret (.cst (.bl true))) b24q4 := rfl
def b24q2 : ISs := .cons (.for_ (.nm 3) (.rng (.bin .Add (.cst (.int 5)) (.blt .min2 (.cons (.cst (.int 8)) (.cons (.len (.var 0) 4) .nil))))) b24l2q0) b24q3
theorem b24c2 : b24q2 = .cons (.for_ (.nm 3) (.rng (.bin .Add (.cst (.int 5)) (.blt .min2 (.cons (.cst (.int 8)) (.cons (.len (.var 0) 4) .nil))))) b24l2q0) b24q3 := rfl
def b24q1 : ISs := .cons (.asg (.nm 2) (.fz (.lst (.cons (.cst (.str "plain")) (.cons (.cst (.str "asks")) (.cons (.cst (.str "looks")) (.cons (.cst (.str "copies")) (.cons (.cst (.str "all")) .nil)))))))) b24q2
theorem b24c1 : b24q1 = .cons (.asg (.nm 2) (.fz (.lst (.cons (.cst (.str "plain")) (.cons (.cst (.str "asks")) (.cons (.cst (.str "looks")) (.cons (.cst (.str "copies")) (.cons (.cst (.str "all")) .nil)))))))) b24q2 := rfl
def b24q0 : ISs := .cons (.asg (.nm 1) (.call 9 (.cons (.var 0) .nil))) b24q1
theorem b24c0 : b24q0 = .cons (.asg (.nm 1) (.call 9 (.cons (.var 0) .nil))) b24q1 := rfl
theorem b24n : b24q4 = .nil := rfl
theorem b24e : b24 = b24q0 := rfl
/-- 25: Term.__init__(self, word, sign, parts) -/
def b25 : ISs :=
 (.cons (.sta (.var 0) 2 (.var 1))
 (.cons (.sta (.var 0) 3 (.var 2))
 (.cons (.sta (.var 0) 0 (.blt .tuple (.cons (.var 3) .nil)))
 .nil)))
def b25q3 : ISs := .nil
def b25q2 : ISs := .cons (.sta (.var 0) 0 (.blt .tuple (.cons (.var 3) .nil))) b25q3
theorem b25c2 : b25q2 = .cons (.sta (.var 0) 0 (.blt .tuple (.cons (.var 3) .nil))) b25q3 := rfl
def b25q1 : ISs := .cons (.sta (.var 0) 3 (.var 2)) b25q2
theorem b25c1 : b25q1 = .cons (.sta (.var 0) 3 (.var 2)) b25q2 := rfl
def b25q0 : ISs := .cons (.sta (.var 0) 2 (.var 1)) b25q1
theorem b25c0 : b25q0 = .cons (.sta (.var 0) 2 (.var 1)) b25q1 := rfl
theorem b25n : b25q3 = .nil := rfl
theorem b25e : b25 = b25q0 := rfl
/-- 26: At.__init__(self, state, __class__) -/
def b26 : ISs :=
 (.cons (.sup 1 25 (.cons (.cst (.str "at")) (.cons (.var 1) (.cons (.tup .nil) .nil)))) (.cons (.sta (.var 0) 11 (.var 1))
 .nil))
/-- 27: Arg.__init__(self, index, __class__) -/
def b27 : ISs :=
 (.cons (.sup 2 25 (.cons (.cst (.str "arg")) (.cons (.var 1) (.cons (.tup .nil) .nil)))) (.cons (.sta (.var 0) 7 (.var 1))
 .nil))
/-- 28: Got.__init__(self, name, __class__) -/
def b28 : ISs :=
 (.cons (.sup 3 25 (.cons (.cst (.str "got")) (.cons (.var 1) (.cons (.tup .nil) .nil)))) (.cons (.sta (.var 0) 6 (.var 1))
 .nil))
/-- 29: Of.__init__(self, operator, parts, __class__) -/
def b29 : ISs :=
 (.cons (.sup 4 25 (.cons (.cst (.str "of")) (.cons (.var 1) (.cons (.var 2) .nil)))) (.cons (.sta (.var 0) 5 (.var 1))
 .nil))
/-- 30: Does.__init__(self, index, letter, name) -/
def b30 : ISs :=
 (.cons (.sta (.var 0) 7 (.var 1))
 (.cons (.sta (.var 0) 12 (.var 2))
 (.cons (.sta (.var 0) 6 (.var 3))
 .nil)))
def b30q3 : ISs := .nil
def b30q2 : ISs := .cons (.sta (.var 0) 6 (.var 3)) b30q3
theorem b30c2 : b30q2 = .cons (.sta (.var 0) 6 (.var 3)) b30q3 := rfl
def b30q1 : ISs := .cons (.sta (.var 0) 12 (.var 2)) b30q2
theorem b30c1 : b30q1 = .cons (.sta (.var 0) 12 (.var 2)) b30q2 := rfl
def b30q0 : ISs := .cons (.sta (.var 0) 7 (.var 1)) b30q1
theorem b30c0 : b30q0 = .cons (.sta (.var 0) 7 (.var 1)) b30q1 := rfl
theorem b30n : b30q3 = .nil := rfl
theorem b30e : b30 = b30q0 := rfl
/-- 31: Cannot.__init__(self, index, letter) -/
def b31 : ISs :=
 (.cons (.sta (.var 0) 7 (.var 1))
 (.cons (.sta (.var 0) 12 (.var 2))
 .nil))
def b31q2 : ISs := .nil
def b31q1 : ISs := .cons (.sta (.var 0) 12 (.var 2)) b31q2
theorem b31c1 : b31q1 = .cons (.sta (.var 0) 12 (.var 2)) b31q2 := rfl
def b31q0 : ISs := .cons (.sta (.var 0) 7 (.var 1)) b31q1
theorem b31c0 : b31q0 = .cons (.sta (.var 0) 7 (.var 1)) b31q1 := rfl
theorem b31n : b31q2 = .nil := rfl
theorem b31e : b31 = b31q0 := rfl
/-- 32: Rule.__init__(self, operator, looks, letter, target) -/
def b32 : ISs :=
 (.cons (.sta (.var 0) 5 (.var 1))
 (.cons (.sta (.var 0) 1 (.blt .tuple (.cons (.var 2) .nil)))
 (.cons (.sta (.var 0) 12 (.var 3))
 (.cons (.sta (.var 0) 8 (.var 4))
 .nil))))
def b32q4 : ISs := .nil
def b32q3 : ISs := .cons (.sta (.var 0) 8 (.var 4)) b32q4
theorem b32c3 : b32q3 = .cons (.sta (.var 0) 8 (.var 4)) b32q4 := rfl
def b32q2 : ISs := .cons (.sta (.var 0) 12 (.var 3)) b32q3
theorem b32c2 : b32q2 = .cons (.sta (.var 0) 12 (.var 3)) b32q3 := rfl
def b32q1 : ISs := .cons (.sta (.var 0) 1 (.blt .tuple (.cons (.var 2) .nil))) b32q2
theorem b32c1 : b32q1 = .cons (.sta (.var 0) 1 (.blt .tuple (.cons (.var 2) .nil))) b32q2 := rfl
def b32q0 : ISs := .cons (.sta (.var 0) 5 (.var 1)) b32q1
theorem b32c0 : b32q0 = .cons (.sta (.var 0) 5 (.var 1)) b32q1 := rfl
theorem b32n : b32q4 = .nil := rfl
theorem b32e : b32 = b32q0 := rfl
/-- 33: Book.__init__(self, operators, rules, name) -/
def b33 : ISs :=
 (.cons (.exp (.call 5 (.cons (.var 1) (.cons (.var 2) .nil))))
 (.cons (.sta (.var 0) 13 (.fz (.dcm (.var 3) (.idx (.var 1) (.var 3)) (.nm 3) (.seq (.fz (.srt (.var 1)))) [3])))
 (.cons (.sta (.var 0) 14 (.blt .tuple (.cons (.var 2) .nil)))
 .nil)))
def b33q3 : ISs := .nil
def b33q2 : ISs := .cons (.sta (.var 0) 14 (.blt .tuple (.cons (.var 2) .nil))) b33q3
theorem b33c2 : b33q2 = .cons (.sta (.var 0) 14 (.blt .tuple (.cons (.var 2) .nil))) b33q3 := rfl
def b33q1 : ISs := .cons (.sta (.var 0) 13 (.fz (.dcm (.var 3) (.idx (.var 1) (.var 3)) (.nm 3) (.seq (.fz (.srt (.var 1)))) [3]))) b33q2
theorem b33c1 : b33q1 = .cons (.sta (.var 0) 13 (.fz (.dcm (.var 3) (.idx (.var 1) (.var 3)) (.nm 3) (.seq (.fz (.srt (.var 1)))) [3]))) b33q2 := rfl
def b33q0 : ISs := .cons (.exp (.call 5 (.cons (.var 1) (.cons (.var 2) .nil)))) b33q1
theorem b33c0 : b33q0 = .cons (.exp (.call 5 (.cons (.var 1) (.cons (.var 2) .nil)))) b33q1 := rfl
theorem b33n : b33q3 = .nil := rfl
theorem b33e : b33 = b33q0 := rfl
/-- 34: Book.has_shape(self, shape, rule) -/
def b34 : ISs :=
 (.cons (.ret (.blt .all (.cons (.fz (.cmp (.call 8 (.cons (.var 2) (.cons (.var 1) .nil))) (.nm 2) (.seq (.att (.var 0) 14)) .no [2])) .nil)))
 .nil)
def b34q1 : ISs := .nil
def b34q0 : ISs := .cons (.ret (.blt .all (.cons (.fz (.cmp (.call 8 (.cons (.var 2) (.cons (.var 1) .nil))) (.nm 2) (.seq (.att (.var 0) 14)) .no [2])) .nil))) b34q1
theorem b34c0 : b34q0 = .cons (.ret (.blt .all (.cons (.fz (.cmp (.call 8 (.cons (.var 2) (.cons (.var 1) .nil))) (.nm 2) (.seq (.att (.var 0) 14)) .no [2])) .nil))) b34q1 := rfl
theorem b34n : b34q1 = .nil := rfl
theorem b34e : b34 = b34q0 := rfl
/-- 35: Book.narrowest(self, shape) -/
def b35 : ISs :=
 (.cons (.ret (.idx (.fz (.cmp (.var 1) (.nm 1) (.seq (.cst (.tup [.str "plain", .str "asks", .str "looks", .str "copies", .str "all"]))) (.yes (.tru (.met (.var 0) 9 (.cons (.var 1) .nil)))) [1])) (.cst (.int 0))))
 .nil)
def b35q1 : ISs := .nil
def b35q0 : ISs := .cons (.ret (.idx (.fz (.cmp (.var 1) (.nm 1) (.seq (.cst (.tup [.str "plain", .str "asks", .str "looks", .str "copies", .str "all"]))) (.yes (.tru (.met (.var 0) 9 (.cons (.var 1) .nil)))) [1])) (.cst (.int 0)))) b35q1
theorem b35c0 : b35q0 = .cons (.ret (.idx (.fz (.cmp (.var 1) (.nm 1) (.seq (.cst (.tup [.str "plain", .str "asks", .str "looks", .str "copies", .str "all"]))) (.yes (.tru (.met (.var 0) 9 (.cons (.var 1) .nil)))) [1])) (.cst (.int 0)))) b35q1 := rfl
theorem b35n : b35q1 = .nil := rfl
theorem b35e : b35 = b35q0 := rfl
def nms : List Str := ["parts", "looks", "word", "sign", "__len__", "operator", "name", "index", "target", "has_shape", "narrowest", "state", "letter", "operators", "rules", "__eq__", "__str__", "__init__"]
def cls : List (Str × Cls) := [
 ("Term", ⟨[0], [2, 3, 0], some 25, [], none, true, none⟩),
 ("At", ⟨[1, 0], [11, 2, 3, 0], some 26, [], none, true, none⟩),
 ("Arg", ⟨[2, 0], [7, 2, 3, 0], some 27, [], none, true, none⟩),
 ("Got", ⟨[3, 0], [6, 2, 3, 0], some 28, [], none, true, none⟩),
 ("Of", ⟨[4, 0], [5, 2, 3, 0], some 29, [], none, true, none⟩),
 ("Does", ⟨[5], [7, 12, 6], some 30, [], none, true, none⟩),
 ("Cannot", ⟨[6], [7, 12], some 31, [], none, true, none⟩),
 ("Rule", ⟨[7], [5, 1, 12, 8], some 32, [], none, true, none⟩),
 ("Book", ⟨[8], [13, 14], some 33, [(9, 34), (10, 35)], none, true, none⟩)]
abbrev T : Tab := cls.map (·.2)
def f0 : Fn := ⟨1, 3, b0⟩
def f1 : Fn := ⟨1, 2, b1⟩
def f2 : Fn := ⟨1, 2, b2⟩
def f3 : Fn := ⟨4, 4, b3⟩
def f4 : Fn := ⟨2, 6, b4⟩
def f5 : Fn := ⟨2, 4, b5⟩
def f6 : Fn := ⟨1, 6, b6⟩
def f7 : Fn := ⟨1, 5, b7⟩
def f8 : Fn := ⟨2, 2, b8⟩
def f9 : Fn := ⟨1, 1, b9⟩
def f10 : Fn := ⟨2, 6, b10⟩
def f11 : Fn := ⟨2, 2, b11⟩
def f12 : Fn := ⟨2, 6, b12⟩
def f13 : Fn := ⟨3, 4, b13⟩
def f14 : Fn := ⟨5, 10, b14⟩
def f15 : Fn := ⟨4, 9, b15⟩
def f16 : Fn := ⟨4, 10, b16⟩
def f17 : Fn := ⟨5, 8, b17⟩
def f18 : Fn := ⟨4, 8, b18⟩
def f19 : Fn := ⟨1, 2, b19⟩
def f20 : Fn := ⟨1, 3, b20⟩
def f21 : Fn := ⟨1, 2, b21⟩
def f22 : Fn := ⟨1, 3, b22⟩
def f23 : Fn := ⟨1, 12, b23⟩
def f24 : Fn := ⟨1, 14, b24⟩
def f25 : Fn := ⟨4, 4, b25⟩
def f26 : Fn := ⟨2, 3, b26⟩
def f27 : Fn := ⟨2, 3, b27⟩
def f28 : Fn := ⟨2, 3, b28⟩
def f29 : Fn := ⟨3, 4, b29⟩
def f30 : Fn := ⟨4, 4, b30⟩
def f31 : Fn := ⟨3, 3, b31⟩
def f32 : Fn := ⟨5, 5, b32⟩
def f33 : Fn := ⟨3, 4, b33⟩
def f34 : Fn := ⟨2, 3, b34⟩
def f35 : Fn := ⟨1, 2, b35⟩
def F : Fns := [f0, f1, f2, f3, f4, f5, f6, f7, f8, f9, f10, f11, f12, f13, f14, f15, f16, f17, f18, f19, f20, f21, f22, f23, f24, f25, f26, f27, f28, f29, f30, f31, f32, f33, f34, f35]
theorem r0 (k : Nat) (x0 : D) (m : Mu) : run T F (k + 1) 0 [x0] m = fin (Ss T k (run T F k) b0 [some x0, none, none] m) := rfl
theorem r1 (k : Nat) (x0 : D) (m : Mu) : run T F (k + 1) 1 [x0] m = fin (Ss T k (run T F k) b1 [some x0, none] m) := rfl
theorem r2 (k : Nat) (x0 : D) (m : Mu) : run T F (k + 1) 2 [x0] m = fin (Ss T k (run T F k) b2 [some x0, none] m) := rfl
theorem r3 (k : Nat) (x0 x1 x2 x3 : D) (m : Mu) : run T F (k + 1) 3 [x0, x1, x2, x3] m = fin (Ss T k (run T F k) b3 [some x0, some x1, some x2, some x3] m) := rfl
theorem r4 (k : Nat) (x0 x1 : D) (m : Mu) : run T F (k + 1) 4 [x0, x1] m = fin (Ss T k (run T F k) b4 [some x0, some x1, none, none, none, none] m) := rfl
theorem r5 (k : Nat) (x0 x1 : D) (m : Mu) : run T F (k + 1) 5 [x0, x1] m = fin (Ss T k (run T F k) b5 [some x0, some x1, none, none] m) := rfl
theorem r6 (k : Nat) (x0 : D) (m : Mu) : run T F (k + 1) 6 [x0] m = fin (Ss T k (run T F k) b6 [some x0, none, none, none, none, none] m) := rfl
theorem r7 (k : Nat) (x0 : D) (m : Mu) : run T F (k + 1) 7 [x0] m = fin (Ss T k (run T F k) b7 [some x0, none, none, none, none] m) := rfl
theorem r8 (k : Nat) (x0 x1 : D) (m : Mu) : run T F (k + 1) 8 [x0, x1] m = fin (Ss T k (run T F k) b8 [some x0, some x1] m) := rfl
theorem r9 (k : Nat) (x0 : D) (m : Mu) : run T F (k + 1) 9 [x0] m = fin (Ss T k (run T F k) b9 [some x0] m) := rfl
theorem r10 (k : Nat) (x0 x1 : D) (m : Mu) : run T F (k + 1) 10 [x0, x1] m = fin (Ss T k (run T F k) b10 [some x0, some x1, none, none, none, none] m) := rfl
theorem r11 (k : Nat) (x0 x1 : D) (m : Mu) : run T F (k + 1) 11 [x0, x1] m = fin (Ss T k (run T F k) b11 [some x0, some x1] m) := rfl
theorem r12 (k : Nat) (x0 x1 : D) (m : Mu) : run T F (k + 1) 12 [x0, x1] m = fin (Ss T k (run T F k) b12 [some x0, some x1, none, none, none, none] m) := rfl
theorem r13 (k : Nat) (x0 x1 x2 : D) (m : Mu) : run T F (k + 1) 13 [x0, x1, x2] m = fin (Ss T k (run T F k) b13 [some x0, some x1, some x2, none] m) := rfl
theorem r14 (k : Nat) (x0 x1 x2 x3 x4 : D) (m : Mu) : run T F (k + 1) 14 [x0, x1, x2, x3, x4] m = fin (Ss T k (run T F k) b14 [some x0, some x1, some x2, some x3, some x4, none, none, none, none, none] m) := rfl
theorem r15 (k : Nat) (x0 x1 x2 x3 : D) (m : Mu) : run T F (k + 1) 15 [x0, x1, x2, x3] m = fin (Ss T k (run T F k) b15 [some x0, some x1, some x2, some x3, none, none, none, none, none] m) := rfl
theorem r16 (k : Nat) (x0 x1 x2 x3 : D) (m : Mu) : run T F (k + 1) 16 [x0, x1, x2, x3] m = fin (Ss T k (run T F k) b16 [some x0, some x1, some x2, some x3, none, none, none, none, none, none] m) := rfl
theorem r17 (k : Nat) (x0 x1 x2 x3 x4 : D) (m : Mu) : run T F (k + 1) 17 [x0, x1, x2, x3, x4] m = fin (Ss T k (run T F k) b17 [some x0, some x1, some x2, some x3, some x4, none, none, none] m) := rfl
theorem r18 (k : Nat) (x0 x1 x2 x3 : D) (m : Mu) : run T F (k + 1) 18 [x0, x1, x2, x3] m = fin (Ss T k (run T F k) b18 [some x0, some x1, some x2, some x3, none, none, none, none] m) := rfl
theorem r19 (k : Nat) (x0 : D) (m : Mu) : run T F (k + 1) 19 [x0] m = fin (Ss T k (run T F k) b19 [some x0, none] m) := rfl
theorem r20 (k : Nat) (x0 : D) (m : Mu) : run T F (k + 1) 20 [x0] m = fin (Ss T k (run T F k) b20 [some x0, none, none] m) := rfl
theorem r21 (k : Nat) (x0 : D) (m : Mu) : run T F (k + 1) 21 [x0] m = fin (Ss T k (run T F k) b21 [some x0, none] m) := rfl
theorem r22 (k : Nat) (x0 : D) (m : Mu) : run T F (k + 1) 22 [x0] m = fin (Ss T k (run T F k) b22 [some x0, none, none] m) := rfl
theorem r23 (k : Nat) (x0 : D) (m : Mu) : run T F (k + 1) 23 [x0] m = fin (Ss T k (run T F k) b23 [some x0, none, none, none, none, none, none, none, none, none, none, none] m) := rfl
theorem r24 (k : Nat) (x0 : D) (m : Mu) : run T F (k + 1) 24 [x0] m = fin (Ss T k (run T F k) b24 [some x0, none, none, none, none, none, none, none, none, none, none, none, none, none] m) := rfl
theorem r25 (k : Nat) (x0 x1 x2 x3 : D) (m : Mu) : run T F (k + 1) 25 [x0, x1, x2, x3] m = fin (Ss T k (run T F k) b25 [some x0, some x1, some x2, some x3] m) := rfl
theorem r26 (k : Nat) (x0 x1 : D) (m : Mu) : run T F (k + 1) 26 [x0, x1] m = fin (Ss T k (run T F k) b26 [some x0, some x1, none] m) := rfl
theorem r27 (k : Nat) (x0 x1 : D) (m : Mu) : run T F (k + 1) 27 [x0, x1] m = fin (Ss T k (run T F k) b27 [some x0, some x1, none] m) := rfl
theorem r28 (k : Nat) (x0 x1 : D) (m : Mu) : run T F (k + 1) 28 [x0, x1] m = fin (Ss T k (run T F k) b28 [some x0, some x1, none] m) := rfl
theorem r29 (k : Nat) (x0 x1 x2 : D) (m : Mu) : run T F (k + 1) 29 [x0, x1, x2] m = fin (Ss T k (run T F k) b29 [some x0, some x1, some x2, none] m) := rfl
theorem r30 (k : Nat) (x0 x1 x2 x3 : D) (m : Mu) : run T F (k + 1) 30 [x0, x1, x2, x3] m = fin (Ss T k (run T F k) b30 [some x0, some x1, some x2, some x3] m) := rfl
theorem r31 (k : Nat) (x0 x1 x2 : D) (m : Mu) : run T F (k + 1) 31 [x0, x1, x2] m = fin (Ss T k (run T F k) b31 [some x0, some x1, some x2] m) := rfl
theorem r32 (k : Nat) (x0 x1 x2 x3 x4 : D) (m : Mu) : run T F (k + 1) 32 [x0, x1, x2, x3, x4] m = fin (Ss T k (run T F k) b32 [some x0, some x1, some x2, some x3, some x4] m) := rfl
theorem r33 (k : Nat) (x0 x1 x2 : D) (m : Mu) : run T F (k + 1) 33 [x0, x1, x2] m = fin (Ss T k (run T F k) b33 [some x0, some x1, some x2, none] m) := rfl
theorem r34 (k : Nat) (x0 x1 : D) (m : Mu) : run T F (k + 1) 34 [x0, x1] m = fin (Ss T k (run T F k) b34 [some x0, some x1, none] m) := rfl
theorem r35 (k : Nat) (x0 : D) (m : Mu) : run T F (k + 1) 35 [x0] m = fin (Ss T k (run T F k) b35 [some x0, none] m) := rfl
def c0 : Cls := (cls.getD 0 default).2
theorem T0 : T[0]? = some c0 := rfl
def c1 : Cls := (cls.getD 1 default).2
theorem T1 : T[1]? = some c1 := rfl
def c2 : Cls := (cls.getD 2 default).2
theorem T2 : T[2]? = some c2 := rfl
def c3 : Cls := (cls.getD 3 default).2
theorem T3 : T[3]? = some c3 := rfl
def c4 : Cls := (cls.getD 4 default).2
theorem T4 : T[4]? = some c4 := rfl
def c5 : Cls := (cls.getD 5 default).2
theorem T5 : T[5]? = some c5 := rfl
def c6 : Cls := (cls.getD 6 default).2
theorem T6 : T[6]? = some c6 := rfl
def c7 : Cls := (cls.getD 7 default).2
theorem T7 : T[7]? = some c7 := rfl
def c8 : Cls := (cls.getD 8 default).2
theorem T8 : T[8]? = some c8 := rfl
end K05

/-! part K05_m -/
set_option Elab.async false
set_option linter.all false
set_option maxRecDepth 100000
namespace K05
open PySem Rs

def f0m : FMeta :=
 ⟨("parts_of", none), ["term", "found", "part"], none, f0⟩
def f1m : FMeta :=
 ⟨("does_of", none), ["rule", "look"], none, f1⟩
def f2m : FMeta :=
 ⟨("cannots_of", none), ["rule", "look"], none, f2⟩
def f3m : FMeta :=
 ⟨("is_right_part", none), ["operators", "arity", "names", "part"], none, f3⟩
def f4m : FMeta :=
 ⟨("is_right", none), ["operators", "rule", "arity", "names", "look", "part"], none, f4⟩
def f5m : FMeta :=
 ⟨("check_rules", none), ["operators", "rules", "index", "rule"], none, f5⟩
def f6m : FMeta :=
 ⟨("is_straight", none), ["rule", "owners", "parts", "found", "look", "part"], none, f6⟩
def f7m : FMeta :=
 ⟨("is_plain", none), ["rule", "looked", "kept", "look", "part"], none, f7⟩
def f8m : FMeta :=
 ⟨("has_shape", none), ["rule", "shape"], none, f8⟩
def f9m : FMeta :=
 ⟨("_law_pen", none), ["_law_script"], none, f9⟩
def f10m : FMeta :=
 ⟨("_law_draw", none), ["_law_pen_here", "_law_many", "_law_at", "_law_cell", "_law_mixed", "_law_digit"], none, f10⟩
def f11m : FMeta :=
 ⟨("_law_pick", none), ["_law_pen_here", "_law_items"], none, f11⟩
def f12m : FMeta :=
 ⟨("_law_letters", none), ["_law_pen_here", "_law_many", "_law_turn", "_law_left", "_law_found", "_law_at"], none, f12⟩
def f13m : FMeta :=
 ⟨("_law_leaf", none), ["_law_pen_here", "_law_pool_here", "_law_once", "_law_at"], none, f13⟩
def f14m : FMeta :=
 ⟨("_law_target", none), ["_law_pen_here", "_law_ops", "_law_pool_here", "_law_deep", "_law_once", "_law_parts", "_law_k", "_law_name", "_law_arity", "_law_part"], none, f14⟩
def f15m : FMeta :=
 ⟨("_law_looks", none), ["_law_pen_here", "_law_arity", "_law_letters_here", "_law_shape", "_law_index", "_law_looks_here", "_law_names", "_law_k", "_law_letter"], none, f15⟩
def f16m : FMeta :=
 ⟨("_law_pool", none), ["_law_pen_here", "_law_arity", "_law_looks_here", "_law_shape", "_law_found", "_law_index", "_law_does", "_law_gots", "_law_every", "_law_look"], none, f16⟩
def f17m : FMeta :=
 ⟨("_law_rule", none), ["_law_pen_here", "_law_ops", "_law_op", "_law_letters_here", "_law_shape", "_law_looks_here", "_law_pool_here", "_law_target_here"], none, f17⟩
def f18m : FMeta :=
 ⟨("_law_book", none), ["_law_pen_here", "_law_letters_here", "_law_shape", "_law_most", "_law_ops", "_law_name", "_law_rules", "_law_k"], none, f18⟩
def f19m : FMeta :=
 ⟨("_law_made_term", none), ["_law_term", "_law_part"], none, f19⟩
def f20m : FMeta :=
 ⟨("_law_made_rule", none), ["_law_rule_here", "_law_looks_here", "_law_look"], none, f20⟩
def f21m : FMeta :=
 ⟨("_law_made_book", none), ["_law_book_here", "_law_rule_here"], none, f21⟩
def f22m : FMeta :=
 ⟨("_law_leaves", none), ["_law_target_here", "_law_found", "_law_part"], none, f22⟩
def f23m : FMeta :=
 ⟨("_law_shapes", none), ["_law_rule_here", "_law_index", "_law_found", "_law_looks_here", "_law_leaves_here", "_law_cannots", "_law_straight", "_law_plain", "_law_gots", "_law_own", "_law_look", "_law_leaf_here"], none, f23⟩
def f24m : FMeta :=
 ⟨("law", none), ["_law_script", "_law_pen_here", "_law_every", "_law_turn", "_law_rule_here", "_law_letters_here", "_law_shape", "_law_ops", "_law_rules", "_law_book_here", "_law_common", "_law_mine", "_law_lone", "_law_one"], none, f24⟩
def f25m : FMeta :=
 ⟨("Term", some "__init__"), ["self", "word", "sign", "parts"], none, f25⟩
def f26m : FMeta :=
 ⟨("At", some "__init__"), ["self", "state", "__class__"], some (1, 25), f26⟩
def f27m : FMeta :=
 ⟨("Arg", some "__init__"), ["self", "index", "__class__"], some (2, 25), f27⟩
def f28m : FMeta :=
 ⟨("Got", some "__init__"), ["self", "name", "__class__"], some (3, 25), f28⟩
def f29m : FMeta :=
 ⟨("Of", some "__init__"), ["self", "operator", "parts", "__class__"], some (4, 25), f29⟩
def f30m : FMeta :=
 ⟨("Does", some "__init__"), ["self", "index", "letter", "name"], none, f30⟩
def f31m : FMeta :=
 ⟨("Cannot", some "__init__"), ["self", "index", "letter"], none, f31⟩
def f32m : FMeta :=
 ⟨("Rule", some "__init__"), ["self", "operator", "looks", "letter", "target"], none, f32⟩
def f33m : FMeta :=
 ⟨("Book", some "__init__"), ["self", "operators", "rules", "name"], none, f33⟩
def f34m : FMeta :=
 ⟨("Book", some "has_shape"), ["self", "shape", "rule"], none, f34⟩
def f35m : FMeta :=
 ⟨("Book", some "narrowest"), ["self", "shape"], none, f35⟩
def fns : List FMeta := [f0m, f1m, f2m, f3m, f4m, f5m, f6m, f7m, f8m, f9m, f10m, f11m, f12m, f13m, f14m, f15m, f16m, f17m, f18m, f19m, f20m, f21m, f22m, f23m, f24m, f25m, f26m, f27m, f28m, f29m, f30m, f31m, f32m, f33m, f34m, f35m]
def gl : List (Str × Gn) := [(("parts_of" : Str), Gn.fn 0), (("does_of" : Str), Gn.fn 1), (("cannots_of" : Str), Gn.fn 2), (("is_right_part" : Str), Gn.fn 3), (("is_right" : Str), Gn.fn 4), (("check_rules" : Str), Gn.fn 5), (("is_straight" : Str), Gn.fn 6), (("is_plain" : Str), Gn.fn 7), (("has_shape" : Str), Gn.fn 8), (("_law_pen" : Str), Gn.fn 9), (("_law_draw" : Str), Gn.fn 10), (("_law_pick" : Str), Gn.fn 11), (("_law_letters" : Str), Gn.fn 12), (("_law_leaf" : Str), Gn.fn 13), (("_law_target" : Str), Gn.fn 14), (("_law_looks" : Str), Gn.fn 15), (("_law_pool" : Str), Gn.fn 16), (("_law_rule" : Str), Gn.fn 17), (("_law_book" : Str), Gn.fn 18), (("_law_made_term" : Str), Gn.fn 19), (("_law_made_rule" : Str), Gn.fn 20), (("_law_made_book" : Str), Gn.fn 21), (("_law_leaves" : Str), Gn.fn 22), (("_law_shapes" : Str), Gn.fn 23), (("law" : Str), Gn.fn 24), (("Term" : Str), Gn.cl 0), (("At" : Str), Gn.cl 1), (("Arg" : Str), Gn.cl 2), (("Got" : Str), Gn.cl 3), (("Of" : Str), Gn.cl 4), (("Does" : Str), Gn.cl 5), (("Cannot" : Str), Gn.cl 6), (("Rule" : Str), Gn.cl 7), (("Book" : Str), Gn.cl 8), (("SHAPES" : Str), Gn.ct (.tup [.str "plain", .str "asks", .str "looks", .str "copies", .str "all"])), (("all" : Str), Gn.bu), (("dict" : Str), Gn.bu), (("enumerate" : Str), Gn.bu), (("has_shape_books" : Str), Gn.fn 8), (("int" : Str), Gn.bu), (("isinstance" : Str), Gn.bu), (("len" : Str), Gn.bu), (("list" : Str), Gn.bu), (("min" : Str), Gn.bu), (("range" : Str), Gn.bu), (("set" : Str), Gn.bu), (("sorted" : Str), Gn.bu), (("super" : Str), Gn.bu), (("tuple" : Str), Gn.bu)]
def M : Meta := ⟨nms, cls, fns, gl⟩
end K05

/-! part K05_p2 -/
set_option Elab.async false
set_option linter.all false
set_option maxRecDepth 100000
set_option maxHeartbeats 4000000
namespace K05
open PySem Rs L2
local macro_rules | `(tactic| walk_at "ev") => `(tactic| simp only [W_ok, W_bad, W_bind, W_opt, W_fin, fin_rt, fin_nx, R.bind_ok, R.bind_bad, R.opt_some, R.opt_none, E_var, E_cst, E_bin, E_neg, E_cmp, E_chn, E_isn, E_and, E_or, E_not, E_tru, E_ife, E_att, E_idx, E_slc, E_tup, E_fz, E_mk, E_call, E_new, E_met, E_blt, E_bmt, E_len, E_str, E_isi, E_frz, E_fst, E_fmt, Eo_no, Eo_yes, Eb_no, Eb_yes, Es_nil, Es_cons, Ej_nil, Ej_cons, EF_lst, EF_cmp, EF_lof, EF_dct, EI_seq, EI_rng, EI_rng2, S_asg, S_par, S_sta, S_sti, S_aug, S_exp, S_mut, S_ret, S_ifs, S_for, S_sup, S_pas, S_con, S_brk, Ss_nil, Ss_cons, bindT_nm, bindT_tp, bindTs_nil, bindTs_cons, layZ_lst, layZ_dct, layM_eq, look_int, look_bl, look_str, look_non, look_tup, look_lst, look_scr, look_dct, look_ins, look_loc, seen_lst, seen_dct, seen_ins, List.getElem?_cons_zero, List.getElem?_cons_succ, List.length_cons, List.length_nil, List.set_cons_zero, List.set_cons_succ, Option.map_some, Option.map_none, Option.bind_some, Option.bind_none, Sc_len, List.map_cons, List.map_nil, Nat.zero_add, Nat.reduceAdd, Nat.reduceLT, reduceIte, Nat.lt_irrefl, and_self, and_true, true_and, if_true, if_false, ↓reduceIte, le_line, Nat.reduceLeDiff, Nat.zero_le, bin_add, bin_sub, cmp_lt, cmp_le, cmp_gt, cmp_ge, cmp_eq, cmp_ne, cmp_in, cmp_nin, blt_int, blt_max2, blt_min2, blt_tupl, blt_tupt, met_lst, met_tup, met_scr, met_str, met_int, len_lst, len_tup, len_scr, decide_true, decide_false, Bool.not_true, Bool.not_false, items_tup, items_lst, items_str, wipe_nil, wipe_cons, idx_t0, idx_t1, idx_t2, idx_t3, idx_l0, idx_l1, eq_ss, eq_ii, ne_ss, ne_ii, ne_bb, tru_bl])
local macro_rules | `(tactic| walk_at "go") => `(tactic| simp only [W_ok, W_bad, W_bind, W_opt, W_fin, fin_rt, fin_nx, R.bind_ok, R.bind_bad, R.opt_some, R.opt_none, E_var, E_cst, E_bin, E_neg, E_cmp, E_chn, E_isn, E_and, E_or, E_not, E_tru, E_ife, E_att, E_idx, E_slc, E_tup, E_fz, E_mk, E_call, E_new, E_met, E_blt, E_bmt, E_len, E_str, E_isi, E_frz, E_fst, E_fmt, Eo_no, Eo_yes, Eb_no, Eb_yes, Es_nil, Es_cons, Ej_nil, Ej_cons, EF_lst, EF_cmp, EF_lof, EF_dct, EI_seq, EI_rng, EI_rng2, S_asg, S_par, S_sta, S_sti, S_aug, S_exp, S_mut, S_ret, S_ifs, S_for, S_sup, S_pas, S_con, S_brk, Ss_nil, Ss_cons, bindT_nm, bindT_tp, bindTs_nil, bindTs_cons, layZ_lst, layZ_dct, layM_eq, look_int, look_bl, look_str, look_non, look_tup, look_lst, look_scr, look_dct, look_ins, look_loc, seen_lst, seen_dct, seen_ins, List.getElem?_cons_zero, List.getElem?_cons_succ, List.length_cons, List.length_nil, List.set_cons_zero, List.set_cons_succ, Option.map_some, Option.map_none, Option.bind_some, Option.bind_none, Sc_len, List.map_cons, List.map_nil, Nat.zero_add, Nat.reduceAdd, Nat.reduceLT, reduceIte, Nat.lt_irrefl, and_self, and_true, true_and, if_true, if_false, ↓reduceIte, le_line, Nat.reduceLeDiff, Nat.zero_le, bin_add, bin_sub, cmp_lt, cmp_le, cmp_gt, cmp_ge, cmp_eq, cmp_ne, cmp_in, cmp_nin, blt_int, blt_max2, blt_min2, blt_tupl, blt_tupt, met_lst, met_tup, met_scr, met_str, met_int, len_lst, len_tup, len_scr, decide_true, decide_false, Bool.not_true, Bool.not_false, items_tup, items_lst, items_str, wipe_nil, wipe_cons, idx_t0, idx_t1, idx_t2, idx_t3, idx_l0, idx_l1, eq_ss, eq_ii, ne_ss, ne_ii, ne_bb, tru_bl])
def penO (cs : List Int) (a l : Int) : List (Key × D) := [(.inr "cells", .lst (cs.map .int)), (.inr "at", .int a), (.inr "left", .int l)]
def Pen (N : Nat) (m : Mu) : Prop := ∃ cs a l, m[0]? = some (.dct (penO cs a l)) ∧ cs.length ≤ 63 ∧ 0 ≤ a ∧ a ≤ (N : Int)
def Ch (m m' : Mu) : Prop := m.length ≤ m'.length ∧ ∀ i, 0 < i → i < m.length → m'[i]? = m[i]?
theorem Ch.rfl' {m : Mu} : Ch m m := ⟨Nat.le_refl _, fun _ _ _ => rfl⟩
theorem Ch.trans {a b c : Mu} (h : Ch a b) (g : Ch b c) : Ch a c := ⟨Nat.le_trans h.1 g.1, fun i h1 h2 => (g.2 i h1 (Nat.lt_of_lt_of_le h2 h.1)).trans (h.2 i h1 h2)⟩
theorem Ch.ex {a b : Mu} (h : Ex a b) : Ch a b := by
  obtain ⟨x, rfl⟩ := h
  exact ⟨by simp, fun i _ h2 => List.getElem?_append_left h2⟩
theorem Pen.ex {N : Nat} {a b : Mu} (p : Pen N a) (h : Ex a b) : Pen N b := by
  obtain ⟨cs, x, l, h1, h2⟩ := p
  exact ⟨cs, x, l, h.get h1, h2⟩
theorem Pen.up {N M : Nat} {a : Mu} (p : Pen N a) (h : N ≤ M) : Pen M a := by
  obtain ⟨cs, x, l, h1, h2, h3, h4⟩ := p
  exact ⟨cs, x, l, h1, h2, h3, by omega⟩
theorem pen_cells {cs : List Int} {a l : Int} : idxD (.dct (penO cs a l)) (.str "cells") = some (.lst (cs.map .int)) := rfl
theorem pen_at {cs : List Int} {a l : Int} : idxD (.dct (penO cs a l)) (.str "at") = some (.int a) := rfl
theorem pen_left {cs : List Int} {a l : Int} : idxD (.dct (penO cs a l)) (.str "left") = some (.int l) := rfl
theorem sti_at {cs : List Int} {a l x : Int} {m : Mu} (h : m[0]? = some (.dct (penO cs a l))) : stiD (.loc 0) (.str "at") (.int x) m = some (m.set 0 (.dct (penO cs x l))) := by
  simp only [stiD, h]
  exact (if_pos (show 3 < line by rw [line_val]; decide)).trans rfl
theorem sti_left {cs : List Int} {a l x : Int} {m : Mu} (h : m[0]? = some (.dct (penO cs a l))) : stiD (.loc 0) (.str "left") (.int x) m = some (m.set 0 (.dct (penO cs a x))) := by
  simp only [stiD, h]
  exact (if_pos (show 3 < line by rw [line_val]; decide)).trans rfl
theorem set0 {m : Mu} {o : MO} (h : 0 < m.length) : (m.set 0 o)[0]? = some o := by simp [h]
theorem ch_set {m : Mu} {o : MO} : Ch m (m.set 0 o) := ⟨by simp, fun i h1 _ => List.getElem?_set_ne (by omega)⟩
theorem draw (k N : Nat) (m : Mu) (many : Int) (h : Pen N m) (hN : N ≤ 2 ^ 60) (h1 : 0 < many) (h2 : many < 2 ^ 60) :
    W (run T F (k + 2) 10 [.loc 0, .int many] m) (fun v m' => ∃ x : Int, v = .int x ∧ 0 ≤ x ∧ x < many ∧ Pen (N + 1) m' ∧ Ch m m') := by
  obtain ⟨cs, a, l, hm, hc, ha, haN⟩ := h
  have hl : 0 < m.length := (List.getElem?_eq_some_iff.mp hm).1
  rw [r10]
  unfold b10
  (try walk_at "ev")
  (try simp only [hm, seen_dct, pen_left])
  (try walk_at "ev")
  by_cases hb : many ≤ l
  · simp only [hb]
    (try walk_at "ev")
    (try simp only [hm, seen_dct, pen_left])
    (try walk_at "ev")
    (try simp only [bin_mod h1])
    (try walk_at "ev")
    (try simp only [hm, seen_dct, pen_left])
    (try walk_at "ev")
    simp only [bin_div 60 h1 (show many.natAbs < 2 ^ 60 by omega) (by decide)]
    (try walk_at "ev")
    rw [sti_left hm]
    (try walk_at "ev")
    exact ⟨_, rfl, Int.emod_nonneg _ (by omega), Int.emod_lt_of_pos _ h1, ⟨cs, a, _, set0 hl, hc, ha, by omega⟩, ch_set⟩
  · simp only [hb]
    (try walk_at "ev")
    (try simp only [hm, seen_dct, pen_at])
    (try walk_at "ev")
    rw [sti_at hm]
    generalize hm1 : m.set 0 (.dct (penO cs (a + 1) l)) = m1
    have hp1 : m1[0]? = some (.dct (penO cs (a + 1) l)) := by rw [← hm1]; exact set0 hl
    have hl1 : 0 < m1.length := (List.getElem?_eq_some_iff.mp hp1).1
    have hc1 : Ch m m1 := by rw [← hm1]; exact ch_set
    (try walk_at "ev")
    simp only [bin_mul 64 64 (show (41 : Int).natAbs < 2 ^ 64 by decide) (show a.natAbs < 2 ^ 64 by omega) (by decide)]
    (try walk_at "ev")
    (try simp only [hp1, seen_dct, pen_cells])
    (try walk_at "ev")
    simp only [ne_ints]
    refine W_mono (P := fun fl m' => m' = m1 ∧ ∃ c : Int, fl = .nx [some (.loc 0), some (.int many), some (.int a), some (.int c), none, none]) ?_ ?_
    · cases cs with
      | nil => exact ⟨rfl, _, rfl⟩
      | cons c0 cs =>
        have hlen : (0 : Int) < ((c0 :: cs).map D.int).length := by simp
        simp only [List.isEmpty_cons]
        (try walk_at "ev")
        (try simp only [hp1, seen_dct, pen_cells])
        (try walk_at "ev")
        rw [bin_mod (by simpa using hlen)]
        (try walk_at "ev")
        have h3 : 0 ≤ a % (((c0 :: cs).map D.int).length : Int) := Int.emod_nonneg _ (by omega)
        have h4 : a % (((c0 :: cs).map D.int).length : Int) < (((c0 :: cs).map D.int).length : Int) := Int.emod_lt_of_pos _ hlen
        have e5 : idxD (.lst ((c0 :: cs).map D.int)) (.int (a % (((c0 :: cs).map D.int).length : Int))) = ((c0 :: cs).map D.int)[(a % (((c0 :: cs).map D.int).length : Int)).toNat]? := atI_nn h3 h4
        obtain ⟨d, hd⟩ : ∃ d, ((c0 :: cs).map D.int)[(a % (((c0 :: cs).map D.int).length : Int)).toNat]? = some d := ⟨_, List.getElem?_eq_getElem (by omega)⟩
        rw [hd] at e5
        rw [List.getElem?_map] at hd
        obtain ⟨c, _, rfl⟩ := Option.map_eq_some_iff.mp hd
        have e6 : ((c0 :: cs).map D.int).length = cs.length + 1 := by simp
        rw [e6] at e5
        (try simp only [List.length_map])
        rw [List.map_cons] at e5
        rw [e5]
        exact ⟨c, rfl⟩
    · rintro _ m2 ⟨e2, c, rfl⟩
      rw [e2]
      (try walk_at "ev")
      (try simp only [hp1, seen_dct, pen_cells])
      (try walk_at "ev")
      have ten : binD .Pow (.int 10) (.int 18) = some (.int 1000000000000000000) := rfl
      by_cases h5 : a < (((cs.map D.int).length : Nat) : Int) ∧ (1000000000000000000 : Int) ≤ c
      · simp only [List.length_map] at h5
        (try simp only [List.length_map, h5.1, decide_true, ten])
        (try walk_at "ev")
        simp only [h5.2]
        (try walk_at "ev")
        (try simp only [ten])
        (try walk_at "ev")
        simp only [bin_div 60 h1 (show many.natAbs < 2 ^ 60 by omega) (by decide)]
        (try walk_at "ev")
        rw [sti_left hp1]
        (try walk_at "ev")
        (try simp only [ten])
        (try walk_at "ev")
        (try simp only [bin_mod h1])
        (try walk_at "ev")
        exact ⟨_, rfl, Int.emod_nonneg _ (by omega), Int.emod_lt_of_pos _ h1, ⟨cs, a + 1, _, set0 hl1, hc, by omega, by omega⟩, hc1.trans ch_set⟩
      · refine W_mono (P := fun fl m' => m' = m1 ∧ fl = .bl false) ?_ ?_
        · by_cases h6 : a < (((cs.map D.int).length : Nat) : Int)
          · have h7 : ¬ (1000000000000000000 : Int) ≤ c := fun z => h5 ⟨h6, z⟩
            simp only [List.length_map] at h6
            (try simp only [List.length_map, h6, decide_true, ten])
            (try walk_at "ev")
            simp only [h7]
            (try walk_at "ev")
          · simp only [List.length_map] at h6
            (try simp only [List.length_map, h6, decide_false])
            (try walk_at "ev")
        · rintro _ m3 ⟨e3, rfl⟩
          rw [e3]
          (try walk_at "ev")
          have md : ∀ (x p : Int), 0 < p → 0 ≤ x % p ∧ x % p < p := fun x p hp => ⟨Int.emod_nonneg _ (by omega), Int.emod_lt_of_pos _ hp⟩
          rw [bin_mod (by decide)]
          (try walk_at "ev")
          have a1 := md c 2147483587 (by decide)
          generalize c % 2147483587 = c1 at a1 ⊢
          rw [bin_mul 64 64 (by omega) (by decide) (by decide)]
          (try walk_at "ev")
          rw [bin_mul 64 64 (by decide) (by omega) (by decide)]
          (try walk_at "ev")
          rw [bin_mul 128 64 (by omega) (by omega) (by decide)]
          (try walk_at "ev")
          rw [bin_mul 64 64 (by decide) (by omega) (by decide)]
          (try walk_at "ev")
          rw [bin_mod (by decide)]
          (try walk_at "ev")
          generalize c1 * 48271 + 40014 * a * a + 59 * a + 17 = c2
          have a2 := md c2 2147483629 (by decide)
          generalize c2 % 2147483629 = c3 at a2 ⊢
          rw [bin_mul 64 64 (by omega) (by omega) (by decide)]
          (try walk_at "ev")
          generalize c3 * (c3 + 69621) = c4
          rw [bin_mod (by decide)]
          (try walk_at "ev")
          have a3 := md c4 2147483549 (by decide)
          generalize c4 % 2147483549 = c5 at a3 ⊢
          rw [bin_mul 64 64 (by omega) (by omega) (by decide)]
          (try walk_at "ev")
          generalize c5 * c5 = c6
          rw [bin_mod (by decide)]
          (try walk_at "ev")
          rw [bin_div 64 (by decide) (by decide) (by decide)]
          (try walk_at "ev")
          rw [bin_mod h1]
          (try walk_at "ev")
          exact ⟨_, rfl, Int.emod_nonneg _ (by omega), Int.emod_lt_of_pos _ h1, ⟨cs, a + 1, l, hp1, hc, by omega, by omega⟩, hc1⟩
/-- one of some items -/
theorem pick (k N : Nat) (m : Mu) (ds : List D) (h : Pen N m) (hN : N ≤ 2 ^ 60) (h1 : ds ≠ []) (h2 : ds.length < 2 ^ 60) :
    W (run T F (k + 3) 11 [.loc 0, .lst ds] m) (fun v m' => v ∈ ds ∧ Pen (N + 1) m' ∧ Ch m m') := by
  rw [r11]
  unfold b11
  (try walk_at "ev")
  have hp : 0 < ds.length := List.length_pos_iff.mpr h1
  refine W_mono (draw k N m ds.length h hN (by omega) (by omega)) fun v m' ⟨x, e, hx, hx2, hp', hc⟩ => ?_
  subst e
  have e5 : idxD (.lst ds) (.int x) = ds[x.toNat]? := atI_nn hx hx2
  obtain ⟨d, hd⟩ : ∃ d, ds[x.toNat]? = some d := ⟨_, List.getElem?_eq_getElem (by omega)⟩
  rw [e5, hd]
  exact ⟨List.mem_of_getElem? hd, hp', hc⟩

end K05

/-! part RsP3 -/
set_option Elab.async false
set_option linter.all false
set_option maxRecDepth 100000
set_option maxHeartbeats 4000000
/-! own ==, for any law: the fields that are compared -/
namespace Rs
open PySem L2
theorem pre_zip : ∀ {n : List Nat} {fs : List (Nat × D)}, pre n fs = true → ∃ (xs : List D) (r : List (Nat × D)), xs.length = n.length ∧ fs = n.zip xs ++ r
  | [], fs, _ => ⟨[], fs, rfl, rfl⟩
  | k :: n, [], h => by
    unfold pre at h
    simp at h
  | k :: n, (f, x) :: fs, h => by
    unfold pre at h
    simp only [List.map_cons, List.length_cons, List.take_succ_cons, beq_iff_eq, List.cons.injEq] at h
    obtain ⟨rfl, h⟩ := h
    obtain ⟨xs, r, e1, e2⟩ := pre_zip (n := n) (fs := fs) (by unfold pre; rw [beq_iff_eq]; exact h)
    exact ⟨x :: xs, r, by simp [e1], by rw [e2]; rfl⟩
theorem depF_zip : ∀ {n : List Nat} {xs : List D} {r : List (Nat × D)} {i : Nat}, depF (n.zip xs ++ r) = some i → xs.length = n.length → ∃ e, depL xs = some e ∧ e ≤ i
  | [], [], r, i, h, _ => ⟨0, by simp only [depL], Nat.zero_le _⟩
  | k :: n, x :: xs, r, i, h, hl => by
    have h : depF ((k, x) :: (n.zip xs ++ r)) = some i := h
    simp only [depF] at h
    cases h1 : dep x with
    | none => rw [h1] at h; cases h
    | some a =>
      cases h2 : depF (n.zip xs ++ r) with
      | none => rw [h1, h2] at h; cases h
      | some b =>
        rw [h1, h2] at h
        cases h
        obtain ⟨e, h3, h4⟩ := depF_zip h2 (by simpa using hl)
        exact ⟨max a e, by simp only [depL, h1, h3], by omega⟩
theorem dep_zip {n : List Nat} {xs : List D} {r : List (Nat × D)} {i c : Nat} (h : dep (.ins c (n.zip xs ++ r)) = some i) (hl : xs.length = n.length) : ∃ e, dep (.tup xs) = some e ∧ e + 2 ≤ i := by
  simp only [dep] at h
  obtain ⟨j, h1, rfl⟩ := Option.map_eq_some_iff.mp h
  obtain ⟨e, h2, h3⟩ := depF_zip h1 hl
  exact ⟨e + 1, by simp only [dep, h2, Option.map_some], by omega⟩
theorem eqF_zip {T : Tab} : ∀ {n : List Nat} {xs ys : List D} {r r' : List (Nat × D)}, xs.length = n.length → ys.length = n.length → eqF T n (n.zip xs ++ r) (n.zip ys ++ r') = eqL T xs ys
  | [], [], [], _, _, _, _ => by rw [eqF_0, eqL_0]
  | k :: n, x :: xs, y :: ys, r, r', h1, h2 => by
    show eqF T (k :: n) ((k, x) :: (n.zip xs ++ r)) ((k, y) :: (n.zip ys ++ r')) = _
    rw [eqF_1, eqL_1, eqF_zip (by simpa using h1) (by simpa using h2)]
theorem att_of {T : Tab} {m : Mu} {c f : Nat} {q : Cls} {fs : List (Nat × D)} {d : D} (h : T[c]? = some q) (h1 : q.exf.isNone = true) (h2 : q.flds.contains f = true) (h3 : fs.lookup f = some d) : attD T m (.ins c fs) f = some d := by
  unfold attD
  simp only [look_ins, h, h1, h2, Bool.and_self, if_true, h3]
theorem isi_own {T : Tab} {c c' : Nat} {q : Cls} {fs : List (Nat × D)} (h : T[c]? = some q) (h1 : q.exf.isNone = true) : isiD T (.ins c fs) (.own c') = some (q.mro.contains c') := by
  unfold isiD
  simp only [h, Option.bind_some, h1, if_true]
end Rs

/-! part K05_p3 -/
set_option Elab.async false
set_option linter.all false
set_option maxRecDepth 100000
set_option maxHeartbeats 4000000
namespace K05
open PySem Rs L2
local macro_rules | `(tactic| walk_at "ev") => `(tactic| simp only [W_ok, W_bad, W_bind, W_opt, W_fin, fin_rt, fin_nx, R.bind_ok, R.bind_bad, R.opt_some, R.opt_none, E_var, E_cst, E_bin, E_neg, E_cmp, E_chn, E_isn, E_and, E_or, E_not, E_tru, E_ife, E_att, E_idx, E_slc, E_tup, E_fz, E_mk, E_call, E_new, E_met, E_blt, E_bmt, E_len, E_str, E_isi, E_frz, E_fst, E_fmt, Eo_no, Eo_yes, Eb_no, Eb_yes, Es_nil, Es_cons, Ej_nil, Ej_cons, EF_lst, EF_cmp, EF_lof, EF_dct, EI_seq, EI_rng, EI_rng2, S_asg, S_par, S_sta, S_sti, S_aug, S_exp, S_mut, S_ret, S_ifs, S_for, S_sup, S_pas, S_con, S_brk, Ss_nil, Ss_cons, bindT_nm, bindT_tp, bindTs_nil, bindTs_cons, layZ_lst, layZ_dct, layM_eq, look_int, look_bl, look_str, look_non, look_tup, look_lst, look_scr, look_dct, look_ins, look_loc, seen_lst, seen_dct, seen_ins, List.getElem?_cons_zero, List.getElem?_cons_succ, List.length_cons, List.length_nil, List.set_cons_zero, List.set_cons_succ, Option.map_some, Option.map_none, Option.bind_some, Option.bind_none, Sc_len, List.map_cons, List.map_nil, Nat.zero_add, Nat.reduceAdd, Nat.reduceLT, reduceIte, Nat.lt_irrefl, and_self, and_true, true_and, if_true, if_false, ↓reduceIte, le_line, Nat.reduceLeDiff, Nat.zero_le, bin_add, bin_sub, cmp_lt, cmp_le, cmp_gt, cmp_ge, cmp_eq, cmp_ne, cmp_in, cmp_nin, blt_int, blt_max2, blt_min2, blt_tupl, blt_tupt, met_lst, met_tup, met_scr, met_str, met_int, len_lst, len_tup, len_scr, decide_true, decide_false, Bool.not_true, Bool.not_false, items_tup, items_lst, items_str, wipe_nil, wipe_cons, idx_t0, idx_t1, idx_t2, idx_t3, idx_l0, idx_l1, eq_ss, eq_ii, ne_ss, ne_ii, ne_bb, tru_bl])
local macro_rules | `(tactic| walk_at "go") => `(tactic| simp only [W_ok, W_bad, W_bind, W_opt, W_fin, fin_rt, fin_nx, R.bind_ok, R.bind_bad, R.opt_some, R.opt_none, E_var, E_cst, E_bin, E_neg, E_cmp, E_chn, E_isn, E_and, E_or, E_not, E_tru, E_ife, E_att, E_idx, E_slc, E_tup, E_fz, E_mk, E_call, E_new, E_met, E_blt, E_bmt, E_len, E_str, E_isi, E_frz, E_fst, E_fmt, Eo_no, Eo_yes, Eb_no, Eb_yes, Es_nil, Es_cons, Ej_nil, Ej_cons, EF_lst, EF_cmp, EF_lof, EF_dct, EI_seq, EI_rng, EI_rng2, S_asg, S_par, S_sta, S_sti, S_aug, S_exp, S_mut, S_ret, S_ifs, S_for, S_sup, S_pas, S_con, S_brk, Ss_nil, Ss_cons, bindT_nm, bindT_tp, bindTs_nil, bindTs_cons, layZ_lst, layZ_dct, layM_eq, look_int, look_bl, look_str, look_non, look_tup, look_lst, look_scr, look_dct, look_ins, look_loc, seen_lst, seen_dct, seen_ins, List.getElem?_cons_zero, List.getElem?_cons_succ, List.length_cons, List.length_nil, List.set_cons_zero, List.set_cons_succ, Option.map_some, Option.map_none, Option.bind_some, Option.bind_none, Sc_len, List.map_cons, List.map_nil, Nat.zero_add, Nat.reduceAdd, Nat.reduceLT, reduceIte, Nat.lt_irrefl, and_self, and_true, true_and, if_true, if_false, ↓reduceIte, le_line, Nat.reduceLeDiff, Nat.zero_le, bin_add, bin_sub, cmp_lt, cmp_le, cmp_gt, cmp_ge, cmp_eq, cmp_ne, cmp_in, cmp_nin, blt_int, blt_max2, blt_min2, blt_tupl, blt_tupt, met_lst, met_tup, met_scr, met_str, met_int, len_lst, len_tup, len_scr, decide_true, decide_false, Bool.not_true, Bool.not_false, items_tup, items_lst, items_str, wipe_nil, wipe_cons, idx_t0, idx_t1, idx_t2, idx_t3, idx_l0, idx_l1, eq_ss, eq_ii, ne_ss, ne_ii, ne_bb, tru_bl, Bool.not_true, Bool.not_false])
theorem eqg_no {c : Nat} {x : Nat × List Nat × Nat} (h : (T[c]?).bind Cls.eqg = some x) : False := by
  rcases c with _ | _ | _ | _ | _ | _ | _ | _ | _ | c
  · rw [T0] at h
    cases h
  · rw [T1] at h
    cases h
  · rw [T2] at h
    cases h
  · rw [T3] at h
    cases h
  · rw [T4] at h
    cases h
  · rw [T5] at h
    cases h
  · rw [T6] at h
    cases h
  · rw [T7] at h
    cases h
  · rw [T8] at h
    cases h
  · have : T[c + 1 + 1 + 1 + 1 + 1 + 1 + 1 + 1 + 1]? = none := List.getElem?_eq_none (by show 9 ≤ _; omega)
    rw [this] at h
    cases h

end K05

/-! part K05_p5 -/
set_option Elab.async false
set_option linter.all false
set_option maxRecDepth 100000
set_option maxHeartbeats 4000000
namespace K05
open PySem Rs L2
local macro_rules | `(tactic| walk_at "ev") => `(tactic| simp only [W_ok, W_bad, W_bind, W_opt, W_fin, fin_rt, fin_nx, R.bind_ok, R.bind_bad, R.opt_some, R.opt_none, E_var, E_cst, E_bin, E_neg, E_cmp, E_chn, E_isn, E_and, E_or, E_not, E_tru, E_ife, E_att, E_idx, E_slc, E_tup, E_fz, E_mk, E_call, E_new, E_met, E_blt, E_bmt, E_len, E_str, E_isi, E_frz, E_fst, E_fmt, Eo_no, Eo_yes, Eb_no, Eb_yes, Es_nil, Es_cons, Ej_nil, Ej_cons, EF_lst, EF_cmp, EF_lof, EF_dct, EI_seq, EI_rng, EI_rng2, S_asg, S_par, S_sta, S_sti, S_aug, S_exp, S_mut, S_ret, S_ifs, S_for, S_sup, S_pas, S_con, S_brk, Ss_nil, Ss_cons, bindT_nm, bindT_tp, bindTs_nil, bindTs_cons, layZ_lst, layZ_dct, layM_eq, look_int, look_bl, look_str, look_non, look_tup, look_lst, look_scr, look_dct, look_ins, look_loc, seen_lst, seen_dct, seen_ins, List.getElem?_cons_zero, List.getElem?_cons_succ, List.length_cons, List.length_nil, List.set_cons_zero, List.set_cons_succ, Option.map_some, Option.map_none, Option.bind_some, Option.bind_none, Sc_len, List.map_cons, List.map_nil, Nat.zero_add, Nat.reduceAdd, Nat.reduceLT, reduceIte, Nat.lt_irrefl, and_self, and_true, true_and, if_true, if_false, ↓reduceIte, le_line, Nat.reduceLeDiff, Nat.zero_le, bin_add, bin_sub, cmp_lt, cmp_le, cmp_gt, cmp_ge, cmp_eq, cmp_ne, cmp_in, cmp_nin, blt_int, blt_max2, blt_min2, blt_tupl, blt_tupt, met_lst, met_tup, met_scr, met_str, met_int, len_lst, len_tup, len_scr, decide_true, decide_false, Bool.not_true, Bool.not_false, items_tup, items_lst, items_str, wipe_nil, wipe_cons, idx_t0, idx_t1, idx_t2, idx_t3, idx_l0, idx_l1, eq_ss, eq_ii, ne_ss, ne_ii, ne_bb, tru_bl])
local macro_rules | `(tactic| walk_at "go") => `(tactic| simp only [W_ok, W_bad, W_bind, W_opt, W_fin, fin_rt, fin_nx, R.bind_ok, R.bind_bad, R.opt_some, R.opt_none, E_var, E_cst, E_bin, E_neg, E_cmp, E_chn, E_isn, E_and, E_or, E_not, E_tru, E_ife, E_att, E_idx, E_slc, E_tup, E_fz, E_mk, E_call, E_new, E_met, E_blt, E_bmt, E_len, E_str, E_isi, E_frz, E_fst, E_fmt, Eo_no, Eo_yes, Eb_no, Eb_yes, Es_nil, Es_cons, Ej_nil, Ej_cons, EF_lst, EF_cmp, EF_lof, EF_dct, EI_seq, EI_rng, EI_rng2, S_asg, S_par, S_sta, S_sti, S_aug, S_exp, S_mut, S_ret, S_ifs, S_for, S_sup, S_pas, S_con, S_brk, Ss_nil, Ss_cons, bindT_nm, bindT_tp, bindTs_nil, bindTs_cons, layZ_lst, layZ_dct, layM_eq, look_int, look_bl, look_str, look_non, look_tup, look_lst, look_scr, look_dct, look_ins, look_loc, seen_lst, seen_dct, seen_ins, List.getElem?_cons_zero, List.getElem?_cons_succ, List.length_cons, List.length_nil, List.set_cons_zero, List.set_cons_succ, Option.map_some, Option.map_none, Option.bind_some, Option.bind_none, Sc_len, List.map_cons, List.map_nil, Nat.zero_add, Nat.reduceAdd, Nat.reduceLT, reduceIte, Nat.lt_irrefl, and_self, and_true, true_and, if_true, if_false, ↓reduceIte, le_line, Nat.reduceLeDiff, Nat.zero_le, bin_add, bin_sub, cmp_lt, cmp_le, cmp_gt, cmp_ge, cmp_eq, cmp_ne, cmp_in, cmp_nin, blt_int, blt_max2, blt_min2, blt_tupl, blt_tupt, met_lst, met_tup, met_scr, met_str, met_int, len_lst, len_tup, len_scr, decide_true, decide_false, Bool.not_true, Bool.not_false, items_tup, items_lst, items_str, wipe_nil, wipe_cons, idx_t0, idx_t1, idx_t2, idx_t3, idx_l0, idx_l1, eq_ss, eq_ii, ne_ss, ne_ii, ne_bb, tru_bl])
theorem clsOf_last {m : Mu} {c : Nat} {fs : List (Nat × D)} : clsOf (m ++ [.ins c fs]) (.loc m.length) = some c := by
  unfold clsOf
  rw [look_loc, get_last, seen_ins]
theorem sta_last {m : Mu} {c f : Nat} {fs : List (Nat × D)} {d : D} {q : Cls} (h : T[c]? = some q) (h1 : q.exf.isNone = true) (h2 : q.flds.contains f = true) (h3 : fs.length < 900) : staD T (.loc m.length) f d (m ++ [.ins c fs]) = some (m ++ [.ins c (putA f d fs)]) := by
  unfold staD
  simp only [get_last, h, h1, h2, h3, Bool.and_self, decide_true, if_true, set_last]
theorem frz_last {m : Mu} {c : Nat} {fs : List (Nat × D)} : frzD (.loc m.length) (m ++ [.ins c fs]) = .ok (.ins c fs) (m ++ [.dead]) := by
  unfold frzD
  simp only [get_last, set_last]
theorem new_is {c f : Nat} {q : Cls} {ds : List D} {m : Mu} {G : Nat → List D → Mu → R D} {fs : List (Nat × D)} (h : T[c]? = some q) (h1 : q.exf.isNone = true) (h2 : q.ini = some f) (h3 : q.fin = true) (hr : G f (.loc m.length :: ds) (m ++ [.ins c []]) = .ok .non (m ++ [.ins c fs])) : newD T G c ds m = .ok (.ins c fs) (m ++ [.dead]) := by
  unfold newD
  simp only [h, h1, h2, h3, hr, if_true, frz_last]
theorem init_term {c : Nat} {q : Cls} (k : Nat) (m : Mu) (w s : D) (ps : List D) (x : D) (hx : look (m ++ [.ins c [(2, w), (3, s)]]) x = .tup ps ∨ look (m ++ [.ins c [(2, w), (3, s)]]) x = .lst ps) (h : T[c]? = some q) (h1 : q.exf.isNone = true) (h2 : q.flds.contains 2 = true) (h3 : q.flds.contains 0 = true) (h4 : q.flds.contains 3 = true) :
    run T F (k + 1) 25 [.loc m.length, w, s, x] (m ++ [.ins c []]) = .ok .non (m ++ [.ins c [(2, w), (3, s), (0, .tup ps)]]) := by
  have hb : bltD .tuple [look (m ++ [.ins c [(2, w), (3, s)]]) x] = some (.tup ps) := by rcases hx with hx | hx <;> rw [hx] <;> rfl
  rw [r25]
  unfold b25
  (try walk_at "ev")
  rw [sta_last h h1 h2 (by decide)]
  (try walk_at "ev")
  rw [sta_last h h1 h4 (by simp [putA])]
  (try walk_at "ev")
  simp only [putA, Nat.reduceEqDiff, if_false]
  rw [hb]
  (try walk_at "ev")
  rw [sta_last h h1 h3 (by simp)]
  (try walk_at "ev")
  simp [putA]
theorem new_arg (k : Nat) (n : D) (m : Mu) : newD T (run T F (k + 2)) 2 [n] m = .ok (.ins 2 [(2, .str "arg"), (3, n), (0, .tup []), (7, n)]) (m ++ [.dead]) := by
  refine new_is (f := 27) T2 rfl rfl rfl ?_
  rw [r27]
  unfold b27
  (try walk_at "ev")
  rw [clsOf_last]
  (try walk_at "ev")
  rw [init_term (c := 2) (q := c2) k m _ _ [] (.tup []) (.inl rfl) T2 rfl rfl rfl rfl]
  (try walk_at "ev")
  rw [sta_last T2 rfl rfl (by simp)]
  (try walk_at "ev")
  simp [putA]
theorem new_got (k : Nat) (n : D) (m : Mu) : newD T (run T F (k + 2)) 3 [n] m = .ok (.ins 3 [(2, .str "got"), (3, n), (0, .tup []), (6, n)]) (m ++ [.dead]) := by
  refine new_is (f := 28) T3 rfl rfl rfl ?_
  rw [r28]
  unfold b28
  (try walk_at "ev")
  rw [clsOf_last]
  (try walk_at "ev")
  rw [init_term (c := 3) (q := c3) k m _ _ [] (.tup []) (.inl rfl) T3 rfl rfl rfl rfl]
  (try walk_at "ev")
  rw [sta_last T3 rfl rfl (by simp)]
  (try walk_at "ev")
  simp [putA]
theorem new_of (k : Nat) (s x : D) (ps : List D) (m : Mu) (hx : look (m ++ [.ins 4 [(2, .str "of"), (3, s)]]) x = .tup ps ∨ look (m ++ [.ins 4 [(2, .str "of"), (3, s)]]) x = .lst ps) : newD T (run T F (k + 2)) 4 [s, x] m = .ok (.ins 4 [(2, .str "of"), (3, s), (0, .tup ps), (5, s)]) (m ++ [.dead]) := by
  refine new_is (f := 29) T4 rfl rfl rfl ?_
  rw [r29]
  unfold b29
  (try walk_at "ev")
  rw [clsOf_last]
  (try walk_at "ev")
  rw [init_term (c := 4) (q := c4) k m _ _ ps x hx T4 rfl rfl rfl rfl]
  (try walk_at "ev")
  rw [sta_last T4 rfl rfl (by simp)]
  (try walk_at "ev")
  simp [putA]
theorem new_does (k : Nat) (i l n : D) (m : Mu) : newD T (run T F (k + 1)) 5 [i, l, n] m = .ok (.ins 5 [(7, i), (12, l), (6, n)]) (m ++ [.dead]) := by
  refine new_is (f := 30) T5 rfl rfl rfl ?_
  rw [r30]
  unfold b30
  (try walk_at "ev")
  rw [sta_last T5 rfl rfl (by simp)]
  (try walk_at "ev")
  rw [sta_last T5 rfl rfl (by simp [putA])]
  (try walk_at "ev")
  rw [sta_last T5 rfl rfl (by simp [putA])]
  (try walk_at "ev")
  simp [putA]
theorem new_cannot (k : Nat) (i l : D) (m : Mu) : newD T (run T F (k + 1)) 6 [i, l] m = .ok (.ins 6 [(7, i), (12, l)]) (m ++ [.dead]) := by
  refine new_is (f := 31) T6 rfl rfl rfl ?_
  rw [r31]
  unfold b31
  (try walk_at "ev")
  rw [sta_last T6 rfl rfl (by simp)]
  (try walk_at "ev")
  rw [sta_last T6 rfl rfl (by simp [putA])]
  (try walk_at "ev")
  simp [putA]

end K05

/-! part K05_p6 -/
set_option Elab.async false
set_option linter.all false
set_option maxRecDepth 100000
set_option maxHeartbeats 4000000
namespace K05
open PySem Rs L2
local macro_rules | `(tactic| walk_at "ev") => `(tactic| simp only [W_ok, W_bad, W_bind, W_opt, W_fin, fin_rt, fin_nx, R.bind_ok, R.bind_bad, R.opt_some, R.opt_none, E_var, E_cst, E_bin, E_neg, E_cmp, E_chn, E_isn, E_and, E_or, E_not, E_tru, E_ife, E_att, E_idx, E_slc, E_tup, E_fz, E_mk, E_call, E_new, E_met, E_blt, E_bmt, E_len, E_str, E_isi, E_frz, E_fst, E_fmt, Eo_no, Eo_yes, Eb_no, Eb_yes, Es_nil, Es_cons, Ej_nil, Ej_cons, EF_lst, EF_cmp, EF_lof, EF_dct, EI_seq, EI_rng, EI_rng2, S_asg, S_par, S_sta, S_sti, S_aug, S_exp, S_mut, S_ret, S_ifs, S_for, S_sup, S_pas, S_con, S_brk, Ss_nil, Ss_cons, bindT_nm, bindT_tp, bindTs_nil, bindTs_cons, layZ_lst, layZ_dct, layM_eq, look_int, look_bl, look_str, look_non, look_tup, look_lst, look_scr, look_dct, look_ins, look_loc, seen_lst, seen_dct, seen_ins, List.getElem?_cons_zero, List.getElem?_cons_succ, List.length_cons, List.length_nil, List.set_cons_zero, List.set_cons_succ, Option.map_some, Option.map_none, Option.bind_some, Option.bind_none, Sc_len, List.map_cons, List.map_nil, Nat.zero_add, Nat.reduceAdd, Nat.reduceLT, reduceIte, Nat.lt_irrefl, and_self, and_true, true_and, if_true, if_false, ↓reduceIte, le_line, Nat.reduceLeDiff, Nat.zero_le, bin_add, bin_sub, cmp_lt, cmp_le, cmp_gt, cmp_ge, cmp_eq, cmp_ne, cmp_in, cmp_nin, blt_int, blt_max2, blt_min2, blt_tupl, blt_tupt, met_lst, met_tup, met_scr, met_str, met_int, len_lst, len_tup, len_scr, decide_true, decide_false, Bool.not_true, Bool.not_false, items_tup, items_lst, items_str, wipe_nil, wipe_cons, idx_t0, idx_t1, idx_t2, idx_t3, idx_l0, idx_l1, eq_ss, eq_ii, ne_ss, ne_ii, ne_bb, tru_bl])
local macro_rules | `(tactic| walk_at "go") => `(tactic| simp only [W_ok, W_bad, W_bind, W_opt, W_fin, fin_rt, fin_nx, R.bind_ok, R.bind_bad, R.opt_some, R.opt_none, E_var, E_cst, E_bin, E_neg, E_cmp, E_chn, E_isn, E_and, E_or, E_not, E_tru, E_ife, E_att, E_idx, E_slc, E_tup, E_fz, E_mk, E_call, E_new, E_met, E_blt, E_bmt, E_len, E_str, E_isi, E_frz, E_fst, E_fmt, Eo_no, Eo_yes, Eb_no, Eb_yes, Es_nil, Es_cons, Ej_nil, Ej_cons, EF_lst, EF_cmp, EF_lof, EF_dct, EI_seq, EI_rng, EI_rng2, S_asg, S_par, S_sta, S_sti, S_aug, S_exp, S_mut, S_ret, S_ifs, S_for, S_sup, S_pas, S_con, S_brk, Ss_nil, Ss_cons, bindT_nm, bindT_tp, bindTs_nil, bindTs_cons, layZ_lst, layZ_dct, layM_eq, look_int, look_bl, look_str, look_non, look_tup, look_lst, look_scr, look_dct, look_ins, look_loc, seen_lst, seen_dct, seen_ins, List.getElem?_cons_zero, List.getElem?_cons_succ, List.length_cons, List.length_nil, List.set_cons_zero, List.set_cons_succ, Option.map_some, Option.map_none, Option.bind_some, Option.bind_none, Sc_len, List.map_cons, List.map_nil, Nat.zero_add, Nat.reduceAdd, Nat.reduceLT, reduceIte, Nat.lt_irrefl, and_self, and_true, true_and, if_true, if_false, ↓reduceIte, le_line, Nat.reduceLeDiff, Nat.zero_le, bin_add, bin_sub, cmp_lt, cmp_le, cmp_gt, cmp_ge, cmp_eq, cmp_ne, cmp_in, cmp_nin, blt_int, blt_max2, blt_min2, blt_tupl, blt_tupt, met_lst, met_tup, met_scr, met_str, met_int, len_lst, len_tup, len_scr, decide_true, decide_false, Bool.not_true, Bool.not_false, items_tup, items_lst, items_str, wipe_nil, wipe_cons, idx_t0, idx_t1, idx_t2, idx_t3, idx_l0, idx_l1, eq_ss, eq_ii, ne_ss, ne_ii, ne_bb, tru_bl])
theorem new_rule (k : Nat) (o x l t : D) (ps : List D) (m : Mu) (hx : look (m ++ [.ins 7 [(5, o)]]) x = .tup ps ∨ look (m ++ [.ins 7 [(5, o)]]) x = .lst ps) : newD T (run T F (k + 1)) 7 [o, x, l, t] m = .ok (.ins 7 [(5, o), (1, .tup ps), (12, l), (8, t)]) (m ++ [.dead]) := by
  have hb : bltD .tuple [look (m ++ [.ins 7 [(5, o)]]) x] = some (.tup ps) := by rcases hx with hx | hx <;> rw [hx] <;> rfl
  refine new_is (f := 32) T7 rfl rfl rfl ?_
  rw [r32]
  unfold b32
  (try walk_at "ev")
  rw [sta_last T7 rfl rfl (by simp)]
  (try walk_at "ev")
  simp only [putA, Nat.reduceEqDiff, if_false]
  rw [hb]
  (try walk_at "ev")
  rw [sta_last T7 rfl rfl (by simp [putA])]
  (try walk_at "ev")
  rw [sta_last T7 rfl rfl (by simp [putA])]
  (try walk_at "ev")
  rw [sta_last T7 rfl rfl (by simp [putA])]
  (try walk_at "ev")
  simp [putA]
/-! terms: as the law's tuples, as instances -/
inductive Tm where
  | arg (n : Int)
  | got (s : Str)
  | of (s : Str) (ps : List Tm)
theorem Tm.ind {P : Tm → Prop} (h2 : ∀ n, P (.arg n)) (h3 : ∀ s, P (.got s)) (h4 : ∀ s ps, (∀ p ∈ ps, P p) → P (.of s ps)) : ∀ t, P t := fun t =>
  Tm.rec (motive_1 := P) (motive_2 := fun ps => ∀ p ∈ ps, P p) h2 h3 h4 (fun p hp => nomatch hp) (fun p ps h1 h2 q hq => by
    rcases List.mem_cons.mp hq with rfl | hq
    · exact h1
    · exact h2 q hq) t
mutual
def tupD : Tm → D
  | .arg n => .tup [.str "arg", .int n]
  | .got s => .tup [.str "got", .str s]
  | .of s ps => .tup [.str "of", .str s, .tup (tupDs ps)]
def tupDs : List Tm → List D
  | [] => []
  | p :: ps => tupD p :: tupDs ps
end
mutual
def insD : Tm → D
  | .arg n => .ins 2 [(2, .str "arg"), (3, .int n), (0, .tup []), (7, .int n)]
  | .got s => .ins 3 [(2, .str "got"), (3, .str s), (0, .tup []), (6, .str s)]
  | .of s ps => .ins 4 [(2, .str "of"), (3, .str s), (0, .tup (insDs ps)), (5, .str s)]
def insDs : List Tm → List D
  | [] => []
  | p :: ps => insD p :: insDs ps
end
theorem tupDs_map : ∀ ps, tupDs ps = ps.map tupD
  | [] => rfl
  | p :: ps => by rw [tupDs, tupDs_map ps, List.map_cons]
theorem insDs_map : ∀ ps, insDs ps = ps.map insD
  | [] => rfl
  | p :: ps => by rw [insDs, insDs_map ps, List.map_cons]
theorem tup_arg {n : Int} : tupD (.arg n) = .tup [.str "arg", .int n] := by rw [tupD]
theorem tup_got {n : Str} : tupD (.got n) = .tup [.str "got", .str n] := by rw [tupD]
theorem tup_of {s : Str} {ps : List Tm} : tupD (.of s ps) = .tup [.str "of", .str s, .tup (ps.map tupD)] := by rw [tupD, tupDs_map]
theorem ins_arg {n : Int} : insD (.arg n) = .ins 2 [(2, .str "arg"), (3, .int n), (0, .tup []), (7, .int n)] := by rw [insD]
theorem ins_got {n : Str} : insD (.got n) = .ins 3 [(2, .str "got"), (3, .str n), (0, .tup []), (6, .str n)] := by rw [insD]
theorem ins_of {s : Str} {ps : List Tm} : insD (.of s ps) = .ins 4 [(2, .str "of"), (3, .str s), (0, .tup (ps.map insD)), (5, .str s)] := by rw [insD, insDs_map]

end K05

/-! part RsP4 -/
set_option Elab.async false
set_option linter.all false
set_option maxRecDepth 100000
set_option maxHeartbeats 4000000
/-! lists of the store, slices, texts -/
namespace Rs
open PySem L2
def At (m : Mu) (j : Nat) (ds : List D) : Prop := m[j]? = some (.lst ds)
section
variable {m m' : Mu} {j : Nat} {ds es xs : List D} {d a : D}
theorem At.lt (h : At m j ds) : j < m.length := (List.getElem?_eq_some_iff.mp h).1
theorem At.new : At (m ++ [.lst ds]) m.length ds := get_last
theorem At.set (h : At m j ds) : At (m.set j (.lst es)) j es := by
  have := h.lt
  unfold At
  simp [this]
theorem At.set_ne {i : Nat} {o : MO} (h : At m j ds) (hi : i ≠ j) : At (m.set i o) j ds := by
  unfold At
  rw [List.getElem?_set_ne hi]
  exact h
theorem At.ex (h : At m j ds) (g : Ex m m') : At m' j ds := g.get h
theorem At.app (h : At m j ds) (hl : ds.length < 1000) : mutD .append (.loc j) d m = some (m.set j (.lst (ds ++ [d]))) := by
  unfold mutD
  simp only [show m[j]? = some (.lst ds) from h]
  exact if_pos (by rw [line_val]; omega)
theorem At.ext (h : At m j ds) (hx : look m a = .lst xs) (hl : ds.length + xs.length ≤ 10000) : mutD .extend (.loc j) a m = some (m.set j (.lst (ds ++ xs))) := by
  unfold mutD
  simp only [show m[j]? = some (.lst ds) from h, hx]
  exact if_pos (by rw [line_val]; omega)
theorem At.lst (h : At m j ds) : lstAt m (.loc j) = true := by
  simp only [lstAt, show m[j]? = some (.lst ds) from h]
theorem At.look (h : At m j ds) : look m (.loc j) = .lst ds := by
  rw [look_loc, show m[j]? = some (.lst ds) from h, seen_lst]
theorem At.frz (h : At m j ds) : frzD (.loc j) m = .ok (.lst ds) (m.set j .dead) := by
  unfold frzD
  simp only [show m[j]? = some (.lst ds) from h]
theorem At.met (h : At m j ds) {T : Tab} {f : Nat} : metD T m (.loc j) f = none := met_no fun c fs e => by
  rw [h.look] at e
  cases e
end
theorem cut_to {α : Type} {xs : List α} {x : Int} (h : 0 ≤ x) (h' : x ≤ xs.length) : cutL xs none (some x) = xs.take x.toNat := by
  obtain ⟨n, rfl⟩ := Int.eq_ofNat_of_zero_le h
  unfold cutL
  have e1 : HT.sIx xs.length 0 none = 0 := rfl
  have e2 : HT.sIx xs.length xs.length (some (n : Int)) = n := by
    simp only [HT.sIx]
    split <;> omega
  rw [e1, e2, List.drop_zero, Nat.sub_zero, Int.toNat_natCast]
theorem cut_from {α : Type} {xs : List α} {x : Int} (h : 0 ≤ x) (h' : x ≤ xs.length) : cutL xs (some x) none = xs.drop x.toNat := by
  obtain ⟨n, rfl⟩ := Int.eq_ofNat_of_zero_le h
  unfold cutL
  have e1 : HT.sIx xs.length xs.length none = xs.length := rfl
  have e2 : HT.sIx xs.length 0 (some (n : Int)) = n := by
    simp only [HT.sIx]
    split <;> omega
  rw [e1, e2, Int.toNat_natCast]
  exact List.take_of_length_le (by simp)
theorem cut_to' {α : Type} {xs : List α} {n : Nat} : cutL xs none (some (n : Int)) = xs.take n := by
  unfold cutL
  have e1 : HT.sIx xs.length 0 none = 0 := rfl
  have e2 : HT.sIx xs.length xs.length (some (n : Int)) = min n xs.length := by
    simp only [HT.sIx]
    split <;> omega
  rw [e1, e2, List.drop_zero, Nat.sub_zero]
  by_cases h : n ≤ xs.length
  · rw [Nat.min_eq_left h]
  · rw [Nat.min_eq_right (by omega), List.take_of_length_le (Nat.le_refl _), List.take_of_length_le (by omega)]
theorem slcD_lst {xs : List D} {lo hi : Option Int} : slcD (.lst xs) lo hi = some (.lst (cutL xs lo hi)) := rfl
theorem slcD_str {s : Str} {lo hi : Option Int} (h : s.length ≤ line) : slcD (.str s) lo hi = some (.str ⟨(cutL s.cps.toList lo hi).toArray⟩) := if_pos h
theorem idxD_str {s : Str} {x : Int} (h : s.length ≤ line) (h0 : 0 ≤ x) (h1 : x < s.length) : ∃ c ∈ s.cps.toList, idxD (.str s) (.int x) = some (.str ⟨#[c]⟩) ∧ s.cps.toList[x.toNat]? = some c := by
  have e : idxD (.str s) (.int x) = (atI s.cps.toList x).map fun c => .str ⟨#[c]⟩ := if_pos h
  have hl : s.cps.toList.length = s.length := by simp [Str.length]
  obtain ⟨c, hc⟩ : ∃ c, s.cps.toList[x.toNat]? = some c := ⟨_, List.getElem?_eq_getElem (by omega)⟩
  exact ⟨c, List.mem_of_getElem? hc, by rw [e, atI_nn h0 (by omega), hc]; rfl, hc⟩
theorem strl_len {s : Str} : s.length = s.cps.toList.length := by simp [Str.length]
theorem one_len {c : Nat} : (⟨#[c]⟩ : Str).length = 1 := rfl
theorem strl_app {s t : Str} : (s ++ t).length = s.length + t.length := Str.length_append s t
theorem strl_cps {s t : Str} : (s ++ t).cps.toList = s.cps.toList ++ t.cps.toList := by
  rw [Str.cps_append, Array.toList_append]
theorem strl_ext {s t : Str} (h : s.cps.toList = t.cps.toList) : s = t := by
  cases s; cases t
  simp only [Str.mk.injEq]
  exact Array.toList_inj.mp h
theorem take_mid4 {α : Type} {xs : List α} {n : Nat} {c : α} (h : xs[n]? = some c) : xs = xs.take n ++ c :: xs.drop (n + 1) := by
  obtain ⟨h1, h2⟩ := List.getElem?_eq_some_iff.mp h
  rw [← h2, ← List.drop_eq_getElem_cons h1, List.take_append_drop]
end Rs
namespace Rs
open PySem L2
theorem range_at' {n i : Nat} {x : D} (h : ((List.range n).map fun (i : Nat) => D.int (i : Int))[i]? = some x) : i < n ∧ x = .int (i : Int) := by
  rw [List.getElem?_map] at h
  obtain ⟨j, hj, rfl⟩ := Option.map_eq_some_iff.mp h
  obtain ⟨h1, h2⟩ := List.getElem?_eq_some_iff.mp hj
  rw [List.getElem_range] at h2
  subst h2
  exact ⟨by rw [List.length_range] at h1; exact h1, rfl⟩
end Rs
namespace Rs
open PySem L2
/-! texts: ints, joins -/
def txI (n : Int) : Str := ((toString n : String) : Str)
theorem strD_str {s : Str} (h : s.length ≤ 1000) : strD (.str s) = some s := if_pos (lineLe h)
theorem strD_int {n : Int} (h : 0 ≤ n) (h' : n ≤ 1000) : strD (.int n) = some (txI n) := if_pos (by
  have : n.natAbs.log2 ≤ 64 := lg (B := 64) (by omega)
  omega)
theorem txI_len {n : Int} (h : 0 ≤ n) (h' : n ≤ 9) : (txI n).length = 1 := by
  have : n = 0 ∨ n = 1 ∨ n = 2 ∨ n = 3 ∨ n = 4 ∨ n = 5 ∨ n = 6 ∨ n = 7 ∨ n = 8 ∨ n = 9 := by omega
  rcases this with rfl | rfl | rfl | rfl | rfl | rfl | rfl | rfl | rfl | rfl <;> decide +kernel
theorem strsD_map {α : Type} (f : α → Str) : ∀ xs : List α, strsD (xs.map fun x => .str (f x)) = some (xs.map f)
  | [] => rfl
  | x :: xs => by
    rw [List.map_cons]
    show (strsD _).map (f x :: ·) = _
    rw [strsD_map f xs]
    rfl
theorem sum_le_of {b : Nat} : ∀ {ss : List Str}, (∀ s ∈ ss, s.length ≤ b) → (ss.map (·.length)).sum ≤ ss.length * b
  | [], _ => Nat.zero_le _
  | s :: ss, h => by
    rw [List.map_cons, List.sum_cons, List.length_cons, Nat.succ_mul]
    have h1 := h s List.mem_cons_self
    have h2 := sum_le_of (ss := ss) fun t ht => h t (List.mem_cons_of_mem _ ht)
    omega
theorem joinLen_le {b : Nat} {sep : Str} {ss : List Str} (h : ∀ s ∈ ss, s.length ≤ b) : joinLen sep ss ≤ ss.length * (b + sep.length) := by
  unfold joinLen
  rw [Nat.mul_add]
  have := sum_le_of h
  omega
theorem join_len_le {b : Nat} {sep : Str} {ss : List Str} (h : ∀ s ∈ ss, s.length ≤ b) : (Txt.join sep ss).length ≤ ss.length * (b + sep.length) := by
  show (Txt.join sep ss).length ≤ _
  unfold Txt.join
  rw [StrLaws.glued_eq_join]
  refine Nat.le_trans (StrLaws.join_length_le sep ss) ?_
  exact joinLen_le h
theorem bm_join {α : Type} {sep : Str} {f : α → Str} {xs : List α} {b : Nat} (h : ∀ x ∈ xs, (f x).length ≤ b) (hb : xs.length * (b + sep.length) ≤ 100000) : bmD .join (.str sep) [.lst (xs.map fun x => .str (f x))] = some (.str (Txt.join sep (xs.map f))) := by
  show (strsD _).bind _ = _
  rw [strsD_map f xs, Option.bind_some, if_pos]
  refine Nat.le_trans (joinLen_le (b := b) fun s hs => ?_) ?_
  · obtain ⟨x, hx, rfl⟩ := List.mem_map.mp hs
    exact h x hx
  · rw [List.length_map, line_val]
    omega
theorem bmTy_join {s : Str} : bmTy .join (.str s) = true := rfl
theorem if_tt {α : Type} {a b : α} : (if true = true then a else b) = a := rfl
theorem intsD_ints : ∀ ns : List Int, intsD (ns.map .int) = some ns
  | [] => rfl
  | n :: ns => by
    rw [List.map_cons]
    show (intsD _).map (n :: ·) = _
    rw [intsD_ints ns]
    rfl
theorem blt_maxD {ns : List Int} {M : Int} (h : ns.max? = some M) : bltD .max [.lst (ns.map .int)] = some (.int M) := by
  show (intsD _).bind _ = _
  rw [intsD_ints, Option.bind_some, h]
  rfl
theorem max_in {ns : List Int} {lo hi : Int} (h : ns ≠ []) (hb : ∀ n ∈ ns, lo ≤ n ∧ n ≤ hi) : ∃ M, ns.max? = some M ∧ lo ≤ M ∧ M ≤ hi := by
  obtain ⟨M, hM⟩ : ∃ M, ns.max? = some M := by
    cases ns with
    | nil => exact absurd rfl h
    | cons a as => exact ⟨_, rfl⟩
  have := List.max?_mem hM
  exact ⟨M, hM, hb M this⟩
end Rs

/-! part K05_p7 -/
set_option Elab.async false
set_option linter.all false
set_option maxRecDepth 100000
set_option maxHeartbeats 4000000
namespace K05
open PySem Rs L2
local macro_rules | `(tactic| walk_at "ev") => `(tactic| simp only [W_ok, W_bad, W_bind, W_opt, W_fin, fin_rt, fin_nx, R.bind_ok, R.bind_bad, R.opt_some, R.opt_none, E_var, E_cst, E_bin, E_neg, E_cmp, E_chn, E_isn, E_and, E_or, E_not, E_tru, E_ife, E_att, E_idx, E_slc, E_tup, E_fz, E_mk, E_call, E_new, E_met, E_blt, E_bmt, E_len, E_str, E_isi, E_frz, E_fst, E_fmt, Eo_no, Eo_yes, Eb_no, Eb_yes, Es_nil, Es_cons, Ej_nil, Ej_cons, EF_lst, EF_cmp, EF_lof, EF_dct, EI_seq, EI_rng, EI_rng2, S_asg, S_par, S_sta, S_sti, S_aug, S_exp, S_mut, S_ret, S_ifs, S_for, S_sup, S_pas, S_con, S_brk, Ss_nil, Ss_cons, bindT_nm, bindT_tp, bindTs_nil, bindTs_cons, layZ_lst, layZ_dct, layM_eq, look_int, look_bl, look_str, look_non, look_tup, look_lst, look_scr, look_dct, look_ins, look_loc, seen_lst, seen_dct, seen_ins, List.getElem?_cons_zero, List.getElem?_cons_succ, List.length_cons, List.length_nil, List.set_cons_zero, List.set_cons_succ, Option.map_some, Option.map_none, Option.bind_some, Option.bind_none, Sc_len, List.map_cons, List.map_nil, Nat.zero_add, Nat.reduceAdd, Nat.reduceLT, reduceIte, Nat.lt_irrefl, and_self, and_true, true_and, if_true, if_false, ↓reduceIte, le_line, Nat.reduceLeDiff, Nat.zero_le, bin_add, bin_sub, cmp_lt, cmp_le, cmp_gt, cmp_ge, cmp_eq, cmp_ne, cmp_in, cmp_nin, blt_int, blt_max2, blt_min2, blt_tupl, blt_tupt, met_lst, met_tup, met_scr, met_str, met_int, len_lst, len_tup, len_scr, decide_true, decide_false, Bool.not_true, Bool.not_false, items_tup, items_lst, items_str, wipe_nil, wipe_cons, idx_t0, idx_t1, idx_t2, idx_t3, idx_l0, idx_l1, eq_ss, eq_ii, ne_ss, ne_ii, ne_bb, tru_bl])
local macro_rules | `(tactic| walk_at "go") => `(tactic| simp only [W_ok, W_bad, W_bind, W_opt, W_fin, fin_rt, fin_nx, R.bind_ok, R.bind_bad, R.opt_some, R.opt_none, E_var, E_cst, E_bin, E_neg, E_cmp, E_chn, E_isn, E_and, E_or, E_not, E_tru, E_ife, E_att, E_idx, E_slc, E_tup, E_fz, E_mk, E_call, E_new, E_met, E_blt, E_bmt, E_len, E_str, E_isi, E_frz, E_fst, E_fmt, Eo_no, Eo_yes, Eb_no, Eb_yes, Es_nil, Es_cons, Ej_nil, Ej_cons, EF_lst, EF_cmp, EF_lof, EF_dct, EI_seq, EI_rng, EI_rng2, S_asg, S_par, S_sta, S_sti, S_aug, S_exp, S_mut, S_ret, S_ifs, S_for, S_sup, S_pas, S_con, S_brk, Ss_nil, Ss_cons, bindT_nm, bindT_tp, bindTs_nil, bindTs_cons, layZ_lst, layZ_dct, layM_eq, look_int, look_bl, look_str, look_non, look_tup, look_lst, look_scr, look_dct, look_ins, look_loc, seen_lst, seen_dct, seen_ins, List.getElem?_cons_zero, List.getElem?_cons_succ, List.length_cons, List.length_nil, List.set_cons_zero, List.set_cons_succ, Option.map_some, Option.map_none, Option.bind_some, Option.bind_none, Sc_len, List.map_cons, List.map_nil, Nat.zero_add, Nat.reduceAdd, Nat.reduceLT, reduceIte, Nat.lt_irrefl, and_self, and_true, true_and, if_true, if_false, ↓reduceIte, le_line, Nat.reduceLeDiff, Nat.zero_le, bin_add, bin_sub, cmp_lt, cmp_le, cmp_gt, cmp_ge, cmp_eq, cmp_ne, cmp_in, cmp_nin, blt_int, blt_max2, blt_min2, blt_tupl, blt_tupt, met_lst, met_tup, met_scr, met_str, met_int, len_lst, len_tup, len_scr, decide_true, decide_false, Bool.not_true, Bool.not_false, items_tup, items_lst, items_str, wipe_nil, wipe_cons, idx_t0, idx_t1, idx_t2, idx_t3, idx_l0, idx_l1, eq_ss, eq_ii, ne_ss, ne_ii, ne_bb, tru_bl])
theorem Ch.set {m m' : Mu} {j : Nat} {o : MO} (h : Ch m m') (hj : m.length ≤ j) : Ch m (m'.set j o) :=
  ⟨by rw [List.length_set]; exact h.1, fun i h1 h2 => by rw [List.getElem?_set_ne (by omega)]; exact h.2 i h1 h2⟩
theorem Ch.at {m m' : Mu} {j : Nat} {ds : List D} (h : Ch m m') (hj : 0 < j) (a : At m j ds) : At m' j ds := (h.2 j hj a.lt).trans a
theorem Ch.app {m m' x : Mu} (h : Ch m m') : Ch m (m' ++ x) := h.trans (Ch.ex Ex.app)
theorem Ch.ext {m m' m2 : Mu} (h : Ch m m') (g : Ex m' m2) : Ch m m2 := h.trans (Ch.ex g)
theorem Pen.set {N : Nat} {m : Mu} {j : Nat} {o : MO} (h : Pen N m) (hj : 0 < j) : Pen N (m.set j o) := by
  obtain ⟨cs, x, l, h1, h2⟩ := h
  exact ⟨cs, x, l, by rw [List.getElem?_set_ne (by omega)]; exact h1, h2⟩
theorem Pen.pos {N : Nat} {m : Mu} (h : Pen N m) : 0 < m.length := by
  obtain ⟨cs, x, l, h1, h2⟩ := h
  exact (List.getElem?_eq_some_iff.mp h1).1
theorem pickP (k N : Nat) (m : Mu) (j : Nat) (ds : List D) (h : Pen N m) (hN : N ≤ 2 ^ 60) (hj : 0 < j) (ha : At m j ds) (h1 : ds ≠ []) (h2 : ds.length < 2 ^ 60) :
    W (run T F (k + 3) 11 [.loc 0, .loc j] m) (fun v m' => v ∈ ds ∧ Pen (N + 1) m' ∧ Ch m m') := by
  rw [r11]
  unfold b11
  (try walk_at "ev")
  rw [ha.met]
  dsimp only
  rw [show seen m[j]? j = .lst ds by rw [show m[j]? = some (.lst ds) from ha]; rfl]
  (try walk_at "ev")
  have hp : 0 < ds.length := List.length_pos_iff.mpr h1
  refine W_mono (draw k N m ds.length h hN (by omega) (by omega)) fun v m' ⟨x, e, hx, hx2, hp', hc⟩ => ?_
  subst e
  have ha' := hc.at hj ha
  rw [show seen m'[j]? j = .lst ds by rw [show m'[j]? = some (.lst ds) from ha']; rfl]
  have e5 : idxD (.lst ds) (.int x) = ds[x.toNat]? := atI_nn hx hx2
  obtain ⟨d, hd⟩ : ∃ d, ds[x.toNat]? = some d := ⟨_, List.getElem?_eq_getElem (by omega)⟩
  rw [e5, hd]
  exact ⟨List.mem_of_getElem? hd, hp', hc⟩
theorem pickS (k N : Nat) (m : Mu) (s : Str) (h : Pen N m) (hN : N ≤ 2 ^ 60) (h1 : 0 < s.length) (h2 : s.length ≤ 1000) :
    W (run T F (k + 3) 11 [.loc 0, .str s] m) (fun v m' => (∃ c ∈ s.cps.toList, v = .str ⟨#[c]⟩) ∧ Pen (N + 1) m' ∧ Ch m m') := by
  rw [r11]
  unfold b11
  (try walk_at "ev")
  rw [len_str (lineLe h2)]
  (try walk_at "ev")
  refine W_mono (draw k N m s.length h hN (by omega) (by omega)) fun v m' ⟨x, e, hx, hx2, hp', hc⟩ => ?_
  subst e
  obtain ⟨c, hc1, e5, _⟩ := idxD_str (lineLe h2) hx hx2
  (try walk_at "ev")
  rw [show idxD (.str s) (.int x) = some (.str ⟨#[c]⟩) from e5]
  exact ⟨⟨c, hc1, rfl⟩, hp', hc⟩
def alpha : Str := "abcdefghijklmnopqrstuvwxyz"
theorem alpha_len : alpha.length = 26 := by decide +kernel
def Alph (s : Str) : Prop := ∃ l, (s.cps.toList ++ l).Perm alpha.cps.toList
theorem letters (k N : Nat) (m : Mu) (n : Nat) (h : Pen N m) (hN : N + n ≤ 2 ^ 59) (hn : n ≤ 26) :
    W (run T F (k + 3) 12 [.loc 0, .int (n : Int)] m) (fun v m' => ∃ s : Str, v = .str s ∧ s.length = n ∧ Alph s ∧ Pen (N + n) m' ∧ Ch m m') := by
  rw [r12]
  unfold b12
  (try walk_at "ev")
  rw [rangeD_nat (by omega)]
  (try walk_at "ev")
  refine W_for (fun i r m' => ∃ (s l : Str) (o2 o5 : Option D), r = [some (.loc 0), some (.int (n : Int)), o2, some (.str l), some (.str s), o5] ∧ s.length = i ∧ l.length + i = 26 ∧ (s.cps.toList ++ l.cps.toList).Perm alpha.cps.toList ∧ Pen (N + i) m' ∧ Ch m m')
    ⟨_, _, _, _, rfl, rfl, alpha_len, .refl _, h, .rfl'⟩ (fun i x r m1 hx ⟨s, l, o2, o5, e, hs, hl, hp, hpen, hc⟩ => ?_) (fun r m1 ⟨s, l, o2, o5, e, hs, hl, hp, hpen, hc⟩ => ?_)
  · subst e
    have hi := (List.getElem?_eq_some_iff.mp hx).1
    rw [List.length_map, List.length_range] at hi
    (try walk_at "ev")
    rw [len_str (lineLe (by omega))]
    (try walk_at "ev")
    rw [show k + 2 = k + 2 from rfl]
    refine W_mono (draw k _ m1 l.length hpen (by omega) (by omega) (by omega)) fun v m2 ⟨x, e, hx, hx2, hp', hc2⟩ => ?_
    subst e
    (try walk_at "ev")
    obtain ⟨c, hc1, e5, e6⟩ := idxD_str (lineLe (by omega)) hx hx2
    have hll : l.cps.toList.length = l.length := strl_len.symm
    rw [e5]
    (try walk_at "ev")
    rw [bin_str (lineLe (by rw [one_len]; omega))]
    (try walk_at "ev")
    rw [slcD_str (lineLe (by omega)), cut_to hx (by omega)]
    (try walk_at "ev")
    rw [slcD_str (lineLe (by omega)), cut_from (by omega) (by omega)]
    have hx3 : (x + 1).toNat = x.toNat + 1 := by omega
    rw [hx3]
    (try walk_at "ev")
    have hl1 : ((⟨(l.cps.toList.take x.toNat).toArray⟩ : Str) ++ (⟨(l.cps.toList.drop (x.toNat + 1)).toArray⟩ : Str)).length = l.length - 1 := by
      rw [strl_len, strl_cps]
      simp only [List.length_append, List.length_take, List.length_drop, hll]
      omega
    have hl2 : (⟨(l.cps.toList.take x.toNat).toArray⟩ : Str).length + (⟨(l.cps.toList.drop (x.toNat + 1)).toArray⟩ : Str).length = l.length - 1 := by
      rw [← strl_app]
      exact hl1
    rw [bin_str (lineLe (by rw [hl2]; omega))]
    (try walk_at "ev")
    refine ⟨_, _, _, _, rfl, by rw [strl_app, one_len, hs], by rw [hl1]; omega, ?_, hp', hc.trans hc2⟩
    refine List.Perm.trans ?_ hp
    rw [strl_cps, strl_cps]
    have z := take_mid4 e6
    conv => rhs; rw [z]
    simp only [List.append_assoc]
    refine List.Perm.append_left _ ?_
    show (c :: (List.take x.toNat l.cps.toList ++ List.drop (x.toNat + 1) l.cps.toList)).Perm _
    exact (List.perm_middle).symm
  · subst e
    (try walk_at "ev")
    rw [List.length_map, List.length_range] at hs hpen
    exact ⟨_, rfl, hs, ⟨_, hp⟩, hpen, hc⟩

end K05

/-! part K05_p8 -/
set_option Elab.async false
set_option linter.all false
set_option maxRecDepth 100000
set_option maxHeartbeats 4000000
namespace K05
open PySem Rs L2
local macro_rules | `(tactic| walk_at "ev") => `(tactic| simp only [W_ok, W_bad, W_bind, W_opt, W_fin, fin_rt, fin_nx, R.bind_ok, R.bind_bad, R.opt_some, R.opt_none, E_var, E_cst, E_bin, E_neg, E_cmp, E_chn, E_isn, E_and, E_or, E_not, E_tru, E_ife, E_att, E_idx, E_slc, E_tup, E_fz, E_mk, E_call, E_new, E_met, E_blt, E_bmt, E_len, E_str, E_isi, E_frz, E_fst, E_fmt, Eo_no, Eo_yes, Eb_no, Eb_yes, Es_nil, Es_cons, Ej_nil, Ej_cons, EF_lst, EF_cmp, EF_lof, EF_dct, EI_seq, EI_rng, EI_rng2, S_asg, S_par, S_sta, S_sti, S_aug, S_exp, S_mut, S_ret, S_ifs, S_for, S_sup, S_pas, S_con, S_brk, Ss_nil, Ss_cons, bindT_nm, bindT_tp, bindTs_nil, bindTs_cons, layZ_lst, layZ_dct, layM_eq, look_int, look_bl, look_str, look_non, look_tup, look_lst, look_scr, look_dct, look_ins, look_loc, seen_lst, seen_dct, seen_ins, List.getElem?_cons_zero, List.getElem?_cons_succ, List.length_cons, List.length_nil, List.set_cons_zero, List.set_cons_succ, Option.map_some, Option.map_none, Option.bind_some, Option.bind_none, Sc_len, List.map_cons, List.map_nil, Nat.zero_add, Nat.reduceAdd, Nat.reduceLT, reduceIte, Nat.lt_irrefl, and_self, and_true, true_and, if_true, if_false, ↓reduceIte, le_line, Nat.reduceLeDiff, Nat.zero_le, bin_add, bin_sub, cmp_lt, cmp_le, cmp_gt, cmp_ge, cmp_eq, cmp_ne, cmp_in, cmp_nin, blt_int, blt_max2, blt_min2, blt_tupl, blt_tupt, met_lst, met_tup, met_scr, met_str, met_int, len_lst, len_tup, len_scr, decide_true, decide_false, Bool.not_true, Bool.not_false, items_tup, items_lst, items_str, wipe_nil, wipe_cons, idx_t0, idx_t1, idx_t2, idx_t3, idx_l0, idx_l1, eq_ss, eq_ii, ne_ss, ne_ii, ne_bb, tru_bl])
local macro_rules | `(tactic| walk_at "go") => `(tactic| simp only [W_ok, W_bad, W_bind, W_opt, W_fin, fin_rt, fin_nx, R.bind_ok, R.bind_bad, R.opt_some, R.opt_none, E_var, E_cst, E_bin, E_neg, E_cmp, E_chn, E_isn, E_and, E_or, E_not, E_tru, E_ife, E_att, E_idx, E_slc, E_tup, E_fz, E_mk, E_call, E_new, E_met, E_blt, E_bmt, E_len, E_str, E_isi, E_frz, E_fst, E_fmt, Eo_no, Eo_yes, Eb_no, Eb_yes, Es_nil, Es_cons, Ej_nil, Ej_cons, EF_lst, EF_cmp, EF_lof, EF_dct, EI_seq, EI_rng, EI_rng2, S_asg, S_par, S_sta, S_sti, S_aug, S_exp, S_mut, S_ret, S_ifs, S_for, S_sup, S_pas, S_con, S_brk, Ss_nil, Ss_cons, bindT_nm, bindT_tp, bindTs_nil, bindTs_cons, layZ_lst, layZ_dct, layM_eq, look_int, look_bl, look_str, look_non, look_tup, look_lst, look_scr, look_dct, look_ins, look_loc, seen_lst, seen_dct, seen_ins, List.getElem?_cons_zero, List.getElem?_cons_succ, List.length_cons, List.length_nil, List.set_cons_zero, List.set_cons_succ, Option.map_some, Option.map_none, Option.bind_some, Option.bind_none, Sc_len, List.map_cons, List.map_nil, Nat.zero_add, Nat.reduceAdd, Nat.reduceLT, reduceIte, Nat.lt_irrefl, and_self, and_true, true_and, if_true, if_false, ↓reduceIte, le_line, Nat.reduceLeDiff, Nat.zero_le, bin_add, bin_sub, cmp_lt, cmp_le, cmp_gt, cmp_ge, cmp_eq, cmp_ne, cmp_in, cmp_nin, blt_int, blt_max2, blt_min2, blt_tupl, blt_tupt, met_lst, met_tup, met_scr, met_str, met_int, len_lst, len_tup, len_scr, decide_true, decide_false, Bool.not_true, Bool.not_false, items_tup, items_lst, items_str, wipe_nil, wipe_cons, idx_t0, idx_t1, idx_t2, idx_t3, idx_l0, idx_l1, eq_ss, eq_ii, ne_ss, ne_ii, ne_bb, tru_bl])
def Lf : Tm → Prop
  | .arg n => 0 ≤ n ∧ n ≤ 2
  | .got s => s.length = 1
  | .of _ _ => False
theorem dep_lf {t : Tm} (h : Lf t) : dep (tupD t) = some 1 := by
  cases t with
  | arg n => rw [tup_arg]; rfl
  | got s => rw [tup_got]; rfl
  | of s ps => exact h.elim
theorem dep_lfs {L : List Tm} (h : ∀ t ∈ L, Lf t) : ∃ d, dep (.lst (L.map tupD)) = some d ∧ d ≤ 2 := by
  obtain ⟨d, h1, h2⟩ := depL_map (f := tupD) (B := 1) (ps := L) fun p hp => ⟨1, dep_lf (h p hp), Nat.le_refl _⟩
  exact ⟨d + 1, by simp only [dep, h1, Option.map_some], by omega⟩
theorem eq_lnil {T : Tab} {k : Nat} {m : Mu} {xs : List D} {d : Nat} (h : dep (.lst xs) = some d) (hd : d ≤ k) (hk : 1 ≤ k) : eqO T k m (.lst xs) (.lst []) = some xs.isEmpty := by
  rw [eqO_room (m := m) (x := .lst xs) (y := .lst []) h (show dep (look m (.lst [])) = some 1 from rfl) hd hk rfl rfl]
  simp only [look_lst]
  rw [eqD_ll']
  cases xs with
  | nil => rfl
  | cons x xs => simp
theorem isEmpty_map {α β : Type} {f : α → β} {L : List α} : (L.map f).isEmpty = L.isEmpty := by cases L <;> rfl
def dT : Tm := .of "d" []
theorem dT_is : tupD dT = .tup [.str "of", .str "d", .tup []] := by
  unfold dT
  rw [tup_of]
  rfl
theorem leaf (k N : Nat) (m : Mu) (L : List Tm) (once : Bool) (h : Pen N m) (hN : N ≤ 2 ^ 59) (hl : L.length ≤ 400) (hL : ∀ t ∈ L, Lf t) :
    W (run T F (k + 4) 13 [.loc 0, .lst (L.map tupD), .bl once] m) (fun v m' => ∃ t L', v = .tup [tupD t, .lst (List.map tupD L')] ∧ (t = dT ∧ L' = L ∨ t ∈ L ∧ (once = true → (t :: L').Perm L) ∧ (once = false → L' = L)) ∧ Pen (N + 1) m' ∧ Ch m m') := by
  obtain ⟨d, h1, h2⟩ := dep_lfs hL
  rw [r13]
  unfold b13
  (try walk_at "ev")
  rw [eq_lnil h1 (by omega) (by omega), isEmpty_map]
  cases L with
  | nil =>
    simp only [List.isEmpty_nil]
    (try walk_at "ev")
    exact ⟨dT, [], by rw [dT_is]; rfl, .inl ⟨rfl, rfl⟩, h.up (by omega), .rfl'⟩
  | cons t0 L0 =>
    simp only [List.isEmpty_cons]
    generalize hLL : t0 :: L0 = L at *
    have hpos : 0 < L.length := by rw [← hLL]; simp
    (try walk_at "ev")
    rw [List.length_map]
    refine W_mono (draw (k + 1) N m L.length h (by omega) (by omega) (by omega)) fun v m' ⟨x, e, hx, hx2, hp', hc⟩ => ?_
    subst e
    (try walk_at "ev")
    have e5 : idxD (.lst (L.map tupD)) (.int x) = (L.map tupD)[x.toNat]? := atI_nn hx (by rw [List.length_map]; exact hx2)
    obtain ⟨t, ht⟩ : ∃ t, L[x.toNat]? = some t := ⟨_, List.getElem?_eq_getElem (by omega)⟩
    rw [e5, List.getElem?_map, ht]
    (try walk_at "ev")
    cases once with
    | false =>
      (try walk_at "ev")
      exact ⟨t, L, rfl, .inr ⟨List.mem_of_getElem? ht, (fun e => Bool.noConfusion e), fun _ => rfl⟩, hp', hc⟩
    | true =>
      (try walk_at "ev")
      rw [slcD_lst, cut_to hx (by rw [List.length_map]; omega)]
      (try walk_at "ev")
      rw [slcD_lst, cut_from (by omega) (by rw [List.length_map]; omega)]
      have hx3 : (x + 1).toNat = x.toNat + 1 := by omega
      rw [hx3]
      (try walk_at "ev")
      rw [← List.map_take, ← List.map_drop, bin_lst (lineLe (by simp only [List.length_map, List.length_take, List.length_drop]; omega))]
      (try walk_at "ev")
      rw [← List.map_append]
      refine ⟨t, _, rfl, .inr ⟨List.mem_of_getElem? ht, fun _ => ?_, fun e => Bool.noConfusion e⟩, hp', hc⟩
      have z := take_mid4 ht
      conv => rhs; rw [z]
      exact (List.perm_middle).symm
/-! targets -/
def opD (o : Str × Nat) : D := .tup [.str o.1, .int (o.2 : Int)]
inductive Tg (ops : List (Str × Nat)) : Nat → Tm → Prop
  | leaf {n : Nat} {t : Tm} : Lf t → Tg ops n t
  | nil {n : Nat} {s : Str} : (s, 0) ∈ ops → Tg ops n (.of s [])
  | of {n : Nat} {s : Str} {ps : List Tm} : (s, ps.length) ∈ ops → (∀ p ∈ ps, Tg ops n p) → Tg ops (n + 1) (.of s ps)
theorem Tg.up {ops : List (Str × Nat)} {n : Nat} {t : Tm} (h : Tg ops n t) : Tg ops (n + 1) t := by
  induction h with
  | leaf h => exact .leaf h
  | nil h => exact .nil h
  | of h _ ih => exact .of h ih
theorem Tg.mono {ops : List (Str × Nat)} {n k : Nat} {t : Tm} (h : Tg ops n t) (hk : n ≤ k) : Tg ops k t := by
  obtain ⟨j, rfl⟩ := Nat.le.dest hk
  induction j with
  | zero => exact h
  | succ j ih => exact (ih (by omega)).up
/-! the leaves of a term, in order -/
mutual
def lv : Tm → List Tm
  | .arg n => [.arg n]
  | .got s => [.got s]
  | .of _ ps => lvs ps
def lvs : List Tm → List Tm
  | [] => []
  | p :: ps => lv p ++ lvs ps
end
theorem lvs_map : ∀ ps, lvs ps = (ps.map lv).flatten
  | [] => by rw [lvs]; rfl
  | p :: ps => by rw [lvs, lvs_map ps, List.map_cons, List.flatten_cons]
theorem lv_of {s : Str} {ps : List Tm} : lv (.of s ps) = lvs ps := by rw [lv]
theorem lv_lf {t : Tm} (h : Lf t) : lv t = [t] := by
  cases t with
  | arg n => rw [lv]
  | got s => rw [lv]
  | of s ps => exact h.elim
theorem lvs_app : ∀ (ps qs : List Tm), lvs (ps ++ qs) = lvs ps ++ lvs qs := by
  intro ps qs
  rw [lvs_map, lvs_map, lvs_map, List.map_append, List.flatten_append]
def dr : Nat → Nat
  | 0 => 1
  | n + 1 => 3 + 3 * dr n
theorem dr_pos : ∀ n, 1 ≤ dr n
  | 0 => Nat.le_refl _
  | n + 1 => by show 1 ≤ 3 + 3 * dr n; omega
theorem dr_le (n : Nat) : dr n ≤ dr (n + 1) := by show _ ≤ 3 + 3 * dr n; omega
theorem Pen.mono {N N' : Nat} {m : Mu} (h : Pen N m) (hn : N ≤ N') : Pen N' m := h.up hn
/-- what is drawn of a pool -/
structure Drawn (ops : List (Str × Nat)) (n : Nat) (L : List Tm) (once : Bool) (t : Tm) (L' : List Tm) : Prop where
  tg : Tg ops n t
  mem : ∀ l ∈ lv t, l ∈ L
  sub : ∀ l ∈ L', l ∈ L
  len : L'.length ≤ L.length
  one : once = true → ∃ r, (lv t ++ (L' ++ r)).Perm L
  all : once = false → L' = L
theorem leafT (k N n : Nat) (m : Mu) (ops : List (Str × Nat)) (L : List Tm) (once : Bool) (hd : (("d" : Str), 0) ∈ ops) (h : Pen N m) (hN : N ≤ 2 ^ 59) (hl : L.length ≤ 400) (hL : ∀ t ∈ L, Lf t) :
    W (run T F (k + 4) 13 [.loc 0, .lst (L.map tupD), .bl once] m) (fun v m' => ∃ t L', v = .tup [tupD t, .lst (List.map tupD L')] ∧ Drawn ops n L once t L' ∧ Pen (N + 1) m' ∧ Ch m m') := by
  refine W_mono (leaf k N m L once h hN hl hL) fun v m' ⟨t, L', e, hh, hp, hc⟩ => ⟨t, L', e, ?_, hp, hc⟩
  rcases hh with ⟨rfl, rfl⟩ | ⟨h1, h2, h3⟩
  · have e0 : lv dT = [] := by unfold dT; rw [lv_of, lvs]
    exact ⟨.nil hd, fun l hl => by (rw [e0] at hl; cases hl), fun l hl => hl, Nat.le_refl _, fun _ => ⟨[], by rw [e0]; simp⟩, fun _ => rfl⟩
  · have ht := hL t h1
    have e0 := lv_lf ht
    refine ⟨.leaf ht, fun l hl => by (rw [e0] at hl; rw [List.mem_singleton.mp hl]; exact h1), ?_, ?_, fun ho => ⟨[], by rw [e0]; simpa using h2 ho⟩, h3⟩
    · cases once with
      | true => exact fun l hl => (h2 rfl).subset (List.mem_cons_of_mem _ hl)
      | false => rw [h3 rfl]; exact fun l hl => hl
    · cases once with
      | true => have := (h2 rfl).length_eq; simp at this; omega
      | false => rw [h3 rfl]; exact Nat.le_refl _
theorem b_zero {n : Nat} : (((n + 1 : Nat) : Int) == 0) = false := by
  rw [beq_eq_false_iff_ne]
  omega
theorem b_sub {n : Nat} : ((n + 1 : Nat) : Int) - 1 = (n : Int) := by omega
theorem n_zero : (((0 : Nat) : Int) == 0) = true := rfl
theorem eq_int {T : Tab} {k : Nat} {m : Mu} {a b : Int} : eqO T k m (.int a) (.int b) = some (a == b) := eq_ii

end K05

/-! part K05_p10 -/
set_option Elab.async false
set_option linter.all false
set_option maxRecDepth 100000
set_option maxHeartbeats 4000000
namespace K05
open PySem Rs L2
local macro_rules | `(tactic| walk_at "ev") => `(tactic| simp only [W_ok, W_bad, W_bind, W_opt, W_fin, fin_rt, fin_nx, R.bind_ok, R.bind_bad, R.opt_some, R.opt_none, E_var, E_cst, E_bin, E_neg, E_cmp, E_chn, E_isn, E_and, E_or, E_not, E_tru, E_ife, E_att, E_idx, E_slc, E_tup, E_fz, E_mk, E_call, E_new, E_met, E_blt, E_bmt, E_len, E_str, E_isi, E_frz, E_fst, E_fmt, Eo_no, Eo_yes, Eb_no, Eb_yes, Es_nil, Es_cons, Ej_nil, Ej_cons, EF_lst, EF_cmp, EF_lof, EF_dct, EI_seq, EI_rng, EI_rng2, S_asg, S_par, S_sta, S_sti, S_aug, S_exp, S_mut, S_ret, S_ifs, S_for, S_sup, S_pas, S_con, S_brk, Ss_nil, Ss_cons, bindT_nm, bindT_tp, bindTs_nil, bindTs_cons, layZ_lst, layZ_dct, layM_eq, look_int, look_bl, look_str, look_non, look_tup, look_lst, look_scr, look_dct, look_ins, look_loc, seen_lst, seen_dct, seen_ins, List.getElem?_cons_zero, List.getElem?_cons_succ, List.length_cons, List.length_nil, List.set_cons_zero, List.set_cons_succ, Option.map_some, Option.map_none, Option.bind_some, Option.bind_none, Sc_len, List.map_cons, List.map_nil, Nat.zero_add, Nat.reduceAdd, Nat.reduceLT, reduceIte, Nat.lt_irrefl, and_self, and_true, true_and, if_true, if_false, ↓reduceIte, le_line, Nat.reduceLeDiff, Nat.zero_le, bin_add, bin_sub, cmp_lt, cmp_le, cmp_gt, cmp_ge, cmp_eq, cmp_ne, cmp_in, cmp_nin, blt_int, blt_max2, blt_min2, blt_tupl, blt_tupt, met_lst, met_tup, met_scr, met_str, met_int, len_lst, len_tup, len_scr, decide_true, decide_false, Bool.not_true, Bool.not_false, items_tup, items_lst, items_str, wipe_nil, wipe_cons, idx_t0, idx_t1, idx_t2, idx_t3, idx_l0, idx_l1, eq_ss, eq_ii, ne_ss, ne_ii, ne_bb, tru_bl])
local macro_rules | `(tactic| walk_at "go") => `(tactic| simp only [W_ok, W_bad, W_bind, W_opt, W_fin, fin_rt, fin_nx, R.bind_ok, R.bind_bad, R.opt_some, R.opt_none, E_var, E_cst, E_bin, E_neg, E_cmp, E_chn, E_isn, E_and, E_or, E_not, E_tru, E_ife, E_att, E_idx, E_slc, E_tup, E_fz, E_mk, E_call, E_new, E_met, E_blt, E_bmt, E_len, E_str, E_isi, E_frz, E_fst, E_fmt, Eo_no, Eo_yes, Eb_no, Eb_yes, Es_nil, Es_cons, Ej_nil, Ej_cons, EF_lst, EF_cmp, EF_lof, EF_dct, EI_seq, EI_rng, EI_rng2, S_asg, S_par, S_sta, S_sti, S_aug, S_exp, S_mut, S_ret, S_ifs, S_for, S_sup, S_pas, S_con, S_brk, Ss_nil, Ss_cons, bindT_nm, bindT_tp, bindTs_nil, bindTs_cons, layZ_lst, layZ_dct, layM_eq, look_int, look_bl, look_str, look_non, look_tup, look_lst, look_scr, look_dct, look_ins, look_loc, seen_lst, seen_dct, seen_ins, List.getElem?_cons_zero, List.getElem?_cons_succ, List.length_cons, List.length_nil, List.set_cons_zero, List.set_cons_succ, Option.map_some, Option.map_none, Option.bind_some, Option.bind_none, Sc_len, List.map_cons, List.map_nil, Nat.zero_add, Nat.reduceAdd, Nat.reduceLT, reduceIte, Nat.lt_irrefl, and_self, and_true, true_and, if_true, if_false, ↓reduceIte, le_line, Nat.reduceLeDiff, Nat.zero_le, bin_add, bin_sub, cmp_lt, cmp_le, cmp_gt, cmp_ge, cmp_eq, cmp_ne, cmp_in, cmp_nin, blt_int, blt_max2, blt_min2, blt_tupl, blt_tupt, met_lst, met_tup, met_scr, met_str, met_int, len_lst, len_tup, len_scr, decide_true, decide_false, Bool.not_true, Bool.not_false, items_tup, items_lst, items_str, wipe_nil, wipe_cons, idx_t0, idx_t1, idx_t2, idx_t3, idx_l0, idx_l1, eq_ss, eq_ii, ne_ss, ne_ii, ne_bb, tru_bl])
/-! looks -/
inductive Lk where
  | does (i : Nat) (l n : Str)
  | cannot (i : Nat) (l : Str)
def lkD : Lk → D
  | .does i l n => .tup [.str "does", .int (i : Int), .str l, .str n]
  | .cannot i l => .tup [.str "cannot", .int (i : Int), .str l]
def lnms : Str := "tuvwyz"
theorem lnms_len : lnms.length = 6 := by decide +kernel
def Sgn (s l : Str) : Prop := ∃ c ∈ s.cps.toList, l = ⟨#[c]⟩
def LkOk (a : Nat) (s w : Str) (p : Nat) : Lk → Prop
  | .does i l n => i < a ∧ Sgn s l ∧ ∃ c, lnms.cps.toList[p]? = some c ∧ n = ⟨#[c]⟩
  | .cannot i l => i < a ∧ Sgn s l ∧ (w = "looks" ∨ w = "all")
def LksOk (a : Nat) (s w : Str) (ls : List Lk) : Prop := ∀ p l, ls[p]? = some l → LkOk a s w p l
theorem lks_snoc {a : Nat} {s w : Str} {ls : List Lk} {l : Lk} (h : LksOk a s w ls) (hl : LkOk a s w ls.length l) : LksOk a s w (ls ++ [l]) := by
  intro p x hx
  by_cases hp : p < ls.length
  · rw [List.getElem?_append_left hp] at hx
    exact h p x hx
  · have h2 := (List.getElem?_eq_some_iff.mp hx).1
    rw [List.length_append, List.length_singleton] at h2
    have : p = ls.length := by omega
    subst this
    rw [List.getElem?_append_right (Nat.le_refl _), Nat.sub_self] at hx
    cases hx
    exact hl
theorem in2 {T : Tab} {k : Nat} {w a b : Str} : inD T (k + 1) (.str w) (.lst [.str a, .str b]) = some (decide (a = w) || decide (b = w)) := by
  rw [inD_lst (i := 0) (j := 1) rfl rfl (by omega) (by omega) rfl rfl]
  unfold anyD
  simp only [List.any_cons, List.any_nil, Bool.or_false, eqD_ss, decide_eq_true_eq]
  congr 1
  by_cases h1 : w = a <;> by_cases h2 : w = b <;> simp [h1, h2, eq_comm]
theorem looks (k N : Nat) (m : Mu) (a : Nat) (s w : Str) (h : Pen N m) (hN : N ≤ 2 ^ 58) (ha : a ≤ 3) (hs : 0 < s.length) (hs2 : s.length ≤ 1000) :
    W (run T F (k + 6) 15 [.loc 0, .int (a : Int), .str s, .str w] m) (fun v m' => ∃ ls : List Lk, v = .lst (ls.map lkD) ∧ ls.length ≤ 4 ∧ LksOk a s w ls ∧ Pen (N + 50) m' ∧ Ch m m') := by
  rw [r15, b15e, b15c0, b15c1, b15c2, b15n]
  (try walk_at "ev")
  rw [rangeD_nat (by omega)]
  (try walk_at "ev")
  refine W_for (fun i r m' => ∃ (ls : List Lk) (o4 o7 o8 : Option D), r = [some (.loc 0), some (.int (a : Int)), some (.str s), some (.str w), o4, some (.loc m.length), some (.str lnms), o7, o8] ∧ At m' m.length (ls.map lkD) ∧ ls.length ≤ 2 * i ∧ LksOk a s w ls ∧ Pen (N + 10 * i) m' ∧ Ch m m')
    ⟨[], _, _, _, rfl, At.new, by simp, (fun p l hl => by cases hl), h.ex Ex.app, Ch.ex Ex.app⟩ (fun i x r m1 hx ⟨ls, o4, o7, o8, e, h1, h2, h3, h4, h5⟩ => ?_) (fun r m1 ⟨ls, o4, o7, o8, e, h1, h2, h3, h4, h5⟩ => ?_)
  · subst e
    obtain ⟨hi, rfl⟩ := range_at' hx
    have hmp := h.pos
    rw [b15l1c0, b15l1n]
    (try walk_at "ev")
    have key : ∀ (many : Int), 0 < many → many ≤ 3 → W (run T F (k + 5) 10 [.loc 0, .int many] m1) (fun v m' => ∃ x : Nat, v = .int (x : Int) ∧ x ≤ 2 ∧ Pen (N + 10 * i + 1) m' ∧ Ch m1 m') := fun many hm hm3 =>
      W_mono (draw (k + 3) _ m1 many h4 (by omega) hm (by omega)) fun v m' ⟨x, e, hx, hx2, hp, hc⟩ => ⟨x.toNat, by rw [e, Int.toNat_of_nonneg hx], by omega, hp, hc⟩
    have body : ∀ (q : Nat) (m2 : Mu), q ≤ 2 → Pen (N + 10 * i + 1) m2 → Ch m1 m2 → W (turnsS (fun x r m => match bindT (.nm 7) x r with
        | some r1 => Ss T (k + 5) (run T F (k + 5)) b15l1l0q0 r1 m
        | none => .bad) (.its ((List.range q).map fun (i : Nat) => D.int (i : Int))) q 0 [some (.loc 0), some (.int (a : Int)), some (.str s), some (.str w), some (.int (i : Int)), some (.loc m.length), some (.str lnms), o7, o8] m2) (fun fl m' => ∃ r', fl = .nx r' ∧ ∃ (ls : List Lk) (o4 o7 o8 : Option D), r' = [some (.loc 0), some (.int (a : Int)), some (.str s), some (.str w), o4, some (.loc m.length), some (.str lnms), o7, o8] ∧ At m' m.length (ls.map lkD) ∧ ls.length ≤ 2 * (i + 1) ∧ LksOk a s w ls ∧ Pen (N + 10 * (i + 1)) m' ∧ Ch m m') := by
      intro q m2 hq hp2 hc2
      have hq' : ((List.range q).map fun (i : Nat) => D.int (i : Int)).length = q := by simp
      rw [show turnsS (fun x r m => match bindT (.nm 7) x r with
        | some r1 => Ss T (k + 5) (run T F (k + 5)) b15l1l0q0 r1 m
        | none => .bad) (.its ((List.range q).map fun (i : Nat) => D.int (i : Int))) q = turnsS (fun x r m => match bindT (.nm 7) x r with
        | some r1 => Ss T (k + 5) (run T F (k + 5)) b15l1l0q0 r1 m
        | none => .bad) (.its ((List.range q).map fun (i : Nat) => D.int (i : Int))) ((List.range q).map fun (i : Nat) => D.int (i : Int)).length by rw [hq']]
      refine W_for (fun z r m' => ∃ (ls : List Lk) (o7 o8 : Option D), r = [some (.loc 0), some (.int (a : Int)), some (.str s), some (.str w), some (.int (i : Int)), some (.loc m.length), some (.str lnms), o7, o8] ∧ At m' m.length (ls.map lkD) ∧ ls.length ≤ 2 * i + z ∧ LksOk a s w ls ∧ Pen (N + 10 * i + 1 + 2 * z) m' ∧ Ch m m')
        ⟨ls, _, _, rfl, hc2.at hmp h1, by omega, h3, hp2, h5.trans hc2⟩ (fun z x r m3 hx ⟨ls, o7, o8, e, h1, h2, h3, h4, h5⟩ => ?_) (fun r m3 ⟨ls, o7, o8, e, h1, h2, h3, h4, h5⟩ => ?_)
      · subst e
        obtain ⟨hz, rfl⟩ := range_at' hx
        rw [b15l1l0c0]
        (try walk_at "ev")
        refine W_mono (pickS (k + 2) _ m3 s h4 (by omega) hs hs2) fun v m4 ⟨⟨c, hc, e⟩, hp4, hc4⟩ => ?_
        subst e
        (try walk_at "ev")
        rw [b15l1l0c1, b15l1l0n]
        (try walk_at "ev")
        rw [show k + 5 = (k + 4) + 1 from rfl, in2]
        have hat4 := hc4.at hmp h1
        have fin : ∀ (l : Lk) (m5 : Mu) (N' : Nat), Ch m4 m5 → Pen N' m5 → N' ≤ N + 10 * i + 1 + 2 * (z + 1) → LkOk a s w ls.length l →
            W (R.ok (Fl.nx [some (.loc 0), some (.int (a : Int)), some (.str s), some (.str w), some (.int (i : Int)), some (.loc m.length), some (.str lnms), some (.int (z : Int)), some (.str ⟨#[c]⟩)]) (m5.set m.length (.lst (ls.map lkD ++ [lkD l])))) (fun fl m' => match fl with
              | .nx r' => ∃ (ls : List Lk) (o7 o8 : Option D), r' = [some (.loc 0), some (.int (a : Int)), some (.str s), some (.str w), some (.int (i : Int)), some (.loc m.length), some (.str lnms), o7, o8] ∧ At m' m.length (ls.map lkD) ∧ ls.length ≤ 2 * i + (z + 1) ∧ LksOk a s w ls ∧ Pen (N + 10 * i + 1 + 2 * (z + 1)) m' ∧ Ch m m'
              | _ => False) := by
          intro l m5 N' hc5 hp5 hN' hl
          refine ⟨ls ++ [l], _, _, rfl, by rw [List.map_append]; exact (hc5.at hmp hat4).set, by simp; omega, lks_snoc h3 hl, (hp5.set hmp).mono (by omega), ((h5.trans hc4).trans hc5).set (Nat.le_refl _)⟩
        have dz : ∀ (m5 : Mu) (N' : Nat), Ch m4 m5 → Pen N' m5 → N' ≤ N + 10 * i + 1 + 2 * (z + 1) → ∃ d c', idxD (.str lnms) (.int ((ls.map lkD).length : Int)) = some (.str ⟨#[c']⟩) ∧ lnms.cps.toList[ls.length]? = some c' ∧ d = c' := by
          intro m5 N' _ _ _
          obtain ⟨c', _, e1, e2⟩ := idxD_str (s := lnms) (x := (ls.length : Int)) (lineLe (by rw [lnms_len]; decide)) (by omega) (by rw [lnms_len]; omega)
          exact ⟨c', c', by rw [List.length_map]; exact e1, by rw [Int.toNat_natCast] at e2; exact e2, rfl⟩
        have does : ∀ (m5 : Mu) (N' : Nat), Ch m4 m5 → Pen N' m5 → N' ≤ N + 10 * i + 1 + 2 * (z + 1) → True := fun _ _ _ _ _ => trivial
        cases hb : (decide ((("looks" : String) : Str) = w) || decide ((("all" : String) : Str) = w))
        · (try walk_at "ev")
          obtain ⟨_, c', e1, e2, _⟩ := dz m4 _ .rfl' hp4 (by omega)
          rw [hat4.lst]
          (try walk_at "ev")
          rw [hat4.met]
          dsimp only
          rw [show seen m4[m.length]? m.length = .lst (ls.map lkD) by rw [show m4[m.length]? = some (.lst (ls.map lkD)) from hat4]; rfl]
          (try walk_at "ev")
          rw [e1]
          (try walk_at "ev")
          rw [hat4.app (by rw [List.length_map]; omega)]
          (try walk_at "ev")
          exact fin (.does i ⟨#[c]⟩ ⟨#[c']⟩) m4 _ .rfl' hp4 (by omega) ⟨hi, ⟨c, hc, rfl⟩, c', e2, rfl⟩
        · (try walk_at "ev")
          refine W_mono (draw (k + 3) _ m4 3 hp4 (by omega) (by decide) (by decide)) fun v m5 ⟨y, e, _, _, hp5, hc5⟩ => ?_
          subst e
          have hat5 := hc5.at hmp hat4
          (try walk_at "ev")
          cases hy : (y == 0)
          · (try walk_at "ev")
            obtain ⟨_, c', e1, e2, _⟩ := dz m5 _ hc5 hp5 (by omega)
            rw [hat5.lst]
            (try walk_at "ev")
            rw [hat5.met]
            dsimp only
            rw [show seen m5[m.length]? m.length = .lst (ls.map lkD) by rw [show m5[m.length]? = some (.lst (ls.map lkD)) from hat5]; rfl]
            (try walk_at "ev")
            rw [e1]
            (try walk_at "ev")
            rw [hat5.app (by rw [List.length_map]; omega)]
            (try walk_at "ev")
            exact fin (.does i ⟨#[c]⟩ ⟨#[c']⟩) m5 _ hc5 hp5 (by omega) ⟨hi, ⟨c, hc, rfl⟩, c', e2, rfl⟩
          · (try walk_at "ev")
            rw [hat5.lst]
            (try walk_at "ev")
            rw [hat5.app (by rw [List.length_map]; omega)]
            (try walk_at "ev")
            refine fin (.cannot i ⟨#[c]⟩) m5 _ hc5 hp5 (by omega) ⟨hi, ⟨c, hc, rfl⟩, ?_⟩
            rw [Bool.or_eq_true, decide_eq_true_eq, decide_eq_true_eq] at hb
            exact hb.imp Eq.symm Eq.symm
      · subst e
        rw [hq'] at h2 h4
        exact ⟨_, rfl, ls, _, _, _, rfl, h1, by omega, h3, h4.mono (by omega), h5⟩
    cases hw : decide (w = (("plain" : String) : Str))
    all_goals
      (try walk_at "ev")
      refine W_mono (key _ (by decide) (by decide)) fun v m2 ⟨q, e, hq, hp2, hc2⟩ => ?_
      subst e
      (try walk_at "ev")
      rw [rangeD_nat (by omega)]
      (try walk_at "ev")
      rw [List.length_map, List.length_range]
      refine W_mono (body q m2 hq hp2 hc2) fun fl m3 ⟨r', e, hr⟩ => ?_
      subst e
      exact hr
  · subst e
    rw [List.length_map, List.length_range] at h2 h4
    (try walk_at "ev")
    rw [show seen m1[m.length]? m.length = .lst (ls.map lkD) by rw [show m1[m.length]? = some (.lst (ls.map lkD)) from h1]; rfl]
    rw [slcD_lst, show (some (4 : Int)) = some ((4 : Nat) : Int) from rfl, cut_to', ← List.map_take]
    refine ⟨ls.take 4, rfl, by rw [List.length_take]; omega, fun p l hl => ?_, h4.mono (by omega), h5⟩
    rw [List.getElem?_take] at hl
    split at hl
    · exact h3 p l hl
    · cases hl

end K05

/-! part K05_p9 -/
set_option Elab.async false
set_option linter.all false
set_option maxRecDepth 100000
set_option maxHeartbeats 4000000
namespace K05
open PySem Rs L2
local macro_rules | `(tactic| walk_at "ev") => `(tactic| simp only [W_ok, W_bad, W_bind, W_opt, W_fin, fin_rt, fin_nx, R.bind_ok, R.bind_bad, R.opt_some, R.opt_none, E_var, E_cst, E_bin, E_neg, E_cmp, E_chn, E_isn, E_and, E_or, E_not, E_tru, E_ife, E_att, E_idx, E_slc, E_tup, E_fz, E_mk, E_call, E_new, E_met, E_blt, E_bmt, E_len, E_str, E_isi, E_frz, E_fst, E_fmt, Eo_no, Eo_yes, Eb_no, Eb_yes, Es_nil, Es_cons, Ej_nil, Ej_cons, EF_lst, EF_cmp, EF_lof, EF_dct, EI_seq, EI_rng, EI_rng2, S_asg, S_par, S_sta, S_sti, S_aug, S_exp, S_mut, S_ret, S_ifs, S_for, S_sup, S_pas, S_con, S_brk, Ss_nil, Ss_cons, bindT_nm, bindT_tp, bindTs_nil, bindTs_cons, layZ_lst, layZ_dct, layM_eq, look_int, look_bl, look_str, look_non, look_tup, look_lst, look_scr, look_dct, look_ins, look_loc, seen_lst, seen_dct, seen_ins, List.getElem?_cons_zero, List.getElem?_cons_succ, List.length_cons, List.length_nil, List.set_cons_zero, List.set_cons_succ, Option.map_some, Option.map_none, Option.bind_some, Option.bind_none, Sc_len, List.map_cons, List.map_nil, Nat.zero_add, Nat.reduceAdd, Nat.reduceLT, reduceIte, Nat.lt_irrefl, and_self, and_true, true_and, if_true, if_false, ↓reduceIte, le_line, Nat.reduceLeDiff, Nat.zero_le, bin_add, bin_sub, cmp_lt, cmp_le, cmp_gt, cmp_ge, cmp_eq, cmp_ne, cmp_in, cmp_nin, blt_int, blt_max2, blt_min2, blt_tupl, blt_tupt, met_lst, met_tup, met_scr, met_str, met_int, len_lst, len_tup, len_scr, decide_true, decide_false, Bool.not_true, Bool.not_false, items_tup, items_lst, items_str, wipe_nil, wipe_cons, idx_t0, idx_t1, idx_t2, idx_t3, idx_l0, idx_l1, eq_ss, eq_ii, ne_ss, ne_ii, ne_bb, tru_bl])
local macro_rules | `(tactic| walk_at "go") => `(tactic| simp only [W_ok, W_bad, W_bind, W_opt, W_fin, fin_rt, fin_nx, R.bind_ok, R.bind_bad, R.opt_some, R.opt_none, E_var, E_cst, E_bin, E_neg, E_cmp, E_chn, E_isn, E_and, E_or, E_not, E_tru, E_ife, E_att, E_idx, E_slc, E_tup, E_fz, E_mk, E_call, E_new, E_met, E_blt, E_bmt, E_len, E_str, E_isi, E_frz, E_fst, E_fmt, Eo_no, Eo_yes, Eb_no, Eb_yes, Es_nil, Es_cons, Ej_nil, Ej_cons, EF_lst, EF_cmp, EF_lof, EF_dct, EI_seq, EI_rng, EI_rng2, S_asg, S_par, S_sta, S_sti, S_aug, S_exp, S_mut, S_ret, S_ifs, S_for, S_sup, S_pas, S_con, S_brk, Ss_nil, Ss_cons, bindT_nm, bindT_tp, bindTs_nil, bindTs_cons, layZ_lst, layZ_dct, layM_eq, look_int, look_bl, look_str, look_non, look_tup, look_lst, look_scr, look_dct, look_ins, look_loc, seen_lst, seen_dct, seen_ins, List.getElem?_cons_zero, List.getElem?_cons_succ, List.length_cons, List.length_nil, List.set_cons_zero, List.set_cons_succ, Option.map_some, Option.map_none, Option.bind_some, Option.bind_none, Sc_len, List.map_cons, List.map_nil, Nat.zero_add, Nat.reduceAdd, Nat.reduceLT, reduceIte, Nat.lt_irrefl, and_self, and_true, true_and, if_true, if_false, ↓reduceIte, le_line, Nat.reduceLeDiff, Nat.zero_le, bin_add, bin_sub, cmp_lt, cmp_le, cmp_gt, cmp_ge, cmp_eq, cmp_ne, cmp_in, cmp_nin, blt_int, blt_max2, blt_min2, blt_tupl, blt_tupt, met_lst, met_tup, met_scr, met_str, met_int, len_lst, len_tup, len_scr, decide_true, decide_false, Bool.not_true, Bool.not_false, items_tup, items_lst, items_str, wipe_nil, wipe_cons, idx_t0, idx_t1, idx_t2, idx_t3, idx_l0, idx_l1, eq_ss, eq_ii, ne_ss, ne_ii, ne_bb, tru_bl])
theorem dr_mono {a b : Nat} (h : a ≤ b) : dr a ≤ dr b := by
  obtain ⟨j, rfl⟩ := Nat.le.dest h
  induction j with
  | zero => exact Nat.le_refl _
  | succ j ih => exact Nat.le_trans (ih (by omega)) (dr_le _)
theorem drawn_snoc {ops : List (Str × Nat)} {n n' : Nat} {L L' L2 ps : List Tm} {once : Bool} {t : Tm} (hn : n' ≤ n) (h : Drawn ops n' L' once t L2) (h3 : ∀ p ∈ ps, Tg ops n p) (h4 : ∀ l ∈ lvs ps, l ∈ L) (h5 : ∀ l ∈ L', l ∈ L) (h6 : L'.length ≤ L.length)
    (h7 : once = true → ∃ r, (lvs ps ++ (L' ++ r)).Perm L) (h8 : once = false → L' = L) :
    (∀ p ∈ ps ++ [t], Tg ops n p) ∧ (∀ l ∈ lvs (ps ++ [t]), l ∈ L) ∧ (∀ l ∈ L2, l ∈ L) ∧ L2.length ≤ L.length ∧ (once = true → ∃ r, (lvs (ps ++ [t]) ++ (L2 ++ r)).Perm L) ∧ (once = false → L2 = L) := by
  have e : lvs (ps ++ [t]) = lvs ps ++ lv t := by rw [lvs_app, lvs, lvs, List.append_nil]
  refine ⟨fun p hp => ?_, fun l hl => ?_, fun l hl => h5 l (h.sub l hl), Nat.le_trans h.len h6, fun ho => ?_, fun ho => by rw [h.all ho, h8 ho]⟩
  · rcases List.mem_append.mp hp with hp | hp
    · exact h3 p hp
    · rw [List.mem_singleton.mp hp]; exact h.tg.mono hn
  · rw [e] at hl
    rcases List.mem_append.mp hl with hl | hl
    · exact h4 l hl
    · exact h5 l (h.mem l hl)
  · obtain ⟨r1, p1⟩ := h7 ho
    obtain ⟨r2, p2⟩ := h.one ho
    refine ⟨r2 ++ r1, List.Perm.trans ?_ p1⟩
    rw [e, List.append_assoc]
    refine List.Perm.append_left _ ?_
    have := p2.append_right r1
    simpa only [List.append_assoc] using this
theorem target (ops : List (Str × Nat)) (hd : (("d" : Str), 0) ∈ ops) (ho : ∀ o ∈ ops, o.2 ≤ 3) (hol : ops.length ≤ 100) (j : Nat) (hj : 0 < j) (once : Bool) (n : Nat) : ∀ (k N : Nat) (m : Mu) (L : List Tm), Pen N m → At m j (ops.map opD) → N + dr n ≤ 2 ^ 58 → L.length ≤ 400 → (∀ t ∈ L, Lf t) →
    W (run T F (n + k + 5) 14 [.loc 0, .loc j, .lst (L.map tupD), .int (n : Int), .bl once] m) (fun v m' => ∃ t L', v = .tup [tupD t, .lst (List.map tupD L')] ∧ Drawn ops n L once t L' ∧ Pen (N + dr n) m' ∧ Ch m m') := by
  induction n using Nat.strongRecOn with
  | ind n ih =>
  cases n with
  | zero =>
    intro k N m L h ha hN hl hL
    rw [show 0 + k + 5 = (k + 4) + 1 by omega, r14]
    unfold b14
    (try walk_at "ev")
    simp only [n_zero]
    (try walk_at "ev")
    exact leafT k N 0 m ops L once hd h (by omega) hl hL
  | succ n =>
    intro k N m L h ha hN hl hL
    have hN' : N + (3 + 3 * dr n) ≤ 2 ^ 58 := hN
    rw [show n + 1 + k + 5 = (n + k + 5) + 1 by omega, r14]
    unfold b14
    (try walk_at "ev")
    simp only [b_zero]
    (try walk_at "ev")
    rw [show n + k + 5 = (n + k + 3) + 2 by omega]
    refine W_mono (draw (n + k + 3) N m 3 h (by omega) (by decide) (by decide)) fun v m1 ⟨x, e, hx, hx2, hp1, hc1⟩ => ?_
    subst e
    (try walk_at "ev")
    cases hb : (x == 0)
    · (try walk_at "ev")
      rw [show (n + k + 3) + 2 = (n + k + 2) + 3 by omega]
      refine W_mono (pickP (n + k + 2) _ m1 j (ops.map opD) hp1 (by omega) hj (hc1.at hj ha) (by intro e; rw [List.map_eq_nil_iff] at e; rw [e] at hd; cases hd) (by rw [List.length_map]; omega)) fun v m2 ⟨hv, hp2, hc2⟩ => ?_
      obtain ⟨⟨s, a⟩, hs, rfl⟩ := List.mem_map.mp hv
      have ha3 : a ≤ 3 := ho _ hs
      unfold opD
      (try walk_at "ev")
      rw [rangeD_nat (by omega)]
      (try walk_at "ev")
      have hj2 : j < m.length := ha.lt
      have hjm : m.length ≤ m2.length := (hc1.trans hc2).1
      refine W_for (fun i r m' => ∃ (ps : List Tm) (L' : List Tm) (o6 o9 : Option D), r = [some (.loc 0), some (.loc j), some (.lst (L'.map tupD)), some (.int ((n + 1 : Nat) : Int)), some (.bl once), some (.loc m2.length), o6, some (.str s), some (.int (a : Int)), o9] ∧ ps.length = i ∧ At m' m2.length (ps.map tupD) ∧ (∀ p ∈ ps, Tg ops n p) ∧ (∀ l ∈ lvs ps, l ∈ L) ∧ (∀ l ∈ L', l ∈ L) ∧ L'.length ≤ L.length ∧ (once = true → ∃ r, (lvs ps ++ (L' ++ r)).Perm L) ∧ (once = false → L' = L) ∧ Pen (N + 2 + i * dr n) m' ∧ Ch m m')
        ⟨[], L, _, _, rfl, rfl, At.new, (fun p hp => by cases hp), (fun l hl => by rw [lvs] at hl; cases hl), (fun l hl => hl), Nat.le_refl _, (fun _ => ⟨[], by rw [lvs]; simp⟩), (fun _ => rfl), by rw [Nat.zero_mul]; exact hp2.ex Ex.app, (hc1.trans hc2).app⟩
        (fun i x r m3 hx ⟨ps, L', o6, o9, e, h1, h2, h3, h4, h5, h6, h7, h8, h9, h10⟩ => ?_) (fun r m3 ⟨ps, L', o6, o9, e, h1, h2, h3, h4, h5, h6, h7, h8, h9, h10⟩ => ?_)
      · subst e
        have hi := (List.getElem?_eq_some_iff.mp hx).1
        rw [List.length_map, List.length_range] at hi
        have hi3 : i * dr n ≤ 2 * dr n := Nat.mul_le_mul_right _ (by omega)
        (try walk_at "ev")
        have key : ∀ (z : Int) (n' : Nat), z = (n' : Int) → n' ≤ n →
            W (run T F (n + k + 5) 14 [.loc 0, .loc j, .lst (L'.map tupD), .int z, .bl once] m3) (fun v m' => ∃ t L2, v = .tup [tupD t, .lst (List.map tupD L2)] ∧ Drawn ops n' L' once t L2 ∧ Pen (N + 2 + i * dr n + dr n) m' ∧ Ch m3 m') := by
          intro z n' hz hn'
          subst hz
          have hdr := dr_mono hn'
          rw [show n + k + 5 = n' + (k + (n - n')) + 5 by omega]
          exact W_mono (ih n' (by omega) _ _ m3 L' h9 (h10.at hj ha) (by omega) (by omega) fun t ht => hL t (h5 t ht)) fun v m4 ⟨t, L2, e1, e2, e3, e4⟩ => ⟨t, L2, e1, e2, e3.mono (by omega), e4⟩
        have fin : ∀ (n' : Nat) (t : Tm) (L2 : List Tm) (m4 : Mu), n' ≤ n → Drawn ops n' L' once t L2 → Pen (N + 2 + i * dr n + dr n) m4 → Ch m3 m4 →
            W (R.ok (Fl.nx [some (.loc 0), some (.loc j), some (.lst (L2.map tupD)), some (.int ((n + 1 : Nat) : Int)), some (.bl once), some (.loc m2.length), some x, some (.str s), some (.int (a : Int)), some (tupD t)]) (m4.set m2.length (.lst (ps.map tupD ++ [tupD t])))) (fun fl m' => match fl with
              | .nx r' => ∃ (ps : List Tm) (L' : List Tm) (o6 o9 : Option D), r' = [some (.loc 0), some (.loc j), some (.lst (L'.map tupD)), some (.int ((n + 1 : Nat) : Int)), some (.bl once), some (.loc m2.length), o6, some (.str s), some (.int (a : Int)), o9] ∧ ps.length = i + 1 ∧ At m' m2.length (ps.map tupD) ∧ (∀ p ∈ ps, Tg ops n p) ∧ (∀ l ∈ lvs ps, l ∈ L) ∧ (∀ l ∈ L', l ∈ L) ∧ L'.length ≤ L.length ∧ (once = true → ∃ r, (lvs ps ++ (L' ++ r)).Perm L) ∧ (once = false → L' = L) ∧ Pen (N + 2 + (i + 1) * dr n) m' ∧ Ch m m'
              | _ => False) := by
          intro n' t L2 m4 hn' hd4 hp4 hc4
          have hat : At m4 m2.length (ps.map tupD) := hc4.at (by omega) h2
          obtain ⟨g1, g2, g3, g4, g5, g6⟩ := drawn_snoc hn' hd4 h3 h4 h5 h6 h7 h8
          refine ⟨ps ++ [t], L2, _, _, rfl, by simp [h1], by rw [List.map_append]; exact hat.set, g1, g2, g3, g4, g5, g6, ?_, (h10.trans hc4).set (by omega)⟩
          rw [Nat.succ_mul, ← Nat.add_assoc]
          exact hp4.set (by omega)
        rw [show n + k + 3 + 2 = n + k + 5 by omega]
        by_cases ha2 : (a : Int) < 3
        · simp only [ha2]
          (try walk_at "ev")
          refine W_mono (key _ n b_sub (Nat.le_refl _)) fun v m4 ⟨t, L2, e, e2, e3, e4⟩ => ?_
          subst e
          have hat : At m4 m2.length (ps.map tupD) := e4.at (by omega) h2
          (try walk_at "ev")
          rw [hat.lst]
          (try walk_at "ev")
          rw [hat.app (by rw [List.length_map]; omega)]
          (try walk_at "ev")
          exact fin n t L2 m4 (Nat.le_refl _) e2 e3 e4
        · simp only [ha2]
          (try walk_at "ev")
          refine W_mono (key 0 0 rfl (Nat.zero_le _)) fun v m4 ⟨t, L2, e, e2, e3, e4⟩ => ?_
          subst e
          have hat : At m4 m2.length (ps.map tupD) := e4.at (by omega) h2
          (try walk_at "ev")
          rw [hat.lst]
          (try walk_at "ev")
          rw [hat.app (by rw [List.length_map]; omega)]
          (try walk_at "ev")
          exact fin 0 t L2 m4 (Nat.zero_le _) e2 e3 e4
      · subst e
        rw [List.length_map, List.length_range] at h1 h9
        (try walk_at "ev")
        rw [show seen m3[m2.length]? m2.length = .lst (ps.map tupD) by rw [show m3[m2.length]? = some (.lst (ps.map tupD)) from h2]; rfl]
        (try walk_at "ev")
        have hlv : ∀ s : Str, lv (.of s ps) = lvs ps := fun s => lv_of
        refine ⟨.of s ps, L', by rw [tup_of], ⟨.of (by rw [h1]; exact hs) h3, by rw [hlv]; exact h4, h5, h6, by rw [hlv]; exact h7, h8⟩, h9.mono ?_, h10⟩
        show _ ≤ N + (3 + 3 * dr n)
        have : a * dr n ≤ 3 * dr n := Nat.mul_le_mul_right _ ha3
        omega
    · (try walk_at "ev")
      rw [show (n + k + 3) + 2 = (n + k + 1) + 4 by omega]
      refine W_mono (leafT (n + k + 1) (N + 1) (n + 1) m1 ops L once hd hp1 (by omega) hl hL) fun v m2 ⟨t, L', e, h1, h2, h3⟩ => ⟨t, L', e, h1, h2.mono (by show _ ≤ N + (3 + 3 * dr n); omega), hc1.trans h3⟩

end K05

/-! part K05_p11 -/
set_option Elab.async false
set_option linter.all false
set_option maxRecDepth 100000
set_option maxHeartbeats 4000000
namespace K05
open PySem Rs L2
local macro_rules | `(tactic| walk_at "ev") => `(tactic| simp only [W_ok, W_bad, W_bind, W_opt, W_fin, fin_rt, fin_nx, R.bind_ok, R.bind_bad, R.opt_some, R.opt_none, E_var, E_cst, E_bin, E_neg, E_cmp, E_chn, E_isn, E_and, E_or, E_not, E_tru, E_ife, E_att, E_idx, E_slc, E_tup, E_fz, E_mk, E_call, E_new, E_met, E_blt, E_bmt, E_len, E_str, E_isi, E_frz, E_fst, E_fmt, Eo_no, Eo_yes, Eb_no, Eb_yes, Es_nil, Es_cons, Ej_nil, Ej_cons, EF_lst, EF_cmp, EF_lof, EF_dct, EI_seq, EI_rng, EI_rng2, S_asg, S_par, S_sta, S_sti, S_aug, S_exp, S_mut, S_ret, S_ifs, S_for, S_sup, S_pas, S_con, S_brk, Ss_nil, Ss_cons, bindT_nm, bindT_tp, bindTs_nil, bindTs_cons, layZ_lst, layZ_dct, layM_eq, look_int, look_bl, look_str, look_non, look_tup, look_lst, look_scr, look_dct, look_ins, look_loc, seen_lst, seen_dct, seen_ins, List.getElem?_cons_zero, List.getElem?_cons_succ, List.length_cons, List.length_nil, List.set_cons_zero, List.set_cons_succ, Option.map_some, Option.map_none, Option.bind_some, Option.bind_none, Sc_len, List.map_cons, List.map_nil, Nat.zero_add, Nat.reduceAdd, Nat.reduceLT, reduceIte, Nat.lt_irrefl, and_self, and_true, true_and, if_true, if_false, ↓reduceIte, le_line, Nat.reduceLeDiff, Nat.zero_le, bin_add, bin_sub, cmp_lt, cmp_le, cmp_gt, cmp_ge, cmp_eq, cmp_ne, cmp_in, cmp_nin, blt_int, blt_max2, blt_min2, blt_tupl, blt_tupt, met_lst, met_tup, met_scr, met_str, met_int, len_lst, len_tup, len_scr, decide_true, decide_false, Bool.not_true, Bool.not_false, items_tup, items_lst, items_str, wipe_nil, wipe_cons, idx_t0, idx_t1, idx_t2, idx_t3, idx_l0, idx_l1, eq_ss, eq_ii, ne_ss, ne_ii, ne_bb, tru_bl])
local macro_rules | `(tactic| walk_at "go") => `(tactic| simp only [W_ok, W_bad, W_bind, W_opt, W_fin, fin_rt, fin_nx, R.bind_ok, R.bind_bad, R.opt_some, R.opt_none, E_var, E_cst, E_bin, E_neg, E_cmp, E_chn, E_isn, E_and, E_or, E_not, E_tru, E_ife, E_att, E_idx, E_slc, E_tup, E_fz, E_mk, E_call, E_new, E_met, E_blt, E_bmt, E_len, E_str, E_isi, E_frz, E_fst, E_fmt, Eo_no, Eo_yes, Eb_no, Eb_yes, Es_nil, Es_cons, Ej_nil, Ej_cons, EF_lst, EF_cmp, EF_lof, EF_dct, EI_seq, EI_rng, EI_rng2, S_asg, S_par, S_sta, S_sti, S_aug, S_exp, S_mut, S_ret, S_ifs, S_for, S_sup, S_pas, S_con, S_brk, Ss_nil, Ss_cons, bindT_nm, bindT_tp, bindTs_nil, bindTs_cons, layZ_lst, layZ_dct, layM_eq, look_int, look_bl, look_str, look_non, look_tup, look_lst, look_scr, look_dct, look_ins, look_loc, seen_lst, seen_dct, seen_ins, List.getElem?_cons_zero, List.getElem?_cons_succ, List.length_cons, List.length_nil, List.set_cons_zero, List.set_cons_succ, Option.map_some, Option.map_none, Option.bind_some, Option.bind_none, Sc_len, List.map_cons, List.map_nil, Nat.zero_add, Nat.reduceAdd, Nat.reduceLT, reduceIte, Nat.lt_irrefl, and_self, and_true, true_and, if_true, if_false, ↓reduceIte, le_line, Nat.reduceLeDiff, Nat.zero_le, bin_add, bin_sub, cmp_lt, cmp_le, cmp_gt, cmp_ge, cmp_eq, cmp_ne, cmp_in, cmp_nin, blt_int, blt_max2, blt_min2, blt_tupl, blt_tupt, met_lst, met_tup, met_scr, met_str, met_int, len_lst, len_tup, len_scr, decide_true, decide_false, Bool.not_true, Bool.not_false, items_tup, items_lst, items_str, wipe_nil, wipe_cons, idx_t0, idx_t1, idx_t2, idx_t3, idx_l0, idx_l1, eq_ss, eq_ii, ne_ss, ne_ii, ne_bb, tru_bl])
/-! the pool -/
def isDoes (i : Nat) : Lk → Bool
  | .does j _ _ => j == i
  | .cannot _ _ => false
def nmOf : Lk → Str
  | .does _ _ n => n
  | .cannot _ _ => Str.empty
def PoolOk (a : Nat) (ls : List Lk) (t : Tm) : Prop := (∃ i : Nat, i < a ∧ t = .arg (i : Int)) ∨ ∃ i l n, .does i l n ∈ ls ∧ t = .got n
theorem pool_lf {a : Nat} {s w : Str} {ls : List Lk} {t : Tm} (ha : a ≤ 3) (hk : LksOk a s w ls) (h : PoolOk a ls t) : Lf t := by
  rcases h with ⟨i, hi, rfl⟩ | ⟨i, l, n, hl, rfl⟩
  · exact ⟨by omega, by omega⟩
  · obtain ⟨p, hp⟩ := List.mem_iff_getElem?.mp hl
    obtain ⟨_, _, c, _, rfl⟩ := hk p _ hp
    rfl
theorem W_filt {α : Type} {f : D → Mu → R (Option D)} {m : Mu} {Q : List D → Mu → Prop} {n : Nat} (ps : List α) (f0 : α → D) (c : α → Bool) (J : Mu → Prop) (h0 : J m)
    (step : ∀ p ∈ ps, ∀ m, J m → W (f (f0 p) m) (fun o m' => o = (if c p then some (f0 p) else none) ∧ J m')) (hq : ∀ m, J m → Q ((ps.filter c).map f0) m) (hn : n = ps.length := by simp) : W (turnsC f (.its (ps.map f0)) n 0 m) Q :=
  W_mapF ps f0 (fun p => if c p then some (f0 p) else none) J h0 step (fun m hj => by
    have e : ps.filterMap (fun p => if c p then some (f0 p) else none) = (ps.filter c).map f0 := by
      clear step hn hq
      induction ps with
      | nil => rfl
      | cons p ps ih => cases h : c p <;> simp [List.filterMap_cons, List.filter_cons, h, ih]
    rw [e]
    exact hq m hj) hn
theorem plain_lfs {L : List Tm} (h : ∀ t ∈ L, Lf t) : plainD (.lst (L.map tupD)) = true := by
  simp only [plainD]
  refine plainL_map fun t ht => ?_
  have := h t ht
  cases t with
  | arg n => rw [tup_arg]; rfl
  | got s => rw [tup_got]; rfl
  | of s ps => exact this.elim
theorem ne_lnil {T : Tab} {k : Nat} {xs : List D} {d : Nat} (h : dep (.lst xs) = some d) (hp : plainD (.lst xs) = true) (hd : d ≤ k) (hk : 1 ≤ k) : neO T k (.lst xs) (.lst []) = some (!xs.isEmpty) := by
  rw [neO_room h (show dep (.lst []) = some 1 from rfl) hd hk hp rfl, eqD_ll']
  cases xs with
  | nil => rfl
  | cons x xs => simp
theorem does_at {i : Nat} {l n : Str} : lkD (.does i l n) = .tup [.str "does", .int (i : Int), .str l, .str n] := rfl
theorem cannot_at {i : Nat} {l : Str} : lkD (.cannot i l) = .tup [.str "cannot", .int (i : Int), .str l] := rfl
theorem c_does : (decide ((("cannot" : String) : Str) = (("does" : String) : Str))) = false := by decide +kernel
theorem d_does : (decide ((("does" : String) : Str) = (("does" : String) : Str))) = true := by decide +kernel
/-- a list of the store that is drawn on, or data -/
def Hold (J : Nat) (m : Mu) (x : D) (ds : List D) : Prop := x = .lst ds ∨ x = .loc J ∧ At m J ds
theorem Hold.look {J : Nat} {m : Mu} {x : D} {ds : List D} (h : Hold J m x ds) : look m x = .lst ds := by
  rcases h with rfl | ⟨rfl, h⟩
  · rfl
  · exact h.look
theorem Hold.ch {J : Nat} {m m' : Mu} {x : D} {ds : List D} (h : Hold J m x ds) (hJ : 0 < J) (hc : Ch m m') : Hold J m' x ds := h.imp id fun ⟨a, b⟩ => ⟨a, hc.at hJ b⟩
theorem Hold.frz {J : Nat} {m : Mu} {x : D} {ds : List D} (h : Hold J m x ds) : frzD x m = .ok (.lst ds) m ∨ frzD x m = .ok (.lst ds) (m.set J .dead) := by
  rcases h with rfl | ⟨rfl, h⟩
  · exact .inl rfl
  · exact .inr h.frz
theorem pool (k N : Nat) (m : Mu) (a : Nat) (s w : Str) (ls : List Lk) (h : Pen N m) (hN : N ≤ 2 ^ 58) (ha : a ≤ 3) (hl : ls.length ≤ 4) (hk : LksOk a s w ls) :
    W (run T F (k + 6) 16 [.loc 0, .int (a : Int), .lst (ls.map lkD), .str w] m) (fun v m' => ∃ L : List Tm, v = .lst (L.map tupD) ∧ L.length ≤ 20 ∧ (∀ t ∈ L, PoolOk a ls t) ∧ Pen (N + 20) m' ∧ Ch m m') := by
  rw [r16, b16e, b16c0, b16c1, b16c2, b16n]
  (try walk_at "ev")
  rw [rangeD_nat (by omega)]
  (try walk_at "ev")
  have hmp := h.pos
  generalize hb : (decide ((("copies" : String) : Str) = w) || decide ((("all" : String) : Str) = w)) = b
  refine W_for (fun i r m' => ∃ (x : D) (L : List Tm) (o5 o6 o7 o8 : Option D), r = [some (.loc 0), some (.int (a : Int)), some (.lst (ls.map lkD)), some (.str w), some x, o5, o6, o7, o8, none] ∧ Hold m.length m' x (L.map tupD) ∧ (b = false → x = .loc m.length) ∧ L.length ≤ 5 * i ∧ (∀ t ∈ L, PoolOk a ls t) ∧ Pen (N + 2 * i) m' ∧ Ch m m')
    ⟨.loc m.length, [], _, _, _, _, rfl, .inr ⟨rfl, At.new⟩, fun _ => rfl, by simp, (fun t ht => by cases ht), h.ex Ex.app, Ch.ex Ex.app⟩ (fun i x r m1 hx ⟨x4, L, o5, o6, o7, o8, e, h1, h1b, h2, h3, h4, h5⟩ => ?_) (fun r m1 ⟨x4, L, o5, o6, o7, o8, e, h1, h1b, h2, h3, h4, h5⟩ => ?_)
  · subst e
    obtain ⟨hi, rfl⟩ := range_at' hx
    rw [b16l1c0]
    (try walk_at "ev")
    rw [List.length_map]
    refine W_filt ls lkD (isDoes i) (fun m' => m' = m1) rfl (fun p hp m2 e2 => ?_) fun m2 e2 => ?_
    · subst e2
      cases p with
      | does j l n =>
        rw [does_at]
        (try walk_at "ev")
        have e : isDoes i (.does j l n) = ((j : Int) == (i : Int)) := by
          by_cases hji : j = i
          · subst hji; simp [isDoes]
          · have h2 : ((j : Int) == (i : Int)) = false := by rw [beq_eq_false_iff_ne]; omega
            rw [h2]
            exact beq_eq_false_iff_ne.mpr hji
        rw [e]
        cases hji : ((j : Int) == (i : Int))
        · (try walk_at "ev")
          (try simp)
        · (try walk_at "ev")
          (try simp)
      | cannot j l =>
        rw [cannot_at]
        (try walk_at "ev")
        simp only [c_does]
        (try walk_at "ev")
        (try simp [isDoes])
    · subst e2
      have hfl : (ls.filter (isDoes i)).length ≤ 4 := Nat.le_trans (List.length_filter_le _ _) hl
      (try walk_at "ev")
      rw [List.length_map, if_pos (lineLe (by omega))]
      (try walk_at "ev")
      rw [b16l1c1]
      (try walk_at "ev")
      rw [List.length_map]
      refine W_mapL (ls.filter (isDoes i)) lkD (fun p => tupD (.got (nmOf p))) (fun m' => m' = m2) rfl (fun p hp m3 e3 => ?_) fun m3 e3 => ?_
      · subst e3
        have hp2 := (List.mem_filter.mp hp).2
        cases p with
        | does j l n =>
          rw [does_at, tup_got]
          (try walk_at "ev")
          first | exact rfl | exact ⟨rfl, rfl⟩
        | cannot j l => cases hp2
      · subst e3
        (try walk_at "ev")
        rw [List.length_map, if_pos (lineLe (by omega))]
        (try walk_at "ev")
        rw [b16l1c2]
        (try walk_at "ev")
        rw [show (ls.filter (isDoes i)).map (fun p => tupD (.got (nmOf p))) = ((ls.filter (isDoes i)).map (fun p => Tm.got (nmOf p))).map tupD by rw [List.map_map]; rfl]
        have hgl : ((ls.filter (isDoes i)).map (fun p => Tm.got (nmOf p))).length ≤ 4 := by rw [List.length_map]; exact hfl
        have hg : ∀ t ∈ (ls.filter (isDoes i)).map (fun p => Tm.got (nmOf p)), PoolOk a ls t := by
          intro t ht
          obtain ⟨p, hp, rfl⟩ := List.mem_map.mp ht
          obtain ⟨hp1, hp2⟩ := List.mem_filter.mp hp
          cases p with
          | does j l n => exact .inr ⟨j, l, n, hp1, rfl⟩
          | cannot j l => cases hp2
        generalize (ls.filter (isDoes i)).map (fun p => Tm.got (nmOf p)) = G at hgl hg ⊢
        obtain ⟨d, hd, hd2⟩ := dep_lfs (L := G) fun t ht => pool_lf ha hk (hg t ht)
        have hpl := plain_lfs (L := G) fun t ht => pool_lf ha hk (hg t ht)
        have rest : ∀ (E : List Tm), E ≠ [] → E.length ≤ 5 → (∀ t ∈ E, PoolOk a ls t) → W (Ss T (k + 5) (run T F (k + 5)) b16l1q3 [some (.loc 0), some (.int (a : Int)), some (.lst (ls.map lkD)), some (.str w), some x4, some (.int (i : Int)), some (.lst ((ls.filter (isDoes i)).map lkD)), some (.lst (G.map tupD)), some (.lst (E.map tupD)), none] m3) (fun fl m' => ∃ r', fl = .nx r' ∧ ∃ (x : D) (L : List Tm) (o5 o6 o7 o8 : Option D), r' = [some (.loc 0), some (.int (a : Int)), some (.lst (ls.map lkD)), some (.str w), some x, o5, o6, o7, o8, none] ∧ Hold m.length m' x (L.map tupD) ∧ (b = false → x = .loc m.length) ∧ L.length ≤ 5 * (i + 1) ∧ (∀ t ∈ L, PoolOk a ls t) ∧ Pen (N + 2 * (i + 1)) m' ∧ Ch m m') := by
          intro E hE hE5 hEp
          rw [b16l1c3, b16l1n]
          (try walk_at "ev")
          rw [show k + 5 = (k + 4) + 1 from rfl, in2, hb]
          (try walk_at "ev")
          cases b
          · (try walk_at "ev")
            refine W_mono (draw (k + 3) _ m3 5 h4 (by omega) (by decide) (by decide)) fun v m4 ⟨y, e, _, _, hp4, hc4⟩ => ?_
            subst e
            (try walk_at "ev")
            have hx4 := h1b rfl
            subst hx4
            have hJ : Hold m.length m4 (.loc m.length) (L.map tupD) := h1.ch hmp hc4
            have hat : At m4 m.length (L.map tupD) := by
              rcases hJ with hJ | hJ
              · cases hJ
              · exact hJ.2
            cases hy : decide ((0 : Int) < y)
            · (try walk_at "ev")
              exact ⟨_, rfl, _, L, _, _, _, _, rfl, hJ, fun _ => rfl, by omega, h3, hp4.mono (by omega), h5.trans hc4⟩
            · (try walk_at "ev")
              rw [hat.lst]
              (try walk_at "ev")
              refine W_mono (pick (k + 2) _ m4 (E.map tupD) hp4 (by omega) (by simpa using hE) (by rw [List.length_map]; omega)) fun v m5 ⟨hv, hp5, hc5⟩ => ?_
              obtain ⟨t, ht, rfl⟩ := List.mem_map.mp hv
              have hat5 := hc5.at hmp hat
              rw [hat5.app (by rw [List.length_map]; omega)]
              (try walk_at "ev")
              refine ⟨_, rfl, _, L ++ [t], _, _, _, _, rfl, .inr ⟨rfl, by rw [List.map_append]; exact hat5.set⟩, fun _ => rfl, by simp; omega, fun t' ht' => ?_, (hp5.set hmp).mono (by omega), ((h5.trans hc4).trans hc5).set (Nat.le_refl _)⟩
              rcases List.mem_append.mp ht' with ht' | ht'
              · exact h3 t' ht'
              · rw [List.mem_singleton.mp ht']; exact hEp t ht
          · (try walk_at "ev")
            rw [h1.look]
            rw [bin_lst (lineLe (by simp only [List.length_map]; omega)), ← List.map_append]
            (try walk_at "ev")
            refine ⟨_, rfl, _, L ++ E, _, _, _, _, rfl, .inl rfl, (fun e => Bool.noConfusion e), by simp; omega, fun t' ht' => ?_, h4.mono (by omega), h5⟩
            rcases List.mem_append.mp ht' with ht' | ht'
            · exact h3 t' ht'
            · exact hEp t' ht'
        have hArg : D.tup [.str "arg", .int (i : Int)] = tupD (.arg (i : Int)) := by rw [tup_arg]
        have two := rest (G ++ [Tm.arg (i : Int)]) (by simp) (by simp; omega) fun t ht => by
          rcases List.mem_append.mp ht with ht | ht
          · exact hg t ht
          · rw [List.mem_singleton.mp ht]; exact .inl ⟨i, hi, rfl⟩
        cases hw : decide (w = (("plain" : String) : Str))
        · (try walk_at "ev")
          rw [hArg, show [tupD (.arg (i : Int))] = [Tm.arg (i : Int)].map tupD from rfl, bin_lst (lineLe (by simp only [List.length_map, List.length_singleton]; omega)), ← List.map_append]
          (try walk_at "ev")
          exact W_mono two fun fl m' ⟨r', e, q⟩ => by subst e; exact q
        · (try walk_at "ev")
          rw [ne_lnil hd hpl (by omega) (by omega), isEmpty_map]
          cases hge : G.isEmpty
          · (try walk_at "ev")
            exact W_mono (rest G (by intro e; rw [e] at hge; cases hge) (by omega) hg) fun fl m' ⟨r', e, q⟩ => by subst e; exact q
          · (try walk_at "ev")
            rw [hArg, show [tupD (.arg (i : Int))] = [Tm.arg (i : Int)].map tupD from rfl, bin_lst (lineLe (by simp only [List.length_map, List.length_singleton]; omega)), ← List.map_append]
            (try walk_at "ev")
            exact W_mono two fun fl m' ⟨r', e, q⟩ => by subst e; exact q
  · subst e
    rw [List.length_map, List.length_range] at h2 h4
    (try walk_at "ev")
    rcases h1.frz with e | e
    · rw [e]
      exact ⟨L, rfl, by omega, h3, h4.mono (by omega), h5⟩
    · rw [e]
      exact ⟨L, rfl, by omega, h3, (h4.set hmp).mono (by omega), h5.set (Nat.le_refl _)⟩

end K05

/-! part K05_p12 -/
set_option Elab.async false
set_option linter.all false
set_option maxRecDepth 100000
set_option maxHeartbeats 4000000
namespace K05
open PySem Rs L2
local macro_rules | `(tactic| walk_at "ev") => `(tactic| simp only [W_ok, W_bad, W_bind, W_opt, W_fin, fin_rt, fin_nx, R.bind_ok, R.bind_bad, R.opt_some, R.opt_none, E_var, E_cst, E_bin, E_neg, E_cmp, E_chn, E_isn, E_and, E_or, E_not, E_tru, E_ife, E_att, E_idx, E_slc, E_tup, E_fz, E_mk, E_call, E_new, E_met, E_blt, E_bmt, E_len, E_str, E_isi, E_frz, E_fst, E_fmt, Eo_no, Eo_yes, Eb_no, Eb_yes, Es_nil, Es_cons, Ej_nil, Ej_cons, EF_lst, EF_cmp, EF_lof, EF_dct, EI_seq, EI_rng, EI_rng2, S_asg, S_par, S_sta, S_sti, S_aug, S_exp, S_mut, S_ret, S_ifs, S_for, S_sup, S_pas, S_con, S_brk, Ss_nil, Ss_cons, bindT_nm, bindT_tp, bindTs_nil, bindTs_cons, layZ_lst, layZ_dct, layM_eq, look_int, look_bl, look_str, look_non, look_tup, look_lst, look_scr, look_dct, look_ins, look_loc, seen_lst, seen_dct, seen_ins, List.getElem?_cons_zero, List.getElem?_cons_succ, List.length_cons, List.length_nil, List.set_cons_zero, List.set_cons_succ, Option.map_some, Option.map_none, Option.bind_some, Option.bind_none, Sc_len, List.map_cons, List.map_nil, Nat.zero_add, Nat.reduceAdd, Nat.reduceLT, reduceIte, Nat.lt_irrefl, and_self, and_true, true_and, if_true, if_false, ↓reduceIte, le_line, Nat.reduceLeDiff, Nat.zero_le, bin_add, bin_sub, cmp_lt, cmp_le, cmp_gt, cmp_ge, cmp_eq, cmp_ne, cmp_in, cmp_nin, blt_int, blt_max2, blt_min2, blt_tupl, blt_tupt, met_lst, met_tup, met_scr, met_str, met_int, len_lst, len_tup, len_scr, decide_true, decide_false, Bool.not_true, Bool.not_false, items_tup, items_lst, items_str, wipe_nil, wipe_cons, idx_t0, idx_t1, idx_t2, idx_t3, idx_l0, idx_l1, eq_ss, eq_ii, ne_ss, ne_ii, ne_bb, tru_bl])
local macro_rules | `(tactic| walk_at "go") => `(tactic| simp only [W_ok, W_bad, W_bind, W_opt, W_fin, fin_rt, fin_nx, R.bind_ok, R.bind_bad, R.opt_some, R.opt_none, E_var, E_cst, E_bin, E_neg, E_cmp, E_chn, E_isn, E_and, E_or, E_not, E_tru, E_ife, E_att, E_idx, E_slc, E_tup, E_fz, E_mk, E_call, E_new, E_met, E_blt, E_bmt, E_len, E_str, E_isi, E_frz, E_fst, E_fmt, Eo_no, Eo_yes, Eb_no, Eb_yes, Es_nil, Es_cons, Ej_nil, Ej_cons, EF_lst, EF_cmp, EF_lof, EF_dct, EI_seq, EI_rng, EI_rng2, S_asg, S_par, S_sta, S_sti, S_aug, S_exp, S_mut, S_ret, S_ifs, S_for, S_sup, S_pas, S_con, S_brk, Ss_nil, Ss_cons, bindT_nm, bindT_tp, bindTs_nil, bindTs_cons, layZ_lst, layZ_dct, layM_eq, look_int, look_bl, look_str, look_non, look_tup, look_lst, look_scr, look_dct, look_ins, look_loc, seen_lst, seen_dct, seen_ins, List.getElem?_cons_zero, List.getElem?_cons_succ, List.length_cons, List.length_nil, List.set_cons_zero, List.set_cons_succ, Option.map_some, Option.map_none, Option.bind_some, Option.bind_none, Sc_len, List.map_cons, List.map_nil, Nat.zero_add, Nat.reduceAdd, Nat.reduceLT, reduceIte, Nat.lt_irrefl, and_self, and_true, true_and, if_true, if_false, ↓reduceIte, le_line, Nat.reduceLeDiff, Nat.zero_le, bin_add, bin_sub, cmp_lt, cmp_le, cmp_gt, cmp_ge, cmp_eq, cmp_ne, cmp_in, cmp_nin, blt_int, blt_max2, blt_min2, blt_tupl, blt_tupt, met_lst, met_tup, met_scr, met_str, met_int, len_lst, len_tup, len_scr, decide_true, decide_false, Bool.not_true, Bool.not_false, items_tup, items_lst, items_str, wipe_nil, wipe_cons, idx_t0, idx_t1, idx_t2, idx_t3, idx_l0, idx_l1, eq_ss, eq_ii, ne_ss, ne_ii, ne_bb, tru_bl])
/-! rules, books -/
structure Ru where
  o : Str
  ls : List Lk
  l : Str
  t : Tm
def ruD (r : Ru) : D := .tup [.str r.o, .lst (r.ls.map lkD), .str r.l, tupD r.t]
structure RuOk (ops : List (Str × Nat)) (s w : Str) (r : Ru) : Prop where
  len : r.ls.length ≤ 4
  sgn : Sgn s r.l
  tg : Tg ops 2 r.t
  ok : ∃ a : Nat, (r.o, a) ∈ ops ∧ LksOk a s w r.ls ∧ ∀ t ∈ lv r.t, PoolOk a r.ls t
structure Ops (ops : List (Str × Nat)) : Prop where
  d : (("d" : Str), 0) ∈ ops
  ar : ∀ o ∈ ops, o.2 ≤ 3
  len : ops.length ≤ 4
theorem dr2 : dr 2 = 21 := rfl
theorem target2 (ops : List (Str × Nat)) (hd : (("d" : Str), 0) ∈ ops) (ho : ∀ o ∈ ops, o.2 ≤ 3) (hol : ops.length ≤ 100) (j : Nat) (hj : 0 < j) (once : Bool) (k N : Nat) (m : Mu) (L : List Tm) (h : Pen N m) (ha : At m j (ops.map opD)) (hN : N + 21 ≤ 2 ^ 58) (hl : L.length ≤ 400) (hL : ∀ t ∈ L, Lf t) :
    W (run T F (k + 7) 14 [.loc 0, .loc j, .lst (L.map tupD), .int 2, .bl once] m) (fun v m' => ∃ t L', v = .tup [tupD t, .lst (List.map tupD L')] ∧ Drawn ops 2 L once t L' ∧ Pen (N + 21) m' ∧ Ch m m') := by
  rw [show k + 7 = 2 + k + 5 by omega]
  exact target ops hd ho hol j hj once 2 k N m L h ha hN hl hL
theorem rule_drawn (k N : Nat) (m : Mu) (ops : List (Str × Nat)) (o : Str) (a j : Nat) (s w : Str) (h : Pen N m) (hN : N ≤ 2 ^ 50) (hops : Ops ops) (hoa : (o, a) ∈ ops) (hj : 0 < j) (hat : At m j (ops.map opD)) (hs : 0 < s.length) (hs2 : s.length ≤ 1000) :
    W (run T F (k + 20) 17 [.loc 0, .loc j, opD (o, a), .str s, .str w] m) (fun v m' => ∃ r : Ru, v = ruD r ∧ RuOk ops s w r ∧ Pen (N + 120) m' ∧ Ch m m') := by
  have ha : a ≤ 3 := hops.ar _ hoa
  rw [r17]
  unfold b17 opD
  (try walk_at "ev")
  refine W_mono (looks (k + 13) N m a s w h (by omega) ha hs hs2) fun v m1 ⟨ls, e, hl4, hk, hp1, hc1⟩ => ?_
  subst e
  (try walk_at "ev")
  refine W_mono (pool (k + 13) _ m1 a s w ls hp1 (by omega) ha hl4 hk) fun v m2 ⟨L, e, hL20, hP, hp2, hc2⟩ => ?_
  subst e
  (try walk_at "ev")
  rw [show k + 19 = (k + 18) + 1 from rfl, in2]
  (try walk_at "ev")
  refine W_mono (target2 ops hops.d hops.ar (Nat.le_trans hops.len (by decide)) j hj _ (k + 12) _ m2 L hp2 (hc2.at hj (hc1.at hj hat)) (by omega) (by omega) fun t ht => pool_lf ha hk (hP t ht)) fun v m3 ⟨t, L', e, hD, hp3, hc3⟩ => ?_
  subst e
  (try walk_at "ev")
  refine W_mono (pickS (k + 16) _ m3 s (hp3.mono (N' := N + 91) (by omega)) (by omega) hs hs2) fun v m4 ⟨⟨c, hc, e⟩, hp4, hc4⟩ => ?_
  subst e
  (try walk_at "ev")
  exact ⟨⟨o, ls, ⟨#[c]⟩, t⟩, rfl, ⟨hl4, ⟨c, hc, rfl⟩, hD.tg, a, hoa, hk, fun t' ht' => hP t' (hD.mem t' ht')⟩, hp4.mono (by omega), ((hc1.trans hc2).trans hc3).trans hc4⟩
def fgh : List Nat := [102, 103, 104]
theorem fgh_is : (("fgh" : String) : Str).cps.toList = fgh := by decide +kernel
theorem fgh_len : (("fgh" : String) : Str).length = 3 := by decide +kernel
/-- the names of operators: d, then the first of f, g, h -/
def opNames (n : Nat) : List Str := ("d" : Str) :: (fgh.take n).map fun c => ⟨#[c]⟩
theorem take_lt {x : Nat} {c : Nat} {i : Nat} (h : (fgh.take x)[i]? = some c) : i < x ∧ fgh[i]? = some c := by
  rw [List.getElem?_take] at h
  split at h
  · exact ⟨by assumption, h⟩
  · cases h
theorem opNames_succ {i c : Nat} (h : fgh[i]? = some c) : opNames (i + 1) = opNames i ++ [⟨#[c]⟩] := by
  unfold opNames
  rw [List.take_succ, h, List.map_append]
  rfl
theorem pickI (k N : Nat) (m : Mu) (ds : List Int) (h : Pen N m) (hN : N ≤ 2 ^ 60) (h1 : ds ≠ []) (h2 : ds.length < 100) :
    W (run T F (k + 3) 11 [.loc 0, .lst (ds.map .int)] m) (fun v m' => (∃ i ∈ ds, v = .int i) ∧ Pen (N + 1) m' ∧ Ch m m') :=
  W_mono (pick k N m (ds.map .int) h hN (by simpa using h1) (by rw [List.length_map]; omega)) fun v m' ⟨hv, hp, hc⟩ => by
    obtain ⟨i, hi, rfl⟩ := List.mem_map.mp hv
    exact ⟨⟨i, hi, rfl⟩, hp, hc⟩
theorem opD_is {s : Str} {a : Nat} : opD (s, a) = .tup [.str s, .int (a : Int)] := rfl
theorem pick1123 (k N : Nat) (m : Mu) (h : Pen N m) (hN : N ≤ 2 ^ 60) :
    W (run T F (k + 3) 11 [.loc 0, .lst [.int 1, .int 1, .int 2, .int 3]] m) (fun v m' => (∃ a : Nat, 1 ≤ a ∧ a ≤ 3 ∧ v = .int (a : Int)) ∧ Pen (N + 1) m' ∧ Ch m m') :=
  W_mono (pickI k N m [1, 1, 2, 3] h hN (by simp) (by simp)) fun v m' ⟨⟨i, hi, e⟩, hp, hc⟩ => by
    refine ⟨⟨i.toNat, ?_⟩, hp, hc⟩
    simp only [List.mem_cons, List.not_mem_nil, or_false] at hi
    rcases hi with rfl | rfl | rfl | rfl <;> exact ⟨by decide, by decide, e⟩
/-- n operators behind d -/
structure OpsN (ops : List (Str × Nat)) (n : Nat) : Prop where
  nm : ops.map (·.1) = opNames n
  d : (("d" : Str), 0) ∈ ops
  ar : ∀ o ∈ ops, o.2 ≤ 3
theorem OpsN.ops {ops : List (Str × Nat)} {n : Nat} (h : OpsN ops n) : Ops ops := ⟨h.d, h.ar, by
  have := congrArg List.length h.nm
  rw [List.length_map] at this
  rw [this]
  show (fgh.take n |>.map _).length + 1 ≤ 4
  rw [List.length_map, List.length_take]
  show min n 3 + 1 ≤ 4
  omega⟩
theorem book_drawn (k N : Nat) (m : Mu) (s w : Str) (most : Nat) (h : Pen N m) (hN : N ≤ 2 ^ 40) (hs : 0 < s.length) (hs2 : s.length ≤ 1000) (hmost : 0 < most) (hmost2 : most ≤ 30) :
    W (run T F (k + 24) 18 [.loc 0, .str s, .str w, .int (most : Int)] m) (fun v m' => ∃ (ops : List (Str × Nat)) (n : Nat) (rs : List Ru), v = .tup [.lst (ops.map opD), .lst (rs.map ruD)] ∧ OpsN ops n ∧ (∀ r ∈ rs, RuOk ops s w r) ∧ 1 ≤ rs.length ∧ rs.length ≤ most ∧ Pen (N + 5000) m' ∧ Ch m m') := by
  have hmp := h.pos
  rw [r18, b18e, b18c0, b18c1]
  (try walk_at "ev")
  have hpA : Pen N (m ++ [MO.lst [D.tup [D.str "d", D.int 0]]]) := h.ex Ex.app
  have hcA : Ch m (m ++ [MO.lst [D.tup [D.str "d", D.int 0]]]) := Ch.ex Ex.app
  have haA : At (m ++ [MO.lst [D.tup [D.str "d", D.int 0]]]) m.length ([(("d" : Str), 0)].map opD) := At.new
  refine W_mono (draw (k + 21) N _ 3 hpA (by omega) (by decide) (by decide)) fun v m1 ⟨x, e, hx, hx2, hp1, hc1⟩ => ?_
  subst e
  (try walk_at "ev")
  rw [slcD_str (lineLe (by rw [fgh_len]; decide)), fgh_is, cut_to (by omega) (by show _ ≤ (3 : Int); omega)]
  (try walk_at "ev")
  generalize hq : (1 + x).toNat = q
  refine W_for (fun i r m' => ∃ (ops : List (Str × Nat)) (o5 : Option D), r = [some (.loc 0), some (.str s), some (.str w), some (.int (most : Int)), some (.loc m.length), o5, none, none] ∧ At m' m.length (ops.map opD) ∧ OpsN ops i ∧ Pen (N + 1 + i) m' ∧ Ch m m')
    ⟨[(("d" : Str), 0)], _, rfl, hc1.at hmp haA, ⟨rfl, by simp, by simp⟩, hp1, hcA.trans hc1⟩ (fun i x r m2 hx ⟨ops, o5, e, h1, h2, h3, h4⟩ => ?_) (fun r m2 ⟨ops, o5, e, h1, h2, h3, h4⟩ => ?_)
  · subst e
    rw [List.getElem?_map] at hx
    obtain ⟨c, hc, rfl⟩ := Option.map_eq_some_iff.mp hx
    obtain ⟨hi, hc⟩ := take_lt hc
    (try walk_at "ev")
    rw [b18l1c0, b18l1n]
    (try walk_at "ev")
    rw [h1.lst]
    (try walk_at "ev")
    refine W_mono (pick1123 (k + 20) _ m2 h3 (by omega)) fun v m3 ⟨⟨a, ha1, ha3, e⟩, hp3, hc3⟩ => ?_
    subst e
    (try walk_at "ev")
    have h1' := hc3.at hmp h1
    rw [h1'.app (by have := h2.ops.len; rw [List.length_map]; omega)]
    (try walk_at "ev")
    refine ⟨ops ++ [(⟨#[c]⟩, a)], _, rfl, by rw [List.map_append]; exact h1'.set, ⟨by rw [List.map_append, h2.nm, opNames_succ hc]; rfl, List.mem_append_left _ h2.d, fun o ho => ?_⟩, hp3.set hmp, (h4.trans hc3).set (Nat.le_refl _)⟩
    rcases List.mem_append.mp ho with ho | ho
    · exact h2.ar o ho
    · rw [List.mem_singleton.mp ho]; exact ha3
  · subst e
    rw [List.length_map, List.length_take] at h2 h3
    have hq3 : min q fgh.length ≤ 3 := Nat.min_le_right _ _
    have hops := h2.ops
    (try walk_at "ev")
    rw [b18c2, b18c3]
    (try walk_at "ev")
    have hpB : Pen (N + 4) (m2 ++ [MO.lst []]) := (h3.mono (by omega)).ex Ex.app
    refine W_mono (draw (k + 21) _ _ most hpB (by omega) (by omega) (by omega)) fun v m3 ⟨y, e, hy, hy2, hp3, hc3⟩ => ?_
    subst e
    obtain ⟨y, rfl⟩ := Int.eq_ofNat_of_zero_le hy
    (try walk_at "ev")
    rw [show (1 + (y : Int)) = ((1 + y : Nat) : Int) by omega, rangeD_nat (by omega)]
    (try walk_at "ev")
    have hm2 : m.length ≤ m2.length := h4.1
    have hj2 : 0 < m2.length := by omega
    have hneq : m.length ≠ m2.length := Nat.ne_of_lt h1.lt
    have hatB : At m3 m.length (ops.map opD) := hc3.at hmp (h1.ex Ex.app)
    have hcB : Ch m m3 := (h4.app).trans hc3
    refine W_for (fun i r m' => ∃ (rs : List Ru) (o7 : Option D), r = [some (.loc 0), some (.str s), some (.str w), some (.int (most : Int)), some (.loc m.length), o5, some (.loc m2.length), o7] ∧ At m' m.length (ops.map opD) ∧ At m' m2.length (rs.map ruD) ∧ rs.length = i ∧ (∀ r ∈ rs, RuOk ops s w r) ∧ Pen (N + 5 + 121 * i) m' ∧ Ch m m')
      ⟨[], _, rfl, hatB, hc3.at hj2 At.new, rfl, (fun r hr => by cases hr), hp3, hcB⟩ (fun i x r m4 hx ⟨rs, o7, e, g1, g2, g3, g4, g5, g6⟩ => ?_) (fun r m4 ⟨rs, o7, e, g1, g2, g3, g4, g5, g6⟩ => ?_)
    · subst e
      obtain ⟨hi, rfl⟩ := range_at' hx
      (try walk_at "ev")
      rw [b18l3c0, b18l3n]
      (try walk_at "ev")
      rw [g2.lst]
      (try walk_at "ev")
      refine W_mono (pickP (k + 20) _ m4 m.length (ops.map opD) g5 (by omega) hmp g1 (by intro e; rw [List.map_eq_nil_iff] at e; have := hops.d; rw [e] at this; cases this) (by have := hops.len; rw [List.length_map]; omega)) fun v m5 ⟨hv, hp5, hc5⟩ => ?_
      obtain ⟨⟨o, a⟩, ho, rfl⟩ := List.mem_map.mp hv
      (try walk_at "ev")
      refine W_mono (rule_drawn (k + 3) _ m5 ops o a m.length s w hp5 (by omega) hops ho hmp (hc5.at hmp g1) hs hs2) fun v m6 ⟨r, e, hr, hp6, hc6⟩ => ?_
      subst e
      have g2' := hc6.at hj2 (hc5.at hj2 g2)
      (try walk_at "ev")
      rw [g2'.app (by rw [List.length_map]; omega)]
      (try walk_at "ev")
      refine ⟨rs ++ [r], _, rfl, (hc6.at hmp (hc5.at hmp g1)).set_ne (Ne.symm hneq), by rw [List.map_append]; exact g2'.set, by simp [g3], fun r' hr' => ?_, (hp6.set hj2).mono (by omega), ((g6.trans hc5).trans hc6).set hm2⟩
      rcases List.mem_append.mp hr' with hr' | hr'
      · exact g4 r' hr'
      · rw [List.mem_singleton.mp hr']; exact hr
    · subst e
      rw [List.length_map, List.length_range] at g3 g5
      (try walk_at "ev")
      rw [b18c4, b18n]
      (try walk_at "ev")
      rw [g1.frz]
      (try walk_at "ev")
      rw [(g2.set_ne (o := .dead) hneq).frz]
      (try walk_at "ev")
      exact ⟨ops, _, rs, rfl, h2, g4, by omega, by omega, ((g5.set hmp).set hj2).mono (by omega), (g6.set (Nat.le_refl _)).set hm2⟩

end K05

/-! part K05_p27 -/
set_option Elab.async false
set_option linter.all false
set_option maxRecDepth 100000
set_option maxHeartbeats 4000000
namespace K05
open PySem Rs L2
local macro_rules | `(tactic| walk_at "ev") => `(tactic| simp only [W_ok, W_bad, W_bind, W_opt, W_fin, fin_rt, fin_nx, R.bind_ok, R.bind_bad, R.opt_some, R.opt_none, E_var, E_cst, E_bin, E_neg, E_cmp, E_chn, E_isn, E_and, E_or, E_not, E_tru, E_ife, E_att, E_idx, E_slc, E_tup, E_fz, E_mk, E_call, E_new, E_met, E_blt, E_bmt, E_len, E_str, E_isi, E_frz, E_fst, E_fmt, Eo_no, Eo_yes, Eb_no, Eb_yes, Es_nil, Es_cons, Ej_nil, Ej_cons, EF_lst, EF_cmp, EF_lof, EF_dct, EI_seq, EI_rng, EI_rng2, S_asg, S_par, S_sta, S_sti, S_aug, S_exp, S_mut, S_ret, S_ifs, S_for, S_sup, S_pas, S_con, S_brk, Ss_nil, Ss_cons, bindT_nm, bindT_tp, bindTs_nil, bindTs_cons, layZ_lst, layZ_dct, layM_eq, look_int, look_bl, look_str, look_non, look_tup, look_lst, look_scr, look_dct, look_ins, look_loc, seen_lst, seen_dct, seen_ins, List.getElem?_cons_zero, List.getElem?_cons_succ, List.length_cons, List.length_nil, List.set_cons_zero, List.set_cons_succ, Option.map_some, Option.map_none, Option.bind_some, Option.bind_none, Sc_len, List.map_cons, List.map_nil, Nat.zero_add, Nat.reduceAdd, Nat.reduceLT, reduceIte, Nat.lt_irrefl, and_self, and_true, true_and, if_true, if_false, ↓reduceIte, le_line, Nat.reduceLeDiff, Nat.zero_le, bin_add, bin_sub, cmp_lt, cmp_le, cmp_gt, cmp_ge, cmp_eq, cmp_ne, cmp_in, cmp_nin, blt_int, blt_max2, blt_min2, blt_tupl, blt_tupt, met_lst, met_tup, met_scr, met_str, met_int, len_lst, len_tup, len_scr, decide_true, decide_false, Bool.not_true, Bool.not_false, items_tup, items_lst, items_str, wipe_nil, wipe_cons, idx_t0, idx_t1, idx_t2, idx_t3, idx_l0, idx_l1, eq_ss, eq_ii, ne_ss, ne_ii, ne_bb, tru_bl])
local macro_rules | `(tactic| walk_at "go") => `(tactic| simp only [W_ok, W_bad, W_bind, W_opt, W_fin, fin_rt, fin_nx, R.bind_ok, R.bind_bad, R.opt_some, R.opt_none, E_var, E_cst, E_bin, E_neg, E_cmp, E_chn, E_isn, E_and, E_or, E_not, E_tru, E_ife, E_att, E_idx, E_slc, E_tup, E_fz, E_mk, E_call, E_new, E_met, E_blt, E_bmt, E_len, E_str, E_isi, E_frz, E_fst, E_fmt, Eo_no, Eo_yes, Eb_no, Eb_yes, Es_nil, Es_cons, Ej_nil, Ej_cons, EF_lst, EF_cmp, EF_lof, EF_dct, EI_seq, EI_rng, EI_rng2, S_asg, S_par, S_sta, S_sti, S_aug, S_exp, S_mut, S_ret, S_ifs, S_for, S_sup, S_pas, S_con, S_brk, Ss_nil, Ss_cons, bindT_nm, bindT_tp, bindTs_nil, bindTs_cons, layZ_lst, layZ_dct, layM_eq, look_int, look_bl, look_str, look_non, look_tup, look_lst, look_scr, look_dct, look_ins, look_loc, seen_lst, seen_dct, seen_ins, List.getElem?_cons_zero, List.getElem?_cons_succ, List.length_cons, List.length_nil, List.set_cons_zero, List.set_cons_succ, Option.map_some, Option.map_none, Option.bind_some, Option.bind_none, Sc_len, List.map_cons, List.map_nil, Nat.zero_add, Nat.reduceAdd, Nat.reduceLT, reduceIte, Nat.lt_irrefl, and_self, and_true, true_and, if_true, if_false, ↓reduceIte, le_line, Nat.reduceLeDiff, Nat.zero_le, bin_add, bin_sub, cmp_lt, cmp_le, cmp_gt, cmp_ge, cmp_eq, cmp_ne, cmp_in, cmp_nin, blt_int, blt_max2, blt_min2, blt_tupl, blt_tupt, met_lst, met_tup, met_scr, met_str, met_int, len_lst, len_tup, len_scr, decide_true, decide_false, Bool.not_true, Bool.not_false, items_tup, items_lst, items_str, wipe_nil, wipe_cons, idx_t0, idx_t1, idx_t2, idx_t3, idx_l0, idx_l1, eq_ss, eq_ii, ne_ss, ne_ii, ne_bb, tru_bl])
theorem targetL (ops : List (Str × Nat)) (hd : (("d" : Str), 0) ∈ ops) (ho : ∀ o ∈ ops, o.2 ≤ 3) (hol : ops.length ≤ 100) (once : Bool) (n : Nat) : ∀ (k N : Nat) (m : Mu) (L : List Tm), Pen N m → N + dr n ≤ 2 ^ 58 → L.length ≤ 400 → (∀ t ∈ L, Lf t) →
    W (run T F (n + k + 5) 14 [.loc 0, .lst (ops.map opD), .lst (L.map tupD), .int (n : Int), .bl once] m) (fun v m' => ∃ t L', v = .tup [tupD t, .lst (List.map tupD L')] ∧ Drawn ops n L once t L' ∧ Pen (N + dr n) m' ∧ Ch m m') := by
  induction n using Nat.strongRecOn with
  | ind n ih =>
  cases n with
  | zero =>
    intro k N m L h hN hl hL
    rw [show 0 + k + 5 = (k + 4) + 1 by omega, r14]
    unfold b14
    (try walk_at "ev")
    simp only [n_zero]
    (try walk_at "ev")
    exact leafT k N 0 m ops L once hd h (by omega) hl hL
  | succ n =>
    intro k N m L h hN hl hL
    have hN' : N + (3 + 3 * dr n) ≤ 2 ^ 58 := hN
    rw [show n + 1 + k + 5 = (n + k + 5) + 1 by omega, r14]
    unfold b14
    (try walk_at "ev")
    simp only [b_zero]
    (try walk_at "ev")
    rw [show n + k + 5 = (n + k + 3) + 2 by omega]
    refine W_mono (draw (n + k + 3) N m 3 h (by omega) (by decide) (by decide)) fun v m1 ⟨x, e, hx, hx2, hp1, hc1⟩ => ?_
    subst e
    (try walk_at "ev")
    cases hb : (x == 0)
    · (try walk_at "ev")
      rw [show (n + k + 3) + 2 = (n + k + 2) + 3 by omega]
      refine W_mono (pick (n + k + 2) _ m1 (ops.map opD) hp1 (by omega) (by intro e; rw [List.map_eq_nil_iff] at e; rw [e] at hd; cases hd) (by rw [List.length_map]; omega)) fun v m2 ⟨hv, hp2, hc2⟩ => ?_
      obtain ⟨⟨s, a⟩, hs, rfl⟩ := List.mem_map.mp hv
      have ha3 : a ≤ 3 := ho _ hs
      rw [opD_is]
      (try walk_at "ev")
      rw [rangeD_nat (by omega)]
      (try walk_at "ev")
      have hj2 : 0 < m.length := h.pos
      have hjm : m.length ≤ m2.length := (hc1.trans hc2).1
      refine W_for (fun i r m' => ∃ (ps : List Tm) (L' : List Tm) (o6 o9 : Option D), r = [some (.loc 0), some (.lst (ops.map opD)), some (.lst (L'.map tupD)), some (.int ((n + 1 : Nat) : Int)), some (.bl once), some (.loc m2.length), o6, some (.str s), some (.int (a : Int)), o9] ∧ ps.length = i ∧ At m' m2.length (ps.map tupD) ∧ (∀ p ∈ ps, Tg ops n p) ∧ (∀ l ∈ lvs ps, l ∈ L) ∧ (∀ l ∈ L', l ∈ L) ∧ L'.length ≤ L.length ∧ (once = true → ∃ r, (lvs ps ++ (L' ++ r)).Perm L) ∧ (once = false → L' = L) ∧ Pen (N + 2 + i * dr n) m' ∧ Ch m m')
        ⟨[], L, _, _, rfl, rfl, At.new, (fun p hp => by cases hp), (fun l hl => by rw [lvs] at hl; cases hl), (fun l hl => hl), Nat.le_refl _, (fun _ => ⟨[], by rw [lvs]; simp⟩), (fun _ => rfl), by rw [Nat.zero_mul]; exact hp2.ex Ex.app, (hc1.trans hc2).app⟩
        (fun i x r m3 hx ⟨ps, L', o6, o9, e, h1, h2, h3, h4, h5, h6, h7, h8, h9, h10⟩ => ?_) (fun r m3 ⟨ps, L', o6, o9, e, h1, h2, h3, h4, h5, h6, h7, h8, h9, h10⟩ => ?_)
      · subst e
        have hi := (List.getElem?_eq_some_iff.mp hx).1
        rw [List.length_map, List.length_range] at hi
        have hi3 : i * dr n ≤ 2 * dr n := Nat.mul_le_mul_right _ (by omega)
        (try walk_at "ev")
        have key : ∀ (z : Int) (n' : Nat), z = (n' : Int) → n' ≤ n →
            W (run T F (n + k + 5) 14 [.loc 0, .lst (ops.map opD), .lst (L'.map tupD), .int z, .bl once] m3) (fun v m' => ∃ t L2, v = .tup [tupD t, .lst (List.map tupD L2)] ∧ Drawn ops n' L' once t L2 ∧ Pen (N + 2 + i * dr n + dr n) m' ∧ Ch m3 m') := by
          intro z n' hz hn'
          subst hz
          have hdr := dr_mono hn'
          rw [show n + k + 5 = n' + (k + (n - n')) + 5 by omega]
          exact W_mono (ih n' (by omega) _ _ m3 L' h9 (by omega) (by omega) fun t ht => hL t (h5 t ht)) fun v m4 ⟨t, L2, e1, e2, e3, e4⟩ => ⟨t, L2, e1, e2, e3.mono (by omega), e4⟩
        have fin : ∀ (n' : Nat) (t : Tm) (L2 : List Tm) (m4 : Mu), n' ≤ n → Drawn ops n' L' once t L2 → Pen (N + 2 + i * dr n + dr n) m4 → Ch m3 m4 →
            W (R.ok (Fl.nx [some (.loc 0), some (.lst (ops.map opD)), some (.lst (L2.map tupD)), some (.int ((n + 1 : Nat) : Int)), some (.bl once), some (.loc m2.length), some x, some (.str s), some (.int (a : Int)), some (tupD t)]) (m4.set m2.length (.lst (ps.map tupD ++ [tupD t])))) (fun fl m' => match fl with
              | .nx r' => ∃ (ps : List Tm) (L' : List Tm) (o6 o9 : Option D), r' = [some (.loc 0), some (.lst (ops.map opD)), some (.lst (L'.map tupD)), some (.int ((n + 1 : Nat) : Int)), some (.bl once), some (.loc m2.length), o6, some (.str s), some (.int (a : Int)), o9] ∧ ps.length = i + 1 ∧ At m' m2.length (ps.map tupD) ∧ (∀ p ∈ ps, Tg ops n p) ∧ (∀ l ∈ lvs ps, l ∈ L) ∧ (∀ l ∈ L', l ∈ L) ∧ L'.length ≤ L.length ∧ (once = true → ∃ r, (lvs ps ++ (L' ++ r)).Perm L) ∧ (once = false → L' = L) ∧ Pen (N + 2 + (i + 1) * dr n) m' ∧ Ch m m'
              | _ => False) := by
          intro n' t L2 m4 hn' hd4 hp4 hc4
          have hat : At m4 m2.length (ps.map tupD) := hc4.at (by omega) h2
          obtain ⟨g1, g2, g3, g4, g5, g6⟩ := drawn_snoc hn' hd4 h3 h4 h5 h6 h7 h8
          refine ⟨ps ++ [t], L2, _, _, rfl, by simp [h1], by rw [List.map_append]; exact hat.set, g1, g2, g3, g4, g5, g6, ?_, (h10.trans hc4).set (by omega)⟩
          rw [Nat.succ_mul, ← Nat.add_assoc]
          exact hp4.set (by omega)
        rw [show n + k + 3 + 2 = n + k + 5 by omega]
        by_cases ha2 : (a : Int) < 3
        · simp only [ha2]
          (try walk_at "ev")
          refine W_mono (key _ n b_sub (Nat.le_refl _)) fun v m4 ⟨t, L2, e, e2, e3, e4⟩ => ?_
          subst e
          have hat : At m4 m2.length (ps.map tupD) := e4.at (by omega) h2
          (try walk_at "ev")
          rw [hat.lst]
          (try walk_at "ev")
          rw [hat.app (by rw [List.length_map]; omega)]
          (try walk_at "ev")
          exact fin n t L2 m4 (Nat.le_refl _) e2 e3 e4
        · simp only [ha2]
          (try walk_at "ev")
          refine W_mono (key 0 0 rfl (Nat.zero_le _)) fun v m4 ⟨t, L2, e, e2, e3, e4⟩ => ?_
          subst e
          have hat : At m4 m2.length (ps.map tupD) := e4.at (by omega) h2
          (try walk_at "ev")
          rw [hat.lst]
          (try walk_at "ev")
          rw [hat.app (by rw [List.length_map]; omega)]
          (try walk_at "ev")
          exact fin 0 t L2 m4 (Nat.zero_le _) e2 e3 e4
      · subst e
        rw [List.length_map, List.length_range] at h1 h9
        (try walk_at "ev")
        rw [show seen m3[m2.length]? m2.length = .lst (ps.map tupD) by rw [show m3[m2.length]? = some (.lst (ps.map tupD)) from h2]; rfl]
        (try walk_at "ev")
        have hlv : ∀ s : Str, lv (.of s ps) = lvs ps := fun s => lv_of
        refine ⟨.of s ps, L', by rw [tup_of], ⟨.of (by rw [h1]; exact hs) h3, by rw [hlv]; exact h4, h5, h6, by rw [hlv]; exact h7, h8⟩, h9.mono ?_, h10⟩
        show _ ≤ N + (3 + 3 * dr n)
        have : a * dr n ≤ 3 * dr n := Nat.mul_le_mul_right _ ha3
        omega
    · (try walk_at "ev")
      rw [show (n + k + 3) + 2 = (n + k + 1) + 4 by omega]
      refine W_mono (leafT (n + k + 1) (N + 1) (n + 1) m1 ops L once hd hp1 (by omega) hl hL) fun v m2 ⟨t, L', e, h1, h2, h3⟩ => ⟨t, L', e, h1, h2.mono (by show _ ≤ N + (3 + 3 * dr n); omega), hc1.trans h3⟩
theorem targetL2 (ops : List (Str × Nat)) (hd : (("d" : Str), 0) ∈ ops) (ho : ∀ o ∈ ops, o.2 ≤ 3) (hol : ops.length ≤ 100) (once : Bool) (k N : Nat) (m : Mu) (L : List Tm) (h : Pen N m) (hN : N + 21 ≤ 2 ^ 58) (hl : L.length ≤ 400) (hL : ∀ t ∈ L, Lf t) :
    W (run T F (k + 7) 14 [.loc 0, .lst (ops.map opD), .lst (L.map tupD), .int 2, .bl once] m) (fun v m' => ∃ t L', v = .tup [tupD t, .lst (List.map tupD L')] ∧ Drawn ops 2 L once t L' ∧ Pen (N + 21) m' ∧ Ch m m') := by
  rw [show k + 7 = 2 + k + 5 by omega]
  exact targetL ops hd ho hol once 2 k N m L h hN hl hL
theorem rule_drawnL (k N : Nat) (m : Mu) (ops : List (Str × Nat)) (o : Str) (a : Nat) (s w : Str) (h : Pen N m) (hN : N ≤ 2 ^ 50) (hops : Ops ops) (hoa : (o, a) ∈ ops) (hs : 0 < s.length) (hs2 : s.length ≤ 1000) :
    W (run T F (k + 20) 17 [.loc 0, .lst (ops.map opD), opD (o, a), .str s, .str w] m) (fun v m' => ∃ r : Ru, v = ruD r ∧ RuOk ops s w r ∧ Pen (N + 120) m' ∧ Ch m m') := by
  have ha : a ≤ 3 := hops.ar _ hoa
  rw [r17]
  unfold b17
  rw [opD_is]
  (try walk_at "ev")
  refine W_mono (looks (k + 13) N m a s w h (by omega) ha hs hs2) fun v m1 ⟨ls, e, hl4, hk, hp1, hc1⟩ => ?_
  subst e
  (try walk_at "ev")
  refine W_mono (pool (k + 13) _ m1 a s w ls hp1 (by omega) ha hl4 hk) fun v m2 ⟨L, e, hL20, hP, hp2, hc2⟩ => ?_
  subst e
  (try walk_at "ev")
  rw [show k + 19 = (k + 18) + 1 from rfl, in2]
  (try walk_at "ev")
  refine W_mono (targetL2 ops hops.d hops.ar (Nat.le_trans hops.len (by decide)) _ (k + 12) _ m2 L hp2 (by omega) (by omega) fun t ht => pool_lf ha hk (hP t ht)) fun v m3 ⟨t, L', e, hD, hp3, hc3⟩ => ?_
  subst e
  (try walk_at "ev")
  refine W_mono (pickS (k + 16) _ m3 s (hp3.mono (N' := N + 91) (by omega)) (by omega) hs hs2) fun v m4 ⟨⟨c, hc, e⟩, hp4, hc4⟩ => ?_
  subst e
  (try walk_at "ev")
  exact ⟨⟨o, ls, ⟨#[c]⟩, t⟩, rfl, ⟨hl4, ⟨c, hc, rfl⟩, hD.tg, a, hoa, hk, fun t' ht' => hP t' (hD.mem t' ht')⟩, hp4.mono (by omega), ((hc1.trans hc2).trans hc3).trans hc4⟩

end K05

/-! part K05_p13 -/
set_option Elab.async false
set_option linter.all false
set_option maxRecDepth 100000
set_option maxHeartbeats 4000000
namespace K05
open PySem Rs L2
local macro_rules | `(tactic| walk_at "ev") => `(tactic| simp only [W_ok, W_bad, W_bind, W_opt, W_fin, fin_rt, fin_nx, R.bind_ok, R.bind_bad, R.opt_some, R.opt_none, E_var, E_cst, E_bin, E_neg, E_cmp, E_chn, E_isn, E_and, E_or, E_not, E_tru, E_ife, E_att, E_idx, E_slc, E_tup, E_fz, E_mk, E_call, E_new, E_met, E_blt, E_bmt, E_len, E_str, E_isi, E_frz, E_fst, E_fmt, Eo_no, Eo_yes, Eb_no, Eb_yes, Es_nil, Es_cons, Ej_nil, Ej_cons, EF_lst, EF_cmp, EF_lof, EF_dct, EI_seq, EI_rng, EI_rng2, S_asg, S_par, S_sta, S_sti, S_aug, S_exp, S_mut, S_ret, S_ifs, S_for, S_sup, S_pas, S_con, S_brk, Ss_nil, Ss_cons, bindT_nm, bindT_tp, bindTs_nil, bindTs_cons, layZ_lst, layZ_dct, layM_eq, look_int, look_bl, look_str, look_non, look_tup, look_lst, look_scr, look_dct, look_ins, look_loc, seen_lst, seen_dct, seen_ins, List.getElem?_cons_zero, List.getElem?_cons_succ, List.length_cons, List.length_nil, List.set_cons_zero, List.set_cons_succ, Option.map_some, Option.map_none, Option.bind_some, Option.bind_none, Sc_len, List.map_cons, List.map_nil, Nat.zero_add, Nat.reduceAdd, Nat.reduceLT, reduceIte, Nat.lt_irrefl, and_self, and_true, true_and, if_true, if_false, ↓reduceIte, le_line, Nat.reduceLeDiff, Nat.zero_le, bin_add, bin_sub, cmp_lt, cmp_le, cmp_gt, cmp_ge, cmp_eq, cmp_ne, cmp_in, cmp_nin, blt_int, blt_max2, blt_min2, blt_tupl, blt_tupt, met_lst, met_tup, met_scr, met_str, met_int, len_lst, len_tup, len_scr, decide_true, decide_false, Bool.not_true, Bool.not_false, items_tup, items_lst, items_str, wipe_nil, wipe_cons, idx_t0, idx_t1, idx_t2, idx_t3, idx_l0, idx_l1, eq_ss, eq_ii, ne_ss, ne_ii, ne_bb, tru_bl])
local macro_rules | `(tactic| walk_at "go") => `(tactic| simp only [W_ok, W_bad, W_bind, W_opt, W_fin, fin_rt, fin_nx, R.bind_ok, R.bind_bad, R.opt_some, R.opt_none, E_var, E_cst, E_bin, E_neg, E_cmp, E_chn, E_isn, E_and, E_or, E_not, E_tru, E_ife, E_att, E_idx, E_slc, E_tup, E_fz, E_mk, E_call, E_new, E_met, E_blt, E_bmt, E_len, E_str, E_isi, E_frz, E_fst, E_fmt, Eo_no, Eo_yes, Eb_no, Eb_yes, Es_nil, Es_cons, Ej_nil, Ej_cons, EF_lst, EF_cmp, EF_lof, EF_dct, EI_seq, EI_rng, EI_rng2, S_asg, S_par, S_sta, S_sti, S_aug, S_exp, S_mut, S_ret, S_ifs, S_for, S_sup, S_pas, S_con, S_brk, Ss_nil, Ss_cons, bindT_nm, bindT_tp, bindTs_nil, bindTs_cons, layZ_lst, layZ_dct, layM_eq, look_int, look_bl, look_str, look_non, look_tup, look_lst, look_scr, look_dct, look_ins, look_loc, seen_lst, seen_dct, seen_ins, List.getElem?_cons_zero, List.getElem?_cons_succ, List.length_cons, List.length_nil, List.set_cons_zero, List.set_cons_succ, Option.map_some, Option.map_none, Option.bind_some, Option.bind_none, Sc_len, List.map_cons, List.map_nil, Nat.zero_add, Nat.reduceAdd, Nat.reduceLT, reduceIte, Nat.lt_irrefl, and_self, and_true, true_and, if_true, if_false, ↓reduceIte, le_line, Nat.reduceLeDiff, Nat.zero_le, bin_add, bin_sub, cmp_lt, cmp_le, cmp_gt, cmp_ge, cmp_eq, cmp_ne, cmp_in, cmp_nin, blt_int, blt_max2, blt_min2, blt_tupl, blt_tupt, met_lst, met_tup, met_scr, met_str, met_int, len_lst, len_tup, len_scr, decide_true, decide_false, Bool.not_true, Bool.not_false, items_tup, items_lst, items_str, wipe_nil, wipe_cons, idx_t0, idx_t1, idx_t2, idx_t3, idx_l0, idx_l1, eq_ss, eq_ii, ne_ss, ne_ii, ne_bb, tru_bl])
theorem att_0 {m : Mu} {t : Tm} : attD T m (insD t) 2 = some (.str (match t with
    | .arg _ => "arg"
    | .got _ => "got"
    | .of _ _ => "of")) := by cases t <;> simp only [ins_arg, ins_got, ins_of] <;> rfl
theorem look_insD {m : Mu} {t : Tm} : look m (insD t) = insD t := by cases t <;> simp only [ins_arg, ins_got, ins_of, look_ins]
theorem look_tupD {m : Mu} {t : Tm} : look m (tupD t) = tupD t := by cases t <;> simp only [tup_arg, tup_got, tup_of, look_tup]
theorem w_of_of : decide ((("of" : String) : Str) = (("of" : String) : Str)) = true := by decide +kernel
theorem w_arg_of : decide ((("arg" : String) : Str) = (("of" : String) : Str)) = false := by decide +kernel
theorem w_got_of : decide ((("got" : String) : Str) = (("of" : String) : Str)) = false := by decide +kernel
theorem w_arg_at : decide ((("arg" : String) : Str) = (("at" : String) : Str)) = false := by decide +kernel
theorem w_got_at : decide ((("got" : String) : Str) = (("at" : String) : Str)) = false := by decide +kernel
theorem w_arg_arg : decide ((("arg" : String) : Str) = (("arg" : String) : Str)) = true := by decide +kernel
theorem w_got_arg : decide ((("got" : String) : Str) = (("arg" : String) : Str)) = false := by decide +kernel
theorem Tg.len {ops : List (Str × Nat)} {n : Nat} {s : Str} {ps : List Tm} (ho : ∀ o ∈ ops, o.2 ≤ 3) (h : Tg ops n (.of s ps)) : ps.length ≤ 3 := by
  cases h with
  | leaf h => exact h.elim
  | nil h => exact Nat.zero_le _
  | of h _ => exact ho _ h
theorem Tg.parts {ops : List (Str × Nat)} {n : Nat} {s : Str} {ps : List Tm} (h : Tg ops (n + 1) (.of s ps)) : ∀ p ∈ ps, Tg ops n p := by
  cases h with
  | leaf h => exact h.elim
  | nil h => exact fun p hp => by cases hp
  | of _ h => exact h
theorem Tg.zero {ops : List (Str × Nat)} {s : Str} {ps : List Tm} (h : Tg ops 0 (.of s ps)) : ps = [] := by
  cases h with
  | leaf h => exact h.elim
  | nil h => rfl

end K05

/-! part K05_p14 -/
set_option Elab.async false
set_option linter.all false
set_option maxRecDepth 100000
set_option maxHeartbeats 4000000
namespace K05
open PySem Rs L2
local macro_rules | `(tactic| walk_at "ev") => `(tactic| simp only [W_ok, W_bad, W_bind, W_opt, W_fin, fin_rt, fin_nx, R.bind_ok, R.bind_bad, R.opt_some, R.opt_none, E_var, E_cst, E_bin, E_neg, E_cmp, E_chn, E_isn, E_and, E_or, E_not, E_tru, E_ife, E_att, E_idx, E_slc, E_tup, E_fz, E_mk, E_call, E_new, E_met, E_blt, E_bmt, E_len, E_str, E_isi, E_frz, E_fst, E_fmt, Eo_no, Eo_yes, Eb_no, Eb_yes, Es_nil, Es_cons, Ej_nil, Ej_cons, EF_lst, EF_cmp, EF_lof, EF_dct, EI_seq, EI_rng, EI_rng2, S_asg, S_par, S_sta, S_sti, S_aug, S_exp, S_mut, S_ret, S_ifs, S_for, S_sup, S_pas, S_con, S_brk, Ss_nil, Ss_cons, bindT_nm, bindT_tp, bindTs_nil, bindTs_cons, layZ_lst, layZ_dct, layM_eq, look_int, look_bl, look_str, look_non, look_tup, look_lst, look_scr, look_dct, look_ins, look_loc, seen_lst, seen_dct, seen_ins, List.getElem?_cons_zero, List.getElem?_cons_succ, List.length_cons, List.length_nil, List.set_cons_zero, List.set_cons_succ, Option.map_some, Option.map_none, Option.bind_some, Option.bind_none, Sc_len, List.map_cons, List.map_nil, Nat.zero_add, Nat.reduceAdd, Nat.reduceLT, reduceIte, Nat.lt_irrefl, and_self, and_true, true_and, if_true, if_false, ↓reduceIte, le_line, Nat.reduceLeDiff, Nat.zero_le, bin_add, bin_sub, cmp_lt, cmp_le, cmp_gt, cmp_ge, cmp_eq, cmp_ne, cmp_in, cmp_nin, blt_int, blt_max2, blt_min2, blt_tupl, blt_tupt, met_lst, met_tup, met_scr, met_str, met_int, len_lst, len_tup, len_scr, decide_true, decide_false, Bool.not_true, Bool.not_false, items_tup, items_lst, items_str, wipe_nil, wipe_cons, idx_t0, idx_t1, idx_t2, idx_t3, idx_l0, idx_l1, eq_ss, eq_ii, ne_ss, ne_ii, ne_bb, tru_bl])
local macro_rules | `(tactic| walk_at "go") => `(tactic| simp only [W_ok, W_bad, W_bind, W_opt, W_fin, fin_rt, fin_nx, R.bind_ok, R.bind_bad, R.opt_some, R.opt_none, E_var, E_cst, E_bin, E_neg, E_cmp, E_chn, E_isn, E_and, E_or, E_not, E_tru, E_ife, E_att, E_idx, E_slc, E_tup, E_fz, E_mk, E_call, E_new, E_met, E_blt, E_bmt, E_len, E_str, E_isi, E_frz, E_fst, E_fmt, Eo_no, Eo_yes, Eb_no, Eb_yes, Es_nil, Es_cons, Ej_nil, Ej_cons, EF_lst, EF_cmp, EF_lof, EF_dct, EI_seq, EI_rng, EI_rng2, S_asg, S_par, S_sta, S_sti, S_aug, S_exp, S_mut, S_ret, S_ifs, S_for, S_sup, S_pas, S_con, S_brk, Ss_nil, Ss_cons, bindT_nm, bindT_tp, bindTs_nil, bindTs_cons, layZ_lst, layZ_dct, layM_eq, look_int, look_bl, look_str, look_non, look_tup, look_lst, look_scr, look_dct, look_ins, look_loc, seen_lst, seen_dct, seen_ins, List.getElem?_cons_zero, List.getElem?_cons_succ, List.length_cons, List.length_nil, List.set_cons_zero, List.set_cons_succ, Option.map_some, Option.map_none, Option.bind_some, Option.bind_none, Sc_len, List.map_cons, List.map_nil, Nat.zero_add, Nat.reduceAdd, Nat.reduceLT, reduceIte, Nat.lt_irrefl, and_self, and_true, true_and, if_true, if_false, ↓reduceIte, le_line, Nat.reduceLeDiff, Nat.zero_le, bin_add, bin_sub, cmp_lt, cmp_le, cmp_gt, cmp_ge, cmp_eq, cmp_ne, cmp_in, cmp_nin, blt_int, blt_max2, blt_min2, blt_tupl, blt_tupt, met_lst, met_tup, met_scr, met_str, met_int, len_lst, len_tup, len_scr, decide_true, decide_false, Bool.not_true, Bool.not_false, items_tup, items_lst, items_str, wipe_nil, wipe_cons, idx_t0, idx_t1, idx_t2, idx_t3, idx_l0, idx_l1, eq_ss, eq_ii, ne_ss, ne_ii, ne_bb, tru_bl, w_of_of, w_arg_of, w_got_of, w_arg_at, w_got_at, w_arg_arg, w_got_arg, look_insD, look_tupD, c_does, d_does])
/-- the term of the package -/
theorem made (ops : List (Str × Nat)) (ho : ∀ o ∈ ops, o.2 ≤ 3) (n : Nat) : ∀ (t : Tm) (k : Nat) (m : Mu), Tg ops n t → W (run T F (n + k + 4) 19 [tupD t] m) (fun v m' => v = insD t ∧ Ex m m') := by
  induction n with
  | zero =>
    intro t k m h
    rw [show 0 + k + 4 = (k + 3) + 1 by omega, r19]
    unfold b19
    cases t with
    | arg i =>
      rw [tup_arg, ins_arg]
      (try walk_at "go")
      rw [show k + 3 = (k + 1) + 2 from rfl, new_arg]
      exact ⟨rfl, Ex.app⟩
    | got i =>
      rw [tup_got, ins_got]
      (try walk_at "go")
      rw [show k + 3 = (k + 1) + 2 from rfl, new_got]
      exact ⟨rfl, Ex.app⟩
    | of s ps =>
      have := h.zero
      subst this
      rw [tup_of, ins_of]
      (try walk_at "go")
      refine W_mapL ([] : List Tm) tupD insD (Ex m) Ex.rfl' (fun p hp => by cases hp) fun m1 hm1 => ?_
      (try walk_at "go")
      rw [show k + 3 = (k + 1) + 2 from rfl, new_of (ps := []) _ _ _ _ (.inr rfl)]
      exact ⟨rfl, hm1.trans Ex.app⟩
  | succ n ih =>
    intro t k m h
    rw [show n + 1 + k + 4 = (n + k + 4) + 1 by omega, r19]
    unfold b19
    cases t with
    | arg i =>
      rw [tup_arg, ins_arg]
      (try walk_at "go")
      rw [show n + k + 4 = (n + k + 2) + 2 from rfl, new_arg]
      exact ⟨rfl, Ex.app⟩
    | got i =>
      rw [tup_got, ins_got]
      (try walk_at "go")
      rw [show n + k + 4 = (n + k + 2) + 2 from rfl, new_got]
      exact ⟨rfl, Ex.app⟩
    | of s ps =>
      have hl := h.len ho
      rw [tup_of, ins_of]
      (try walk_at "go")
      rw [List.length_map]
      refine W_mapL ps tupD insD (Ex m) Ex.rfl' (fun p hp m1 hm1 => ?_) fun m1 hm1 => ?_
      · (try walk_at "go")
        exact W_mono (ih p k m1 (h.parts p hp)) fun v m2 ⟨e, h⟩ => ⟨by rw [e], hm1.trans h⟩
      · (try walk_at "go")
        rw [List.length_map, if_pos (lineLe (by omega))]
        (try walk_at "go")
        rw [show n + k + 4 = (n + k + 2) + 2 from rfl, new_of (ps := ps.map insD) _ _ _ _ (.inr rfl)]
        exact ⟨rfl, hm1.trans Ex.app⟩
def insL : Lk → D
  | .does i l n => .ins 5 [(7, .int (i : Int)), (12, .str l), (6, .str n)]
  | .cannot i l => .ins 6 [(7, .int (i : Int)), (12, .str l)]
def insR (r : Ru) : D := .ins 7 [(5, .str r.o), (1, .tup (r.ls.map insL)), (12, .str r.l), (8, insD r.t)]
theorem Ex_set {m m' : Mu} {j : Nat} {o : MO} (h : Ex m m') (hj : m.length ≤ j) : Ex m (m'.set j o) := by
  obtain ⟨x, rfl⟩ := h
  exact ⟨x.set (j - m.length) o, by rw [List.set_append_right _ _ hj]⟩
theorem W_forF {α : Type} {f : D → Ev → Mu → R Fl} {ps : List α} {f0 : α → D} {n : Nat} {r : Ev} {m : Mu} {Q : Fl → Mu → Prop} (I : Nat → Ev → Mu → Prop) (h0 : I 0 r m)
    (step : ∀ (i : Nat) (x : α) (r : Ev) (m : Mu), ps[i]? = some x → I i r m → W (f (f0 x) r m) (fun fl m' => match fl with
      | .nx r' => I (i + 1) r' m'
      | .ct r' => I (i + 1) r' m'
      | .bk r' => Q (.nx r') m'
      | .rt d => Q (.rt d) m')) (hq : ∀ r m, I ps.length r m → Q (.nx r) m) (hn : n = ps.length := by simp) : W (turnsS f (.its (ps.map f0)) n 0 r m) Q := by
  have hn : n = (ps.map f0).length := by rw [hn, List.length_map]
  subst hn
  refine W_for I h0 (fun i x r m hx hI => ?_) fun r m hI => hq r m (by rw [List.length_map] at hI; exact hI)
  rw [List.getElem?_map] at hx
  obtain ⟨p, hp, rfl⟩ := Option.map_eq_some_iff.mp hx
  exact step i p r m hp hI
theorem made2 (ops : List (Str × Nat)) (ho : ∀ o ∈ ops, o.2 ≤ 3) (t : Tm) (k : Nat) (m : Mu) (h : Tg ops 2 t) : W (run T F (k + 6) 19 [tupD t] m) (fun v m' => v = insD t ∧ Ex m m') := by
  rw [show k + 6 = 2 + k + 4 by omega]
  exact made ops ho 2 t k m h
theorem made_rule (k : Nat) (m : Mu) (ops : List (Str × Nat)) (ho : ∀ o ∈ ops, o.2 ≤ 3) (r : Ru) (hl : r.ls.length ≤ 4) (ht : Tg ops 2 r.t) :
    W (run T F (k + 9) 20 [ruD r] m) (fun v m' => v = insR r ∧ Ex m m') := by
  rw [r20, b20e, b20c0, b20c1]
  unfold ruD
  (try walk_at "go")
  refine W_forF (f0 := lkD) (ps := r.ls) (fun i q m' => ∃ (o2 : Option D), q = [some (.tup [.str r.o, .lst (r.ls.map lkD), .str r.l, tupD r.t]), some (.loc m.length), o2] ∧ At m' m.length ((r.ls.take i).map insL) ∧ Ex m m')
    ⟨_, rfl, At.new, Ex.app⟩ (fun i x q m1 hx ⟨o2, e, h1, h2⟩ => ?_) (fun q m1 ⟨o2, e, h1, h2⟩ => ?_)
  · subst e
    have hlen : (List.map insL (List.take i r.ls)).length < 1000 := by rw [List.length_map, List.length_take]; omega
    have htk : (r.ls.take (i + 1)).map insL = (r.ls.take i).map insL ++ [insL x] := by
      rw [List.take_succ, hx, List.map_append]
      rfl
    rw [htk]
    (try walk_at "go")
    rw [b20l1c0, b20l1n]
    cases x with
    | does j l n =>
      rw [does_at]
      (try walk_at "go")
      rw [h1.lst]
      (try walk_at "go")
      rw [show k + 8 = (k + 7) + 1 from rfl, new_does]
      (try walk_at "go")
      rw [(h1.ex Ex.app).app hlen]
      (try walk_at "go")
      exact ⟨_, rfl, (h1.ex Ex.app).set, Ex_set (h2.trans Ex.app) (Nat.le_refl _)⟩
    | cannot j l =>
      rw [cannot_at]
      (try walk_at "go")
      rw [h1.lst]
      (try walk_at "go")
      rw [show k + 8 = (k + 7) + 1 from rfl, new_cannot]
      (try walk_at "go")
      rw [(h1.ex Ex.app).app hlen]
      (try walk_at "go")
      exact ⟨_, rfl, (h1.ex Ex.app).set, Ex_set (h2.trans Ex.app) (Nat.le_refl _)⟩
  · subst e
    rw [List.take_length] at h1
    rw [b20c2, b20n]
    (try walk_at "go")
    refine W_mono (made2 ops ho r.t (k + 2) m1 ht) fun v m2 ⟨e, h3⟩ => ?_
    subst e
    (try walk_at "go")
    have hat : At (m2 ++ [MO.ins 7 [(5, D.str r.o)]]) m.length (r.ls.map insL) := (h1.ex h3).ex Ex.app
    rw [show k + 8 = (k + 7) + 1 from rfl, new_rule (ps := r.ls.map insL) _ _ _ _ _ _ (.inr hat.look)]
    (try walk_at "go")
    exact ⟨rfl, (h2.trans h3).trans Ex.app⟩

end K05

/-! part K05_p15 -/
set_option Elab.async false
set_option linter.all false
set_option maxRecDepth 100000
set_option maxHeartbeats 4000000
namespace K05
open PySem Rs L2
local macro_rules | `(tactic| walk_at "ev") => `(tactic| simp only [W_ok, W_bad, W_bind, W_opt, W_fin, fin_rt, fin_nx, R.bind_ok, R.bind_bad, R.opt_some, R.opt_none, E_var, E_cst, E_bin, E_neg, E_cmp, E_chn, E_isn, E_and, E_or, E_not, E_tru, E_ife, E_att, E_idx, E_slc, E_tup, E_fz, E_mk, E_call, E_new, E_met, E_blt, E_bmt, E_len, E_str, E_isi, E_frz, E_fst, E_fmt, Eo_no, Eo_yes, Eb_no, Eb_yes, Es_nil, Es_cons, Ej_nil, Ej_cons, EF_lst, EF_cmp, EF_lof, EF_dct, EI_seq, EI_rng, EI_rng2, S_asg, S_par, S_sta, S_sti, S_aug, S_exp, S_mut, S_ret, S_ifs, S_for, S_sup, S_pas, S_con, S_brk, Ss_nil, Ss_cons, bindT_nm, bindT_tp, bindTs_nil, bindTs_cons, layZ_lst, layZ_dct, layM_eq, look_int, look_bl, look_str, look_non, look_tup, look_lst, look_scr, look_dct, look_ins, look_loc, seen_lst, seen_dct, seen_ins, List.getElem?_cons_zero, List.getElem?_cons_succ, List.length_cons, List.length_nil, List.set_cons_zero, List.set_cons_succ, Option.map_some, Option.map_none, Option.bind_some, Option.bind_none, Sc_len, List.map_cons, List.map_nil, Nat.zero_add, Nat.reduceAdd, Nat.reduceLT, reduceIte, Nat.lt_irrefl, and_self, and_true, true_and, if_true, if_false, ↓reduceIte, le_line, Nat.reduceLeDiff, Nat.zero_le, bin_add, bin_sub, cmp_lt, cmp_le, cmp_gt, cmp_ge, cmp_eq, cmp_ne, cmp_in, cmp_nin, blt_int, blt_max2, blt_min2, blt_tupl, blt_tupt, met_lst, met_tup, met_scr, met_str, met_int, len_lst, len_tup, len_scr, decide_true, decide_false, Bool.not_true, Bool.not_false, items_tup, items_lst, items_str, wipe_nil, wipe_cons, idx_t0, idx_t1, idx_t2, idx_t3, idx_l0, idx_l1, eq_ss, eq_ii, ne_ss, ne_ii, ne_bb, tru_bl])
local macro_rules | `(tactic| walk_at "go") => `(tactic| simp only [W_ok, W_bad, W_bind, W_opt, W_fin, fin_rt, fin_nx, R.bind_ok, R.bind_bad, R.opt_some, R.opt_none, E_var, E_cst, E_bin, E_neg, E_cmp, E_chn, E_isn, E_and, E_or, E_not, E_tru, E_ife, E_att, E_idx, E_slc, E_tup, E_fz, E_mk, E_call, E_new, E_met, E_blt, E_bmt, E_len, E_str, E_isi, E_frz, E_fst, E_fmt, Eo_no, Eo_yes, Eb_no, Eb_yes, Es_nil, Es_cons, Ej_nil, Ej_cons, EF_lst, EF_cmp, EF_lof, EF_dct, EI_seq, EI_rng, EI_rng2, S_asg, S_par, S_sta, S_sti, S_aug, S_exp, S_mut, S_ret, S_ifs, S_for, S_sup, S_pas, S_con, S_brk, Ss_nil, Ss_cons, bindT_nm, bindT_tp, bindTs_nil, bindTs_cons, layZ_lst, layZ_dct, layM_eq, look_int, look_bl, look_str, look_non, look_tup, look_lst, look_scr, look_dct, look_ins, look_loc, seen_lst, seen_dct, seen_ins, List.getElem?_cons_zero, List.getElem?_cons_succ, List.length_cons, List.length_nil, List.set_cons_zero, List.set_cons_succ, Option.map_some, Option.map_none, Option.bind_some, Option.bind_none, Sc_len, List.map_cons, List.map_nil, Nat.zero_add, Nat.reduceAdd, Nat.reduceLT, reduceIte, Nat.lt_irrefl, and_self, and_true, true_and, if_true, if_false, ↓reduceIte, le_line, Nat.reduceLeDiff, Nat.zero_le, bin_add, bin_sub, cmp_lt, cmp_le, cmp_gt, cmp_ge, cmp_eq, cmp_ne, cmp_in, cmp_nin, blt_int, blt_max2, blt_min2, blt_tupl, blt_tupt, met_lst, met_tup, met_scr, met_str, met_int, len_lst, len_tup, len_scr, decide_true, decide_false, Bool.not_true, Bool.not_false, items_tup, items_lst, items_str, wipe_nil, wipe_cons, idx_t0, idx_t1, idx_t2, idx_t3, idx_l0, idx_l1, eq_ss, eq_ii, ne_ss, ne_ii, ne_bb, tru_bl, w_of_of, w_arg_of, w_got_of, w_arg_at, w_got_at, w_arg_arg, w_got_arg, look_insD, look_tupD, c_does, d_does])
def wordT : Tm → Str
  | .arg _ => "arg" | .got _ => "got" | .of _ _ => "of"
def signT : Tm → D
  | .arg i => .int i | .got s => .str s | .of s _ => .str s
def prt : Tm → List Tm
  | .of _ ps => ps
  | _ => []
section
variable {m : Mu} {t : Tm}
theorem att_word : attD T m (insD t) 2 = some (.str (wordT t)) := by cases t <;> simp only [ins_arg, ins_got, ins_of] <;> rfl
theorem att_sign : attD T m (insD t) 3 = some (signT t) := by cases t <;> simp only [ins_arg, ins_got, ins_of] <;> rfl
theorem att_parts : attD T m (insD t) 0 = some (.tup ((prt t).map insD)) := by cases t <;> simp only [ins_arg, ins_got, ins_of] <;> rfl
end
theorem W_eqm {r : R D} {m : Mu} {d : D} {Q : D → Mu → Prop} (h : W r (fun v m' => v = d ∧ m' = m)) (hq : Q d m) : W r Q := W_mono h fun v m' ⟨e1, e2⟩ => by
  subst e1 e2
  exact hq
section
variable {m : Mu} {r : Ru}
theorem look_insR : look m (insR r) = insR r := rfl
theorem att_rop : attD T m (insR r) 5 = some (.str r.o) := rfl
theorem att_rlooks : attD T m (insR r) 1 = some (.tup (r.ls.map insL)) := rfl
theorem att_rletter : attD T m (insR r) 12 = some (.str r.l) := rfl
theorem att_rtarget : attD T m (insR r) 8 = some (insD r.t) := rfl
end
def ixL : Lk → Nat
  | .does i _ _ => i
  | .cannot i _ => i
theorem att_lix {m : Mu} {l : Lk} : attD T m (insL l) 7 = some (.int (ixL l : Int)) := by cases l <;> rfl
theorem look_insL {m : Mu} {l : Lk} : look m (insL l) = insL l := by cases l <;> rfl
theorem dep_insL {l : Lk} : dep (insL l) = some 3 := by cases l <;> rfl
mutual
def allp : Tm → List Tm
  | .arg n => [.arg n]
  | .got s => [.got s]
  | .of s ps => .of s ps :: allps ps
def allps : List Tm → List Tm
  | [] => []
  | p :: ps => allp p ++ allps ps
end
theorem allps_flat : ∀ ps, allps ps = ps.flatMap allp
  | [] => by rw [allps]; rfl
  | p :: ps => by rw [allps, allps_flat ps, List.flatMap_cons]
theorem allp_eq (t : Tm) : allp t = t :: (prt t).flatMap allp := by cases t <;> simp only [allp, prt, allps_flat, List.flatMap_nil]
theorem flat_len {n : Nat} {ps : List Tm} (h : ∀ p ∈ ps, (allp p).length ≤ 4 ^ n) : (ps.flatMap allp).length ≤ ps.length * 4 ^ n := by
  induction ps with
  | nil => simp
  | cons p ps ih =>
    rw [List.flatMap_cons, List.length_append, List.length_cons, Nat.succ_mul]
    have := ih fun q hq => h q (List.mem_cons_of_mem _ hq)
    have := h p List.mem_cons_self
    omega
theorem Tg.prtT {ops : List (Str × Nat)} {n : Nat} {t : Tm} (h : Tg ops (n + 1) t) : ∀ p ∈ prt t, Tg ops n p := by
  cases t with
  | of s ps => exact h.parts
  | arg i => intro p hp; cases hp
  | got i => intro p hp; cases hp
theorem Tg.prt0 {ops : List (Str × Nat)} {t : Tm} (h : Tg ops 0 t) : prt t = [] := by
  cases t with
  | of s ps => exact h.zero
  | arg i => rfl
  | got i => rfl
theorem Tg.prtl {ops : List (Str × Nat)} (ho : ∀ o ∈ ops, o.2 ≤ 3) {n : Nat} {t : Tm} (h : Tg ops n t) : (prt t).length ≤ 3 := by
  cases t with
  | of s ps => exact h.len ho
  | arg i => exact Nat.zero_le _
  | got i => exact Nat.zero_le _
theorem allp_len {ops : List (Str × Nat)} (ho : ∀ o ∈ ops, o.2 ≤ 3) : ∀ {n : Nat} {t : Tm}, Tg ops n t → (allp t).length ≤ 4 ^ n
  | 0, t, h => by
    rw [allp_eq, h.prt0]
    exact Nat.le_refl _
  | n + 1, t, h => by
    have h1 := flat_len fun p hp => allp_len ho (h.prtT p hp)
    have h2 := h.prtl ho
    have h3 : 0 < 4 ^ n := Nat.pow_pos (by decide)
    have : (prt t).length * 4 ^ n ≤ 3 * 4 ^ n := Nat.mul_le_mul_right _ h2
    rw [allp_eq, List.length_cons, Nat.pow_succ]
    omega
theorem parts (ops : List (Str × Nat)) (ho : ∀ o ∈ ops, o.2 ≤ 3) (n : Nat) : ∀ (t : Tm) (k : Nat) (m : Mu), Tg ops n t → n ≤ 4 → W (run T F (n + k + 2) 0 [insD t] m) (fun v m' => v = .lst ((allp t).map insD) ∧ Ex m m') := by
  induction n with
  | zero =>
    intro t k m h hn
    rw [show 0 + k + 2 = (k + 1) + 1 by omega, r0]
    unfold b0
    (try walk_at "go")
    rw [att_parts]
    (try walk_at "go")
    rw [h.prt0, List.map_nil]
    (try walk_at "go")
    refine W_for (fun i r m' => r = [some (insD t), some (.loc m.length), none] ∧ m' = m ++ [.lst [insD t]]) ⟨rfl, rfl⟩ (fun i x r m' hx _ => by cases hx) fun r m' ⟨e1, e2⟩ => ?_
    subst e1 e2
    (try walk_at "go")
    rw [At.new.frz]
    (try walk_at "go")
    rw [allp_eq, h.prt0]
    exact ⟨rfl, Ex_set Ex.app (Nat.le_refl _)⟩
  | succ n ih =>
    intro t k m h hn
    rw [show n + 1 + k + 2 = (n + k + 2) + 1 by omega, r0]
    unfold b0
    (try walk_at "go")
    rw [att_parts]
    (try walk_at "go")
    refine W_forF (f0 := insD) (ps := prt t) (fun i r m' => ∃ o, r = [some (insD t), some (.loc m.length), o] ∧ At m' m.length ((t :: ((prt t).take i).flatMap allp).map insD) ∧ Ex m m') ⟨none, rfl, At.new, Ex.app⟩ (fun i p r m' hp ⟨o, e1, h1, h2⟩ => ?_) fun r m' ⟨o, e1, h1, h2⟩ => ?_
    · subst e1
      have hpm := List.mem_of_getElem? hp
      (try walk_at "go")
      rw [h1.lst]
      (try walk_at "go")
      refine W_mono (ih p k m' (h.prtT p hpm) (by omega)) fun v m2 ⟨ev, he⟩ => ?_
      subst ev
      (try walk_at "go")
      have a1 := allp_len ho (h.prtT p hpm)
      have a2 := flat_len (n := n) (ps := (prt t).take i) fun q hq => allp_len ho (h.prtT q (List.mem_of_mem_take hq))
      have a3 : ((prt t).take i).length ≤ 3 := by rw [List.length_take]; have := h.prtl ho; omega
      have a4 : ((prt t).take i).length * 4 ^ n ≤ 3 * 4 ^ n := Nat.mul_le_mul_right _ a3
      have a5 : 4 ^ n ≤ 4 ^ 4 := Nat.pow_le_pow_right (by decide) (by omega)
      have a6 : (4 : Nat) ^ 4 = 256 := by decide
      rw [(h1.ex he).ext look_lst (by rw [List.length_map, List.length_map, List.length_cons]; omega)]
      (try walk_at "go")
      refine ⟨_, rfl, ?_, Ex_set (h2.trans he) (Nat.le_refl _)⟩
      rw [List.take_succ, hp]
      have := (h1.ex he).set (es := (t :: ((prt t).take i).flatMap allp).map insD ++ (allp p).map insD)
      simpa using this
    · subst e1
      (try walk_at "go")
      rw [h1.frz]
      (try walk_at "go")
      rw [List.take_length, allp_eq, List.map_cons]
      exact ⟨rfl, Ex_set h2 (Nat.le_refl _)⟩
theorem parts2 (ops : List (Str × Nat)) (ho : ∀ o ∈ ops, o.2 ≤ 3) (t : Tm) (k : Nat) (m : Mu) (h : Tg ops 2 t) : W (run T F (k + 4) 0 [insD t] m) (fun v m' => v = .lst ((allp t).map insD) ∧ Ex m m') := by
  rw [show k + 4 = 2 + k + 2 by omega]
  exact parts ops ho 2 t k m h (by decide)
/-! the arguments of a target, in order -/
mutual
def argsT : Tm → List Int
  | .arg n => [n]
  | .got _ => []
  | .of _ ps => argsTs ps
def argsTs : List Tm → List Int
  | [] => []
  | p :: ps => argsT p ++ argsTs ps
end
theorem argsTs_flat : ∀ ps, argsTs ps = ps.flatMap argsT
  | [] => by rw [argsTs]; rfl
  | p :: ps => by rw [argsTs, argsTs_flat ps, List.flatMap_cons]
theorem args_arg {n : Int} : argsT (.arg n) = [n] := by rw [argsT]
theorem args_got {n : Str} : argsT (.got n) = [] := by rw [argsT]
theorem args_of {s : Str} {ps : List Tm} : argsT (.of s ps) = ps.flatMap argsT := by rw [argsT, argsTs_flat]
def isArg : Tm → Option D
  | .arg n => some (.int n)
  | _ => none
theorem args_flat {ps : List Tm} (ih : ∀ p ∈ ps, (allp p).filterMap isArg = (argsT p).map D.int) : (ps.flatMap allp).filterMap isArg = (ps.flatMap argsT).map D.int := by
  induction ps with
  | nil => rfl
  | cons p ps ihp =>
    rw [List.flatMap_cons, List.flatMap_cons, List.filterMap_append, List.map_append, ih p List.mem_cons_self, ihp fun q hq => ih q (List.mem_cons_of_mem _ hq)]
theorem args_allp (t : Tm) : (allp t).filterMap isArg = (argsT t).map D.int := by
  induction t using Tm.ind with
  | h2 n => rw [allp_eq, args_arg]; rfl
  | h3 s => rw [allp_eq, args_got]; rfl
  | h4 s ps ih => rw [allp_eq, args_of, List.filterMap_cons_none rfl]; exact args_flat ih
theorem args_lv : ∀ {t : Tm} {n : Int}, n ∈ argsT t → Tm.arg n ∈ lv t := by
  intro t
  induction t using Tm.ind with
  | h2 m => intro n h; rw [args_arg, List.mem_singleton] at h; subst h; rw [lv]; exact List.mem_singleton.mpr rfl
  | h3 s => intro n h; rw [args_got] at h; cases h
  | h4 s ps ih =>
    intro n h
    rw [args_of, List.mem_flatMap] at h
    obtain ⟨p, hp, hn⟩ := h
    rw [lv_of, lvs_map, List.mem_flatten]
    exact ⟨lv p, List.mem_map.mpr ⟨p, hp, rfl⟩, ih p hp hn⟩
theorem args_len {ops : List (Str × Nat)} (ho : ∀ o ∈ ops, o.2 ≤ 3) {n : Nat} {t : Tm} (h : Tg ops n t) : (argsT t).length ≤ 4 ^ n := by
  have h1 := congrArg List.length (args_allp t)
  rw [List.length_map] at h1
  rw [← h1]
  exact Nat.le_trans (List.length_filterMap_le _ _) (allp_len ho h)

end K05

/-! part RsP5 -/
set_option Elab.async false
set_option linter.all false
set_option maxRecDepth 100000
set_option maxHeartbeats 4000000
/-! dicts of pairs -/
namespace Rs
open PySem L2
theorem putD_new {kvs : List (Key × D)} {k : Key} {v : D} (h : k ∉ kvs.map (·.1)) : putD kvs k v = kvs ++ [(k, v)] := by
  unfold putD
  rw [if_neg]
  rw [List.any_eq_true]
  rintro ⟨x, hx, e⟩
  rw [decide_eq_true_eq] at e
  exact h (List.mem_map.mpr ⟨x, hx, e⟩)
theorem merge_nodup : ∀ (kvs acc : List (Key × D)), ((acc ++ kvs).map (·.1)).Nodup → mergeD acc kvs = acc ++ kvs
  | [], acc, _ => by rw [List.append_nil]; rfl
  | kv :: kvs, acc, h => by
    have e : mergeD acc (kv :: kvs) = mergeD (putD acc kv.1 kv.2) kvs := rfl
    have h1 : kv.1 ∉ acc.map (·.1) := by
      rw [List.map_append, List.nodup_append] at h
      intro hm
      exact h.2.2 _ hm _ List.mem_cons_self rfl
    rw [e, putD_new h1, merge_nodup kvs (acc ++ [(kv.1, kv.2)]) (by simpa using h)]
    simp
theorem valD_mem : ∀ {kvs : List (Key × D)} {k : Key} {v : D}, (kvs.map (·.1)).Nodup → (k, v) ∈ kvs → valD kvs k = some v
  | [], _, _, _, h => by cases h
  | (k', v') :: kvs, k, v, hn, h => by
    rw [List.map_cons, List.nodup_cons] at hn
    unfold valD
    by_cases e : k' = k
    · subst e
      rw [List.find?_cons_of_pos (by simp)]
      rcases List.mem_cons.mp h with h | h
      · cases h; rfl
      · exact absurd (List.mem_map.mpr ⟨_, h, rfl⟩) hn.1
    · rw [List.find?_cons_of_neg (by simpa using e)]
      rcases List.mem_cons.mp h with h | h
      · cases h; exact absurd rfl e
      · exact valD_mem hn.2 h
theorem pairs_map {α : Type} (f : α → D) (g : α → Key × D) (hf : ∀ a, pairD (f a) = some (g a)) : ∀ xs : List α, pairsD (xs.map f) = some (xs.map g)
  | [] => rfl
  | x :: xs => by
    rw [List.map_cons, List.map_cons]
    unfold pairsD
    rw [hf, pairs_map f g hf xs]
theorem idx_dct {kvs : List (Key × D)} {s : Str} : idxD (.dct kvs) (.str s) = valD kvs (.inr s) := rfl
theorem W_strm {r : R D} {Q : D → Mu → Prop} (h : W r (fun v m' => ∃ s : Str, v = .str s ∧ Q (.str s) m')) : W (match r with
    | .ok (.str s) m1 => .ok (.str s) m1
    | .exc c fs m => .exc c fs m
    | _ => .bad) Q := by
  cases r with
  | ok v m =>
    obtain ⟨s, rfl, h1⟩ := h
    exact h1
  | exc => exact h
  | bad => exact h
end Rs

/-! part K05_p16 -/
set_option Elab.async false
set_option linter.all false
set_option maxRecDepth 100000
set_option maxHeartbeats 4000000
namespace K05
open PySem Rs L2
local macro_rules | `(tactic| walk_at "ev") => `(tactic| simp only [W_ok, W_bad, W_bind, W_opt, W_fin, fin_rt, fin_nx, R.bind_ok, R.bind_bad, R.opt_some, R.opt_none, E_var, E_cst, E_bin, E_neg, E_cmp, E_chn, E_isn, E_and, E_or, E_not, E_tru, E_ife, E_att, E_idx, E_slc, E_tup, E_fz, E_mk, E_call, E_new, E_met, E_blt, E_bmt, E_len, E_str, E_isi, E_frz, E_fst, E_fmt, Eo_no, Eo_yes, Eb_no, Eb_yes, Es_nil, Es_cons, Ej_nil, Ej_cons, EF_lst, EF_cmp, EF_lof, EF_dct, EI_seq, EI_rng, EI_rng2, S_asg, S_par, S_sta, S_sti, S_aug, S_exp, S_mut, S_ret, S_ifs, S_for, S_sup, S_pas, S_con, S_brk, Ss_nil, Ss_cons, bindT_nm, bindT_tp, bindTs_nil, bindTs_cons, layZ_lst, layZ_dct, layM_eq, look_int, look_bl, look_str, look_non, look_tup, look_lst, look_scr, look_dct, look_ins, look_loc, seen_lst, seen_dct, seen_ins, List.getElem?_cons_zero, List.getElem?_cons_succ, List.length_cons, List.length_nil, List.set_cons_zero, List.set_cons_succ, Option.map_some, Option.map_none, Option.bind_some, Option.bind_none, Sc_len, List.map_cons, List.map_nil, Nat.zero_add, Nat.reduceAdd, Nat.reduceLT, reduceIte, Nat.lt_irrefl, and_self, and_true, true_and, if_true, if_false, ↓reduceIte, le_line, Nat.reduceLeDiff, Nat.zero_le, bin_add, bin_sub, cmp_lt, cmp_le, cmp_gt, cmp_ge, cmp_eq, cmp_ne, cmp_in, cmp_nin, blt_int, blt_max2, blt_min2, blt_tupl, blt_tupt, met_lst, met_tup, met_scr, met_str, met_int, len_lst, len_tup, len_scr, decide_true, decide_false, Bool.not_true, Bool.not_false, items_tup, items_lst, items_str, wipe_nil, wipe_cons, idx_t0, idx_t1, idx_t2, idx_t3, idx_l0, idx_l1, eq_ss, eq_ii, ne_ss, ne_ii, ne_bb, tru_bl])
local macro_rules | `(tactic| walk_at "go") => `(tactic| simp only [W_ok, W_bad, W_bind, W_opt, W_fin, fin_rt, fin_nx, R.bind_ok, R.bind_bad, R.opt_some, R.opt_none, E_var, E_cst, E_bin, E_neg, E_cmp, E_chn, E_isn, E_and, E_or, E_not, E_tru, E_ife, E_att, E_idx, E_slc, E_tup, E_fz, E_mk, E_call, E_new, E_met, E_blt, E_bmt, E_len, E_str, E_isi, E_frz, E_fst, E_fmt, Eo_no, Eo_yes, Eb_no, Eb_yes, Es_nil, Es_cons, Ej_nil, Ej_cons, EF_lst, EF_cmp, EF_lof, EF_dct, EI_seq, EI_rng, EI_rng2, S_asg, S_par, S_sta, S_sti, S_aug, S_exp, S_mut, S_ret, S_ifs, S_for, S_sup, S_pas, S_con, S_brk, Ss_nil, Ss_cons, bindT_nm, bindT_tp, bindTs_nil, bindTs_cons, layZ_lst, layZ_dct, layM_eq, look_int, look_bl, look_str, look_non, look_tup, look_lst, look_scr, look_dct, look_ins, look_loc, seen_lst, seen_dct, seen_ins, List.getElem?_cons_zero, List.getElem?_cons_succ, List.length_cons, List.length_nil, List.set_cons_zero, List.set_cons_succ, Option.map_some, Option.map_none, Option.bind_some, Option.bind_none, Sc_len, List.map_cons, List.map_nil, Nat.zero_add, Nat.reduceAdd, Nat.reduceLT, reduceIte, Nat.lt_irrefl, and_self, and_true, true_and, if_true, if_false, ↓reduceIte, le_line, Nat.reduceLeDiff, Nat.zero_le, bin_add, bin_sub, cmp_lt, cmp_le, cmp_gt, cmp_ge, cmp_eq, cmp_ne, cmp_in, cmp_nin, blt_int, blt_max2, blt_min2, blt_tupl, blt_tupt, met_lst, met_tup, met_scr, met_str, met_int, len_lst, len_tup, len_scr, decide_true, decide_false, Bool.not_true, Bool.not_false, items_tup, items_lst, items_str, wipe_nil, wipe_cons, idx_t0, idx_t1, idx_t2, idx_t3, idx_l0, idx_l1, eq_ss, eq_ii, ne_ss, ne_ii, ne_bb, tru_bl, w_of_of, w_arg_of, w_got_of, w_arg_at, w_got_at, w_arg_arg, w_got_arg, look_insD, look_tupD, c_does, d_does])
/-! looks by kind; lists of texts; sets of keys -/
def isD : Lk → Bool
  | .does .. => true
  | _ => false
def dn : Lk → Option (Str × Nat)
  | .does i _ n => some (n, i)
  | _ => none
def dsn (ls : List Lk) : List (Str × Nat) := ls.filterMap dn
theorem isi_does {l : Lk} : isiD T (insL l) (.own 5) = some (isD l) := by cases l <;> rfl
theorem isi_cannot {l : Lk} : isiD T (insL l) (.own 6) = some (!isD l) := by cases l <;> rfl
theorem att_lname {m : Mu} {l : Lk} (h : isD l = true) : attD T m (insL l) 6 = some (.str (nmOf l)) := by
  cases l with
  | does i l n => rfl
  | cannot i l => cases h
theorem dsn_names : ∀ ls : List Lk, (ls.filter isD).map nmOf = (dsn ls).map (·.1)
  | [] => rfl
  | .does i l n :: ls => congrArg (n :: ·) (dsn_names ls)
  | .cannot i l :: ls => dsn_names ls
theorem dsn_ixs : ∀ ls : List Lk, (ls.filter isD).map ixL = (dsn ls).map (·.2)
  | [] => rfl
  | .does i l n :: ls => congrArg (i :: ·) (dsn_ixs ls)
  | .cannot i l :: ls => dsn_ixs ls
theorem dsn_pairs : ∀ ls : List Lk, (ls.filter isD).map (fun l => (nmOf l, ixL l)) = dsn ls
  | [] => rfl
  | .does i l n :: ls => congrArg ((n, i) :: ·) (dsn_pairs ls)
  | .cannot i l :: ls => dsn_pairs ls
theorem mem_dsn {ls : List Lk} {n : Str} {i : Nat} : (n, i) ∈ dsn ls ↔ ∃ l, .does i l n ∈ ls := by
  unfold dsn
  rw [List.mem_filterMap]
  constructor
  · rintro ⟨l, hl, h⟩
    cases l with
    | does j l' n' =>
      cases h
      exact ⟨l', hl⟩
    | cannot j l' => cases h
  · rintro ⟨l, hl⟩
    exact ⟨_, hl, rfl⟩
theorem lnms_nd : lnms.cps.toList.Nodup := by decide +kernel
theorem dsn_nd {a : Nat} {s w : Str} {ls : List Lk} (h : LksOk a s w ls) : ((dsn ls).map (·.1)).Nodup := by
  rw [show dsn ls = ls.filterMap dn from rfl, List.map_filterMap]
  refine List.Pairwise.filterMap (R := fun x y => ∀ b, (dn x).map (·.1) = some b → ∀ b', (dn y).map (·.1) = some b' → b ≠ b') _ (fun x y hxy b hb b' hb' => hxy b hb b' hb') ?_
  rw [List.pairwise_iff_getElem]
  intro i j hi hj hij b hb b' hb' e
  have h1 := h i _ (List.getElem?_eq_getElem hi)
  have h2 := h j _ (List.getElem?_eq_getElem hj)
  cases e1 : ls[i] with
  | cannot _ _ => rw [e1] at hb; cases hb
  | does i1 l1 n1 =>
    cases e2 : ls[j] with
    | cannot _ _ => rw [e2] at hb'; cases hb'
    | does i2 l2 n2 =>
      rw [e1] at h1 hb
      rw [e2] at h2 hb'
      cases hb
      cases hb'
      obtain ⟨_, _, c1, p1, q1⟩ := h1
      obtain ⟨_, _, c2, p2, q2⟩ := h2
      have e : n1 = n2 := e
      rw [q1, q2] at e
      have ec : c1 = c2 := by
        injection e with e
        injection e with e
        injection e
      subst ec
      obtain ⟨li, z1⟩ := List.getElem?_eq_some_iff.mp p1
      obtain ⟨lj, z2⟩ := List.getElem?_eq_some_iff.mp p2
      exact List.pairwise_iff_getElem.mp lnms_nd i j li lj hij (z1.trans z2.symm)
theorem keys_strs {xs : List Str} : keysD (xs.map .str) = some (xs.map Sum.inr) := by
  induction xs with
  | nil => rfl
  | cons x xs ih =>
    rw [List.map_cons, List.map_cons]
    unfold keysD
    rw [ih]
    rfl
theorem keys_ints {xs : List Int} : keysD (xs.map .int) = some (xs.map Sum.inl) := by
  induction xs with
  | nil => rfl
  | cons x xs ih =>
    rw [List.map_cons, List.map_cons]
    unfold keysD
    rw [ih]
    rfl
theorem ded_self {ks : List Key} (h : ks.Nodup) : dedK ks = ks := by
  induction ks with
  | nil => rfl
  | cons k ks ih =>
    rw [List.nodup_cons] at h
    unfold dedK
    rw [ih h.2, if_neg fun z => h.1 (hasK_iff.mp z)]
theorem ded_le : ∀ ks : List Key, (dedK ks).length ≤ ks.length
  | [] => Nat.le_refl _
  | k :: ks => by
    unfold dedK
    split
    · exact Nat.le_succ_of_le (ded_le ks)
    · exact Nat.succ_le_succ (ded_le ks)
theorem ded_full : ∀ {ks : List Key}, (dedK ks).length = ks.length → ks.Nodup
  | [], _ => List.nodup_nil
  | k :: ks, h => by
    unfold dedK at h
    have := ded_le ks
    split at h
    · rw [List.length_cons] at h
      omega
    · rename_i hk
      rw [List.length_cons, List.length_cons] at h
      exact List.nodup_cons.mpr ⟨fun z => hk (hasK_iff.mpr ((ded_mem ks k).mpr z)), ded_full (by omega)⟩
theorem nd_inl {xs : List Int} : (xs.map (Sum.inl : Int → Key)).Nodup ↔ xs.Nodup := by
  constructor
  · intro h
    exact List.Pairwise.of_map (S := fun a b : Key => a ≠ b) Sum.inl (fun a b hab e => hab (by rw [e])) h
  · intro h
    exact List.Pairwise.map (S := fun a b : Key => a ≠ b) Sum.inl (fun a b hab e => hab (Sum.inl.inj e)) h
theorem nd_inr {xs : List Str} : (xs.map (Sum.inr : Str → Key)).Nodup ↔ xs.Nodup := by
  constructor
  · intro h
    exact List.Pairwise.of_map (S := fun a b : Key => a ≠ b) Sum.inr (fun a b hab e => hab (by rw [e])) h
  · intro h
    exact List.Pairwise.map (S := fun a b : Key => a ≠ b) Sum.inr (fun a b hab e => hab (Sum.inr.inj e)) h
theorem sln_strs {xs : List Str} (hl : xs.length < 4000) (h : xs.Nodup) : slnD (.lst (xs.map .str)) = some xs.length := by
  unfold slnD
  dsimp only
  rw [if_pos (by rw [List.length_map]; exact hl), keys_strs]
  show some (dedK _).length = _
  rw [ded_self (nd_inr.mpr h), List.length_map]
/-- len(set(xs)) == len(xs) -/
def ndB (xs : List Int) : Bool := (dedK (xs.map Sum.inl)).length == xs.length
theorem ndB_iff {xs : List Int} : ndB xs = true ↔ xs.Nodup := by
  unfold ndB
  rw [beq_iff_eq]
  constructor
  · intro h
    exact nd_inl.mp (ded_full (by rw [h, List.length_map]))
  · intro h
    rw [ded_self (nd_inl.mpr h), List.length_map]
theorem sln_ints {xs : List Int} (hl : xs.length < 4000) : slnD (.lst (xs.map .int)) = some (dedK (xs.map Sum.inl)).length := by
  unfold slnD
  dsimp only
  rw [if_pos (by rw [List.length_map]; exact hl), keys_ints]
  rfl
theorem ks_ints {xs : List Int} (hl : xs.length < 4000) : ksD (.lst (xs.map .int)) = some (xs.map Sum.inl) := by
  unfold ksD
  dsimp only
  rw [if_pos (by rw [List.length_map]; exact hl), keys_ints]
theorem dep_strs {xs : List Str} : ∃ d, dep (.lst (xs.map .str)) = some d ∧ d ≤ 1 := by
  obtain ⟨d, h1, h2⟩ := depL_map (f := D.str) (B := 0) (ps := xs) fun p hp => ⟨0, rfl, Nat.le_refl _⟩
  exact ⟨d + 1, by simp only [dep, h1, Option.map_some], by omega⟩
theorem in_strs {T : Tab} {k : Nat} {s : Str} {xs : List Str} : inD T (k + 1) (.str s) (.lst (xs.map .str)) = some (decide (s ∈ xs)) := by
  obtain ⟨d, h1, h2⟩ := dep_strs (xs := xs)
  have pl : plainL (xs.map D.str) = true := plainL_map fun t ht => rfl
  rw [inD_lst (i := 0) rfl h1 (by omega) (by omega) rfl pl]
  unfold anyD
  congr 1
  rw [Bool.eq_iff_iff, List.any_eq_true, decide_eq_true_eq]
  constructor
  · rintro ⟨x, hx, h⟩
    obtain ⟨y, hy, rfl⟩ := List.mem_map.mp hx
    rw [decide_eq_true_eq, eqD_ss] at h
    have h := of_decide_eq_true (Option.some.inj h)
    rw [h] at hy
    exact hy
  · intro h
    exact ⟨.str s, List.mem_map.mpr ⟨s, h, rfl⟩, by rw [eqD_ss]; simp⟩
theorem blt_allB {bs : List Bool} : bltD .all [.lst (bs.map .bl)] = some (.bl (bs.all id)) := by
  have : boolsD (bs.map D.bl) = some bs := by
    induction bs with
    | nil => rfl
    | cons b bs ih =>
      rw [List.map_cons]
      unfold boolsD
      rw [ih]
      rfl
  show (boolsD (bs.map D.bl)).map _ = _
  rw [this]
  rfl
theorem blt_allF {α : Type} {f : α → Bool} {xs : List α} : bltD .all [.lst (xs.map fun x => .bl (f x))] = some (.bl (xs.all f)) := by
  have e : (xs.map fun x => D.bl (f x)) = (xs.map f).map .bl := by rw [List.map_map]; rfl
  rw [e, blt_allB, List.all_map]
  rfl
/-! the operators as a dict -/
def kvO (ops : List (Str × Nat)) : List (Key × D) := ops.map fun o => (Sum.inr o.1, D.int (o.2 : Int))
theorem kvO_keys {ops : List (Str × Nat)} : (kvO ops).map (·.1) = (ops.map (·.1)).map Sum.inr := by
  unfold kvO
  rw [List.map_map, List.map_map]
  rfl
theorem opNames_nd' {n : Nat} : (opNames n).Nodup := by
  have h4 : ∀ x, x < 4 → (opNames x).Nodup := by decide +kernel
  by_cases hn : n < 4
  · exact h4 n hn
  · have : opNames n = opNames 3 := by
      unfold opNames
      rw [show fgh.take n = fgh.take 3 from by rw [List.take_of_length_le (by show 3 ≤ n; omega)]; rfl]
    rw [this]
    exact h4 3 (by omega)
theorem kvO_nd {ops : List (Str × Nat)} {n : Nat} (h : OpsN ops n) : ((kvO ops).map (·.1)).Nodup := by
  rw [kvO_keys, h.nm]
  exact nd_inr.mpr opNames_nd'
theorem kvO_at {ops : List (Str × Nat)} {n : Nat} (h : OpsN ops n) {o : Str} {a : Nat} (ho : (o, a) ∈ ops) : valD (kvO ops) (.inr o) = some (.int (a : Int)) :=
  valD_mem (kvO_nd h) (List.mem_map.mpr ⟨(o, a), ho, rfl⟩)
theorem in_kvO {T : Tab} {k : Nat} {ops : List (Str × Nat)} {n : Nat} (h : OpsN ops n) {o : Str} {a : Nat} (ho : (o, a) ∈ ops) : inD T k (.str o) (.dct (kvO ops)) = some true := by
  show some (valD (kvO ops) (.inr o)).isSome = _
  rw [kvO_at h ho]
  rfl
theorem pairs_kvO {ops : List (Str × Nat)} : pairsD (ops.map opD) = some (kvO ops) := pairs_map opD (fun o => (Sum.inr o.1, D.int (o.2 : Int))) (fun o => rfl) ops
theorem merge_kvO {ops : List (Str × Nat)} {n : Nat} (h : OpsN ops n) : mergeD [] (kvO ops) = kvO ops := by
  rw [merge_nodup _ [] (by rw [List.nil_append]; exact kvO_nd h), List.nil_append]
/-! what stands in a target -/
theorem allp_ok {ops : List (Str × Nat)} : ∀ {t : Tm} {n : Nat}, Tg ops n t → ∀ p ∈ allp t, match p with
    | .of s ps => (s, ps.length) ∈ ops
    | q => q ∈ lv t := by
  intro t
  induction t using Tm.ind with
  | h2 i =>
    intro n _ p hp
    rw [allp, List.mem_singleton] at hp
    subst hp
    show _ ∈ lv _
    rw [lv]
    exact List.mem_singleton.mpr rfl
  | h3 s =>
    intro n _ p hp
    rw [allp, List.mem_singleton] at hp
    subst hp
    show _ ∈ lv _
    rw [lv]
    exact List.mem_singleton.mpr rfl
  | h4 s ps ih =>
    intro n h p hp
    rw [allp_eq] at hp
    rcases List.mem_cons.mp hp with rfl | hp
    · cases h with
      | leaf h => exact h.elim
      | nil h => exact h
      | of h _ => exact h
    · obtain ⟨q, hq, hpq⟩ := List.mem_flatMap.mp hp
      have hq : q ∈ ps := hq
      have hg : ∃ j, Tg ops j q := by
        cases h with
        | leaf h => exact h.elim
        | nil h => cases hq
        | of _ h => exact ⟨_, h q hq⟩
      obtain ⟨j, hg⟩ := hg
      have := ih q hq hg p hpq
      have up : ∀ x, x ∈ lv q → x ∈ lv (.of s ps) := fun x hx => by
        rw [lv_of, lvs_map, List.mem_flatten]
        exact ⟨lv q, List.mem_map.mpr ⟨q, hq, rfl⟩, hx⟩
      cases p with
      | of s' ps' => exact this
      | arg i => exact up _ this
      | got i => exact up _ this
def lfB : Tm → Bool
  | .of _ _ => false
  | _ => true
theorem lv_allp (t : Tm) : lv t = (allp t).filter lfB := by
  induction t using Tm.ind with
  | h2 i => rw [lv, allp]; rfl
  | h3 s => rw [lv, allp]; rfl
  | h4 s ps ih =>
    rw [lv_of, lvs_map, allp_eq]
    show _ = List.filter lfB (ps.flatMap allp)
    induction ps with
    | nil => rfl
    | cons p ps ihp =>
      rw [List.map_cons, List.flatten_cons, List.flatMap_cons, List.filter_append, ih p List.mem_cons_self, ihp fun q hq => ih q (List.mem_cons_of_mem _ hq)]
theorem fm_lv {α : Type} {f : Tm → Option α} (h : ∀ s ps, f (.of s ps) = none) (t : Tm) : (allp t).filterMap f = (lv t).filterMap f := by
  rw [lv_allp]
  induction allp t with
  | nil => rfl
  | cons p ps ih =>
    cases p with
    | of s qs => rw [List.filterMap_cons_none (h s qs), ih]; rfl
    | arg i =>
      show _ = List.filterMap f (.arg i :: List.filter lfB ps)
      rw [List.filterMap_cons, List.filterMap_cons, ih]
    | got i =>
      show _ = List.filterMap f (.got i :: List.filter lfB ps)
      rw [List.filterMap_cons, List.filterMap_cons, ih]
theorem w_of_arg : decide ((("of" : String) : Str) = (("arg" : String) : Str)) = false := by decide +kernel
theorem w_of_got : decide ((("of" : String) : Str) = (("got" : String) : Str)) = false := by decide +kernel
theorem w_got_got : decide ((("got" : String) : Str) = (("got" : String) : Str)) = true := by decide +kernel
theorem w_arg_got : decide ((("arg" : String) : Str) = (("got" : String) : Str)) = false := by decide +kernel

end K05

/-! part K05_p17 -/
set_option Elab.async false
set_option linter.all false
set_option maxRecDepth 100000
set_option maxHeartbeats 4000000
namespace K05
open PySem Rs L2
local macro_rules | `(tactic| walk_at "ev") => `(tactic| simp only [W_ok, W_bad, W_bind, W_opt, W_fin, fin_rt, fin_nx, R.bind_ok, R.bind_bad, R.opt_some, R.opt_none, E_var, E_cst, E_bin, E_neg, E_cmp, E_chn, E_isn, E_and, E_or, E_not, E_tru, E_ife, E_att, E_idx, E_slc, E_tup, E_fz, E_mk, E_call, E_new, E_met, E_blt, E_bmt, E_len, E_str, E_isi, E_frz, E_fst, E_fmt, Eo_no, Eo_yes, Eb_no, Eb_yes, Es_nil, Es_cons, Ej_nil, Ej_cons, EF_lst, EF_cmp, EF_lof, EF_dct, EI_seq, EI_rng, EI_rng2, S_asg, S_par, S_sta, S_sti, S_aug, S_exp, S_mut, S_ret, S_ifs, S_for, S_sup, S_pas, S_con, S_brk, Ss_nil, Ss_cons, bindT_nm, bindT_tp, bindTs_nil, bindTs_cons, layZ_lst, layZ_dct, layM_eq, look_int, look_bl, look_str, look_non, look_tup, look_lst, look_scr, look_dct, look_ins, look_loc, seen_lst, seen_dct, seen_ins, List.getElem?_cons_zero, List.getElem?_cons_succ, List.length_cons, List.length_nil, List.set_cons_zero, List.set_cons_succ, Option.map_some, Option.map_none, Option.bind_some, Option.bind_none, Sc_len, List.map_cons, List.map_nil, Nat.zero_add, Nat.reduceAdd, Nat.reduceLT, reduceIte, Nat.lt_irrefl, and_self, and_true, true_and, if_true, if_false, ↓reduceIte, le_line, Nat.reduceLeDiff, Nat.zero_le, bin_add, bin_sub, cmp_lt, cmp_le, cmp_gt, cmp_ge, cmp_eq, cmp_ne, cmp_in, cmp_nin, blt_int, blt_max2, blt_min2, blt_tupl, blt_tupt, met_lst, met_tup, met_scr, met_str, met_int, len_lst, len_tup, len_scr, decide_true, decide_false, Bool.not_true, Bool.not_false, items_tup, items_lst, items_str, wipe_nil, wipe_cons, idx_t0, idx_t1, idx_t2, idx_t3, idx_l0, idx_l1, eq_ss, eq_ii, ne_ss, ne_ii, ne_bb, tru_bl])
local macro_rules | `(tactic| walk_at "go") => `(tactic| simp only [W_ok, W_bad, W_bind, W_opt, W_fin, fin_rt, fin_nx, R.bind_ok, R.bind_bad, R.opt_some, R.opt_none, E_var, E_cst, E_bin, E_neg, E_cmp, E_chn, E_isn, E_and, E_or, E_not, E_tru, E_ife, E_att, E_idx, E_slc, E_tup, E_fz, E_mk, E_call, E_new, E_met, E_blt, E_bmt, E_len, E_str, E_isi, E_frz, E_fst, E_fmt, Eo_no, Eo_yes, Eb_no, Eb_yes, Es_nil, Es_cons, Ej_nil, Ej_cons, EF_lst, EF_cmp, EF_lof, EF_dct, EI_seq, EI_rng, EI_rng2, S_asg, S_par, S_sta, S_sti, S_aug, S_exp, S_mut, S_ret, S_ifs, S_for, S_sup, S_pas, S_con, S_brk, Ss_nil, Ss_cons, bindT_nm, bindT_tp, bindTs_nil, bindTs_cons, layZ_lst, layZ_dct, layM_eq, look_int, look_bl, look_str, look_non, look_tup, look_lst, look_scr, look_dct, look_ins, look_loc, seen_lst, seen_dct, seen_ins, List.getElem?_cons_zero, List.getElem?_cons_succ, List.length_cons, List.length_nil, List.set_cons_zero, List.set_cons_succ, Option.map_some, Option.map_none, Option.bind_some, Option.bind_none, Sc_len, List.map_cons, List.map_nil, Nat.zero_add, Nat.reduceAdd, Nat.reduceLT, reduceIte, Nat.lt_irrefl, and_self, and_true, true_and, if_true, if_false, ↓reduceIte, le_line, Nat.reduceLeDiff, Nat.zero_le, bin_add, bin_sub, cmp_lt, cmp_le, cmp_gt, cmp_ge, cmp_eq, cmp_ne, cmp_in, cmp_nin, blt_int, blt_max2, blt_min2, blt_tupl, blt_tupt, met_lst, met_tup, met_scr, met_str, met_int, len_lst, len_tup, len_scr, decide_true, decide_false, Bool.not_true, Bool.not_false, items_tup, items_lst, items_str, wipe_nil, wipe_cons, idx_t0, idx_t1, idx_t2, idx_t3, idx_l0, idx_l1, eq_ss, eq_ii, ne_ss, ne_ii, ne_bb, tru_bl, w_of_of, w_arg_of, w_got_of, w_arg_at, w_got_at, w_arg_arg, w_got_arg, look_insD, look_tupD, c_does, d_does, w_of_arg, w_of_got, w_got_got, w_arg_got, wordT, signT, prt, if_tt, att_word, att_sign, att_parts, look_insR, look_insL, att_rop, att_rlooks, att_rtarget, att_lix, isi_does, isi_cannot, E_sln, E_sdj, EF_srt, EF_dcm, EI_enm, S_pr3])
theorem does_of (k : Nat) (m : Mu) (r : Ru) (hl4 : r.ls.length ≤ 4) : W (run T F (k + 1) 1 [insR r] m) (fun v m' => v = .lst ((r.ls.filter isD).map insL) ∧ m' = m) := by
  rw [r1]
  unfold b1
  (try walk_at "go")
  rw [List.length_map]
  refine W_filt r.ls insL isD (fun m' => m' = m) rfl (fun l hl m2 hm2 => ?_) fun m2 hm2 => ?_
  · subst hm2
    (try walk_at "go")
    cases isD l <;> (try walk_at "go") <;> first | done | rfl | exact ⟨rfl, rfl⟩
  · subst hm2
    (try walk_at "go")
    rw [List.length_map, if_pos (lineLe (by have := List.length_filter_le isD r.ls; omega))]
    (try walk_at "go")
    first | done | rfl | exact ⟨rfl, rfl⟩
theorem cannots_of (k : Nat) (m : Mu) (r : Ru) (hl4 : r.ls.length ≤ 4) : W (run T F (k + 1) 2 [insR r] m) (fun v m' => v = .lst ((r.ls.filter fun l => !isD l).map insL) ∧ m' = m) := by
  rw [r2]
  unfold b2
  (try walk_at "go")
  rw [List.length_map]
  refine W_filt r.ls insL (fun l => !isD l) (fun m' => m' = m) rfl (fun l hl m2 hm2 => ?_) fun m2 hm2 => ?_
  · subst hm2
    (try walk_at "go")
    cases isD l <;> (try walk_at "go") <;> first | done | rfl | exact ⟨rfl, rfl⟩
  · subst hm2
    (try walk_at "go")
    rw [List.length_map, if_pos (lineLe (by have := List.length_filter_le (fun l => !isD l) r.ls; omega))]
    (try walk_at "go")
    first | done | rfl | exact ⟨rfl, rfl⟩
theorem right_part (k : Nat) (m : Mu) (ops : List (Str × Nat)) (n a : Nat) (hops : OpsN ops n) (nm : List Str) (p : Tm) (h : match p with
    | .arg i => 0 ≤ i ∧ i < (a : Int)
    | .got s => s ∈ nm
    | .of s ps => (s, ps.length) ∈ ops) : W (run T F (k + 2) 3 [.dct (kvO ops), .int (a : Int), .lst (nm.map .str), insD p] m) (fun v m' => v = .bl true ∧ m' = m) := by
  rw [r3]
  unfold b3
  (try walk_at "go")
  cases p with
  | arg i =>
    (try walk_at "go")
    obtain ⟨h1, h2⟩ := h
    simp only [h1, h2, decide_true]
    (try walk_at "go")
    first | done | rfl | exact ⟨rfl, rfl⟩
  | got s =>
    (try walk_at "go")
    rw [in_strs]
    have h : s ∈ nm := h
    simp only [h, decide_true]
    (try walk_at "go")
    first | done | rfl | exact ⟨rfl, rfl⟩
  | of s ps =>
    (try walk_at "go")
    rw [in_kvO hops h]
    (try walk_at "go")
    rw [idx_dct, kvO_at hops h]
    (try walk_at "go")
    rw [List.length_map]
    (try walk_at "go")
    rw [beq_self_eq_true]

end K05

/-! part K05_p18 -/
set_option Elab.async false
set_option linter.all false
set_option maxRecDepth 100000
set_option maxHeartbeats 4000000
namespace K05
open PySem Rs L2
local macro_rules | `(tactic| walk_at "ev") => `(tactic| simp only [W_ok, W_bad, W_bind, W_opt, W_fin, fin_rt, fin_nx, R.bind_ok, R.bind_bad, R.opt_some, R.opt_none, E_var, E_cst, E_bin, E_neg, E_cmp, E_chn, E_isn, E_and, E_or, E_not, E_tru, E_ife, E_att, E_idx, E_slc, E_tup, E_fz, E_mk, E_call, E_new, E_met, E_blt, E_bmt, E_len, E_str, E_isi, E_frz, E_fst, E_fmt, Eo_no, Eo_yes, Eb_no, Eb_yes, Es_nil, Es_cons, Ej_nil, Ej_cons, EF_lst, EF_cmp, EF_lof, EF_dct, EI_seq, EI_rng, EI_rng2, S_asg, S_par, S_sta, S_sti, S_aug, S_exp, S_mut, S_ret, S_ifs, S_for, S_sup, S_pas, S_con, S_brk, Ss_nil, Ss_cons, bindT_nm, bindT_tp, bindTs_nil, bindTs_cons, layZ_lst, layZ_dct, layM_eq, look_int, look_bl, look_str, look_non, look_tup, look_lst, look_scr, look_dct, look_ins, look_loc, seen_lst, seen_dct, seen_ins, List.getElem?_cons_zero, List.getElem?_cons_succ, List.length_cons, List.length_nil, List.set_cons_zero, List.set_cons_succ, Option.map_some, Option.map_none, Option.bind_some, Option.bind_none, Sc_len, List.map_cons, List.map_nil, Nat.zero_add, Nat.reduceAdd, Nat.reduceLT, reduceIte, Nat.lt_irrefl, and_self, and_true, true_and, if_true, if_false, ↓reduceIte, le_line, Nat.reduceLeDiff, Nat.zero_le, bin_add, bin_sub, cmp_lt, cmp_le, cmp_gt, cmp_ge, cmp_eq, cmp_ne, cmp_in, cmp_nin, blt_int, blt_max2, blt_min2, blt_tupl, blt_tupt, met_lst, met_tup, met_scr, met_str, met_int, len_lst, len_tup, len_scr, decide_true, decide_false, Bool.not_true, Bool.not_false, items_tup, items_lst, items_str, wipe_nil, wipe_cons, idx_t0, idx_t1, idx_t2, idx_t3, idx_l0, idx_l1, eq_ss, eq_ii, ne_ss, ne_ii, ne_bb, tru_bl])
local macro_rules | `(tactic| walk_at "go") => `(tactic| simp only [W_ok, W_bad, W_bind, W_opt, W_fin, fin_rt, fin_nx, R.bind_ok, R.bind_bad, R.opt_some, R.opt_none, E_var, E_cst, E_bin, E_neg, E_cmp, E_chn, E_isn, E_and, E_or, E_not, E_tru, E_ife, E_att, E_idx, E_slc, E_tup, E_fz, E_mk, E_call, E_new, E_met, E_blt, E_bmt, E_len, E_str, E_isi, E_frz, E_fst, E_fmt, Eo_no, Eo_yes, Eb_no, Eb_yes, Es_nil, Es_cons, Ej_nil, Ej_cons, EF_lst, EF_cmp, EF_lof, EF_dct, EI_seq, EI_rng, EI_rng2, S_asg, S_par, S_sta, S_sti, S_aug, S_exp, S_mut, S_ret, S_ifs, S_for, S_sup, S_pas, S_con, S_brk, Ss_nil, Ss_cons, bindT_nm, bindT_tp, bindTs_nil, bindTs_cons, layZ_lst, layZ_dct, layM_eq, look_int, look_bl, look_str, look_non, look_tup, look_lst, look_scr, look_dct, look_ins, look_loc, seen_lst, seen_dct, seen_ins, List.getElem?_cons_zero, List.getElem?_cons_succ, List.length_cons, List.length_nil, List.set_cons_zero, List.set_cons_succ, Option.map_some, Option.map_none, Option.bind_some, Option.bind_none, Sc_len, List.map_cons, List.map_nil, Nat.zero_add, Nat.reduceAdd, Nat.reduceLT, reduceIte, Nat.lt_irrefl, and_self, and_true, true_and, if_true, if_false, ↓reduceIte, le_line, Nat.reduceLeDiff, Nat.zero_le, bin_add, bin_sub, cmp_lt, cmp_le, cmp_gt, cmp_ge, cmp_eq, cmp_ne, cmp_in, cmp_nin, blt_int, blt_max2, blt_min2, blt_tupl, blt_tupt, met_lst, met_tup, met_scr, met_str, met_int, len_lst, len_tup, len_scr, decide_true, decide_false, Bool.not_true, Bool.not_false, items_tup, items_lst, items_str, wipe_nil, wipe_cons, idx_t0, idx_t1, idx_t2, idx_t3, idx_l0, idx_l1, eq_ss, eq_ii, ne_ss, ne_ii, ne_bb, tru_bl, w_of_of, w_arg_of, w_got_of, w_arg_at, w_got_at, w_arg_arg, w_got_arg, look_insD, look_tupD, c_does, d_does, w_of_arg, w_of_got, w_got_got, w_arg_got, wordT, signT, prt, if_tt, att_word, att_sign, att_parts, look_insR, look_insL, att_rop, att_rlooks, att_rtarget, att_lix, isi_does, isi_cannot, E_sln, E_sdj, EF_srt, EF_dcm, EI_enm, S_pr3])
theorem dsn_len (ls : List Lk) : (dsn ls).length ≤ ls.length := List.length_filterMap_le _ _
theorem is_right (k : Nat) (m : Mu) (ops : List (Str × Nat)) (n : Nat) (s w : Str) (hops : OpsN ops n) (r : Ru) (hr : RuOk ops s w r) : W (run T F (k + 6) 4 [.dct (kvO ops), insR r] m) (fun v m' => v = .bl true ∧ Ex m m') := by
  obtain ⟨a, ha, hk, hlv⟩ := hr.ok
  have hl4 := hr.len
  rw [r4]
  unfold b4
  (try walk_at "go")
  rw [in_kvO hops ha]
  (try walk_at "go")
  rw [idx_dct, kvO_at hops ha]
  (try walk_at "go")
  refine W_eqm (does_of (k + 4) m r hl4) ?_
  (try walk_at "go")
  rw [List.length_map]
  refine W_mapL (r.ls.filter isD) insL (fun l => .str (nmOf l)) (fun m' => m' = m) rfl (fun l hl m2 hm2 => ?_) fun m2 hm2 => ?_
  · subst hm2
    (try walk_at "go")
    rw [att_lname (List.mem_filter.mp hl).2]
    (try walk_at "go")
    first | done | rfl | exact ⟨rfl, rfl⟩
  subst hm2
  (try walk_at "go")
  rw [List.length_map, if_pos (lineLe (by have := List.length_filter_le isD r.ls; omega))]
  (try walk_at "go")
  have en : ((r.ls.filter isD).map fun l => D.str (nmOf l)) = ((dsn r.ls).map (·.1)).map .str := by rw [← dsn_names, List.map_map]; rfl
  have hnl : ((dsn r.ls).map (·.1)).length ≤ 4 := by rw [List.length_map]; have := dsn_len r.ls; omega
  simp only [en]
  rw [sln_strs (by omega) (dsn_nd hk)]
  (try walk_at "go")
  simp only [List.length_map, Int.lt_irrefl, decide_false]
  (try walk_at "go")
  refine W_mapL r.ls insL (fun l => .bl true) (fun m' => m' = m2) rfl (fun l hl m3 hm3 => ?_) fun m3 hm3 => ?_
  · subst hm3
    (try walk_at "go")
    obtain ⟨p, hp⟩ := List.mem_iff_getElem?.mp hl
    have hla : ixL l < a := by
      have := hk p l hp
      cases l with
      | does i l n => exact this.1
      | cannot i l => exact this.1
    have h1 : (0 : Int) ≤ (ixL l : Int) := by omega
    have h2 : (ixL l : Int) < (a : Int) := by omega
    simp only [h1, h2, decide_true]
    (try walk_at "go")
    first | done | rfl | exact ⟨rfl, rfl⟩
  subst hm3
  (try walk_at "go")
  rw [List.length_map, if_pos (lineLe (by omega))]
  (try walk_at "go")
  have eall : ∀ {α : Type} (xs : List α), bltD .all [.lst (xs.map fun _ => D.bl true)] = some (.bl true) := fun xs => by
    rw [blt_allF (f := fun _ => true)]
    simp
  rw [eall]
  (try walk_at "go")
  refine W_mono (parts2 ops hops.ar r.t (k + 1) _ hr.tg) fun v m4 ⟨e, he⟩ => ?_
  subst e
  (try walk_at "go")
  rw [List.length_map]
  refine W_mapL (allp r.t) insD (fun l => .bl true) (fun m' => m' = m4) rfl (fun p hp m5 hm5 => ?_) fun m5 hm5 => ?_
  · subst hm5
    (try walk_at "go")
    refine W_eqm (right_part (k + 3) m5 ops n a hops _ p ?_) ?_
    · have h1 := allp_ok hr.tg p hp
      cases p with
      | of s ps => exact h1
      | arg i =>
        rcases hlv _ h1 with ⟨j, hj, e⟩ | ⟨_, _, _, _, e⟩
        · cases e
          exact ⟨by omega, by omega⟩
        · cases e
      | got x =>
        rcases hlv _ h1 with ⟨j, hj, e⟩ | ⟨i, l, y, hm, e⟩
        · cases e
        · cases e
          exact List.mem_map.mpr ⟨(x, i), mem_dsn.mpr ⟨l, hm⟩, rfl⟩
    · (try walk_at "go")
      first | done | rfl | exact ⟨rfl, rfl⟩
  subst hm5
  (try walk_at "go")
  rw [List.length_map, if_pos (lineLe (by have := allp_len hops.ar hr.tg; omega))]
  (try walk_at "go")
  rw [eall]
  (try walk_at "go")
  first | exact he | exact ⟨rfl, he⟩

end K05

/-! part K05_p19 -/
set_option Elab.async false
set_option linter.all false
set_option maxRecDepth 100000
set_option maxHeartbeats 4000000
namespace K05
open PySem Rs L2
local macro_rules | `(tactic| walk_at "ev") => `(tactic| simp only [W_ok, W_bad, W_bind, W_opt, W_fin, fin_rt, fin_nx, R.bind_ok, R.bind_bad, R.opt_some, R.opt_none, E_var, E_cst, E_bin, E_neg, E_cmp, E_chn, E_isn, E_and, E_or, E_not, E_tru, E_ife, E_att, E_idx, E_slc, E_tup, E_fz, E_mk, E_call, E_new, E_met, E_blt, E_bmt, E_len, E_str, E_isi, E_frz, E_fst, E_fmt, Eo_no, Eo_yes, Eb_no, Eb_yes, Es_nil, Es_cons, Ej_nil, Ej_cons, EF_lst, EF_cmp, EF_lof, EF_dct, EI_seq, EI_rng, EI_rng2, S_asg, S_par, S_sta, S_sti, S_aug, S_exp, S_mut, S_ret, S_ifs, S_for, S_sup, S_pas, S_con, S_brk, Ss_nil, Ss_cons, bindT_nm, bindT_tp, bindTs_nil, bindTs_cons, layZ_lst, layZ_dct, layM_eq, look_int, look_bl, look_str, look_non, look_tup, look_lst, look_scr, look_dct, look_ins, look_loc, seen_lst, seen_dct, seen_ins, List.getElem?_cons_zero, List.getElem?_cons_succ, List.length_cons, List.length_nil, List.set_cons_zero, List.set_cons_succ, Option.map_some, Option.map_none, Option.bind_some, Option.bind_none, Sc_len, List.map_cons, List.map_nil, Nat.zero_add, Nat.reduceAdd, Nat.reduceLT, reduceIte, Nat.lt_irrefl, and_self, and_true, true_and, if_true, if_false, ↓reduceIte, le_line, Nat.reduceLeDiff, Nat.zero_le, bin_add, bin_sub, cmp_lt, cmp_le, cmp_gt, cmp_ge, cmp_eq, cmp_ne, cmp_in, cmp_nin, blt_int, blt_max2, blt_min2, blt_tupl, blt_tupt, met_lst, met_tup, met_scr, met_str, met_int, len_lst, len_tup, len_scr, decide_true, decide_false, Bool.not_true, Bool.not_false, items_tup, items_lst, items_str, wipe_nil, wipe_cons, idx_t0, idx_t1, idx_t2, idx_t3, idx_l0, idx_l1, eq_ss, eq_ii, ne_ss, ne_ii, ne_bb, tru_bl])
local macro_rules | `(tactic| walk_at "go") => `(tactic| simp only [W_ok, W_bad, W_bind, W_opt, W_fin, fin_rt, fin_nx, R.bind_ok, R.bind_bad, R.opt_some, R.opt_none, E_var, E_cst, E_bin, E_neg, E_cmp, E_chn, E_isn, E_and, E_or, E_not, E_tru, E_ife, E_att, E_idx, E_slc, E_tup, E_fz, E_mk, E_call, E_new, E_met, E_blt, E_bmt, E_len, E_str, E_isi, E_frz, E_fst, E_fmt, Eo_no, Eo_yes, Eb_no, Eb_yes, Es_nil, Es_cons, Ej_nil, Ej_cons, EF_lst, EF_cmp, EF_lof, EF_dct, EI_seq, EI_rng, EI_rng2, S_asg, S_par, S_sta, S_sti, S_aug, S_exp, S_mut, S_ret, S_ifs, S_for, S_sup, S_pas, S_con, S_brk, Ss_nil, Ss_cons, bindT_nm, bindT_tp, bindTs_nil, bindTs_cons, layZ_lst, layZ_dct, layM_eq, look_int, look_bl, look_str, look_non, look_tup, look_lst, look_scr, look_dct, look_ins, look_loc, seen_lst, seen_dct, seen_ins, List.getElem?_cons_zero, List.getElem?_cons_succ, List.length_cons, List.length_nil, List.set_cons_zero, List.set_cons_succ, Option.map_some, Option.map_none, Option.bind_some, Option.bind_none, Sc_len, List.map_cons, List.map_nil, Nat.zero_add, Nat.reduceAdd, Nat.reduceLT, reduceIte, Nat.lt_irrefl, and_self, and_true, true_and, if_true, if_false, ↓reduceIte, le_line, Nat.reduceLeDiff, Nat.zero_le, bin_add, bin_sub, cmp_lt, cmp_le, cmp_gt, cmp_ge, cmp_eq, cmp_ne, cmp_in, cmp_nin, blt_int, blt_max2, blt_min2, blt_tupl, blt_tupt, met_lst, met_tup, met_scr, met_str, met_int, len_lst, len_tup, len_scr, decide_true, decide_false, Bool.not_true, Bool.not_false, items_tup, items_lst, items_str, wipe_nil, wipe_cons, idx_t0, idx_t1, idx_t2, idx_t3, idx_l0, idx_l1, eq_ss, eq_ii, ne_ss, ne_ii, ne_bb, tru_bl, w_of_of, w_arg_of, w_got_of, w_arg_at, w_got_at, w_arg_arg, w_got_arg, look_insD, look_tupD, c_does, d_does, w_of_arg, w_of_got, w_got_got, w_arg_got, wordT, signT, prt, if_tt, att_word, att_sign, att_parts, look_insR, look_insL, att_rop, att_rlooks, att_rtarget, att_lix, isi_does, isi_cannot, E_sln, E_sdj, EF_srt, EF_dcm, EI_enm, S_pr3])
theorem enm_map {α : Type} {f : α → D} {xs : List α} : enmL (xs.map f) = xs.zipIdx.map fun p => .tup [.int (p.2 : Int), f p.1] := by
  unfold enmL
  rw [List.zipIdx_map, List.map_map]
  rfl
theorem srt_names {ops : List (Str × Nat)} {n : Nat} (h : OpsN ops n) : srtD (.dct (kvO ops)) = some (ops.map fun o => .str o.1) := by
  have hl : (kvO ops).length < 64 := by
    have := h.ops.len
    unfold kvO
    rw [List.length_map]
    omega
  have e1 : strsD ((kvO ops).map fun kv => keyToD kv.1) = some (ops.map (·.1)) := by
    unfold kvO
    rw [List.map_map]
    clear hl h
    induction ops with
    | nil => rfl
    | cons o ops ih =>
      rw [List.map_cons, List.map_cons]
      show (strsD (List.map _ ops)).map _ = _
      rw [ih]
      rfl
  have e2 : sortS (ops.map (·.1)) = ops.map (·.1) := by
    rw [h.nm]
    unfold sortS
    refine List.mergeSort_of_pairwise ?_
    have h4 : ∀ x, x < 4 → (opNames x).Pairwise (fun a b => (!PySem.Spec.ltCps b.cps.toList a.cps.toList) = true) := by decide +kernel
    by_cases hn : n < 4
    · exact h4 n hn
    · have : opNames n = opNames 3 := by
        unfold opNames
        rw [show fgh.take n = fgh.take 3 from by rw [List.take_of_length_le (by show 3 ≤ n; omega)]; rfl]
      rw [this]
      exact h4 3 (by omega)
  unfold srtD
  dsimp only
  rw [if_pos hl, e1, Option.map_some, e2, List.map_map]
  rfl
theorem W_newI {c f : Nat} {q : Cls} {ds : List D} {m : Mu} {G : Nat → List D → Mu → R D} {fs : List (Nat × D)} (h : T[c]? = some q) (h1 : q.exf.isNone = true) (h2 : q.ini = some f) (h3 : q.fin = true)
    (hr : W (G f (.loc m.length :: ds) (m ++ [.ins c []])) (fun v m' => v = .non ∧ m'[m.length]? = some (.ins c fs) ∧ Ex m m')) : W (newD T G c ds m) (fun v m' => v = .ins c fs ∧ Ex m m') := by
  unfold newD
  simp only [h, h1, h2, h3, if_true]
  cases e : G f (.loc m.length :: ds) (m ++ [.ins c []]) with
  | ok v m1 =>
    rw [e] at hr
    obtain ⟨rfl, h4, h5⟩ := hr
    simp only [frzD, h4]
    exact ⟨rfl, Ex_set h5 (Nat.le_refl _)⟩
  | exc _ _ _ => rw [e] at hr; exact hr.elim
  | bad => rw [e] at hr; exact hr.elim
theorem sta_at {m : Mu} {j c f : Nat} {fs : List (Nat × D)} {d : D} {q : Cls} (hj : m[j]? = some (.ins c fs)) (h : T[c]? = some q) (h1 : q.exf.isNone = true) (h2 : q.flds.contains f = true) (h3 : fs.length < 900) : staD T (.loc j) f d m = some (m.set j (.ins c (putA f d fs))) := by
  unfold staD
  simp only [hj, h, h1, h2, h3, Bool.and_self, decide_true, if_true]
theorem check_rules (k : Nat) (m : Mu) (ops : List (Str × Nat)) (n : Nat) (s : Str) (hops : OpsN ops n) (rs : List Ru) (hrs : ∀ r ∈ rs, ∃ w, RuOk ops s w r) : W (run T F (k + 7) 5 [.dct (kvO ops), .lst (rs.map insR)] m) (fun v m' => v = .non ∧ Ex m m') := by
  rw [r5]
  unfold b5
  (try walk_at "go")
  rw [enm_map]
  (try walk_at "go")
  refine W_forF (f0 := fun p : Ru × Nat => D.tup [.int (p.2 : Int), insR p.1]) (ps := rs.zipIdx) (fun i q m' => (∃ o2 o3, q = [some (.dct (kvO ops)), some (.lst (rs.map insR)), o2, o3]) ∧ Ex m m') ⟨⟨_, _, rfl⟩, Ex.rfl'⟩ (fun i x q m1 hx ⟨⟨o2, o3, e⟩, h1⟩ => ?_) fun q m1 ⟨⟨o2, o3, e⟩, h1⟩ => ?_
  · subst e
    (try walk_at "go")
    have hm : x.1 ∈ rs := by
      have := List.mem_of_getElem? hx
      exact List.fst_mem_of_mem_zipIdx this
    obtain ⟨w, hw⟩ := hrs _ hm
    refine W_mono (is_right k m1 ops n s w hops x.1 hw) fun v m2 ⟨e, h2⟩ => ?_
    subst e
    (try walk_at "go")
    first | exact ⟨⟨_, _, rfl⟩, h1.trans h2⟩
  · subst e
    (try walk_at "go")
    first | exact h1 | exact ⟨rfl, h1⟩
def bookD (ops : List (Str × Nat)) (rs : List Ru) : D := .ins 8 [(13, .dct (kvO ops)), (14, .tup (rs.map insR))]
theorem new_book (k : Nat) (m : Mu) (ops : List (Str × Nat)) (n : Nat) (s : Str) (hops : OpsN ops n) (rs : List Ru) (hrs : ∀ r ∈ rs, ∃ w, RuOk ops s w r) : W (newD T (run T F (k + 8)) 8 [.dct (kvO ops), .lst (rs.map insR)] m) (fun v m' => v = bookD ops rs ∧ Ex m m') := by
  refine W_newI (f := 33) T8 rfl rfl rfl ?_
  rw [r33]
  unfold b33
  (try walk_at "go")
  refine W_mono (check_rules k _ ops n s hops rs hrs) fun v m1 ⟨e, h1⟩ => ?_
  subst e
  (try walk_at "go")
  have hj : m1[m.length]? = some (.ins 8 []) := h1.get get_last
  rw [srt_names hops]
  (try walk_at "go")
  rw [List.length_map]
  (try walk_at "go")
  refine W_mapL ops (fun o => .str o.1) opD (fun m' => m' = m1) rfl (fun o ho m2 hm2 => ?_) fun m2 hm2 => ?_
  · subst hm2
    (try walk_at "go")
    rw [idx_dct, kvO_at hops (o := o.1) (a := o.2) ho]
    (try walk_at "go")
    first | done | rfl | exact ⟨rfl, rfl⟩
  subst hm2
  (try walk_at "go")
  rw [List.length_map, if_pos (lineLe (by have := hops.ops.len; omega)), pairs_kvO]
  (try walk_at "go")
  rw [merge_kvO hops]
  (try walk_at "go")
  rw [sta_at hj T8 rfl rfl (by decide)]
  (try walk_at "go")
  have hj2 : (m2.set m.length (.ins 8 (putA 13 (.dct (kvO ops)) [])))[m.length]? = some (.ins 8 (putA 13 (.dct (kvO ops)) [])) := by
    rw [List.getElem?_set_self (List.getElem?_eq_some_iff.mp hj).1]
  rw [sta_at hj2 T8 rfl rfl (by simp [putA])]
  (try walk_at "go")
  refine ⟨?_, ?_⟩
  · rw [List.getElem?_set_self (by rw [List.length_set]; exact (List.getElem?_eq_some_iff.mp hj).1)]
    simp [putA]
  · have h0 : Ex m m2 := Ex.app.trans h1
    exact Ex_set (Ex_set h0 (Nat.le_refl _)) (Nat.le_refl _)

end K05

/-! part K05_p20 -/
set_option Elab.async false
set_option linter.all false
set_option maxRecDepth 100000
set_option maxHeartbeats 4000000
namespace K05
open PySem Rs L2
local macro_rules | `(tactic| walk_at "ev") => `(tactic| simp only [W_ok, W_bad, W_bind, W_opt, W_fin, fin_rt, fin_nx, R.bind_ok, R.bind_bad, R.opt_some, R.opt_none, E_var, E_cst, E_bin, E_neg, E_cmp, E_chn, E_isn, E_and, E_or, E_not, E_tru, E_ife, E_att, E_idx, E_slc, E_tup, E_fz, E_mk, E_call, E_new, E_met, E_blt, E_bmt, E_len, E_str, E_isi, E_frz, E_fst, E_fmt, Eo_no, Eo_yes, Eb_no, Eb_yes, Es_nil, Es_cons, Ej_nil, Ej_cons, EF_lst, EF_cmp, EF_lof, EF_dct, EI_seq, EI_rng, EI_rng2, S_asg, S_par, S_sta, S_sti, S_aug, S_exp, S_mut, S_ret, S_ifs, S_for, S_sup, S_pas, S_con, S_brk, Ss_nil, Ss_cons, bindT_nm, bindT_tp, bindTs_nil, bindTs_cons, layZ_lst, layZ_dct, layM_eq, look_int, look_bl, look_str, look_non, look_tup, look_lst, look_scr, look_dct, look_ins, look_loc, seen_lst, seen_dct, seen_ins, List.getElem?_cons_zero, List.getElem?_cons_succ, List.length_cons, List.length_nil, List.set_cons_zero, List.set_cons_succ, Option.map_some, Option.map_none, Option.bind_some, Option.bind_none, Sc_len, List.map_cons, List.map_nil, Nat.zero_add, Nat.reduceAdd, Nat.reduceLT, reduceIte, Nat.lt_irrefl, and_self, and_true, true_and, if_true, if_false, ↓reduceIte, le_line, Nat.reduceLeDiff, Nat.zero_le, bin_add, bin_sub, cmp_lt, cmp_le, cmp_gt, cmp_ge, cmp_eq, cmp_ne, cmp_in, cmp_nin, blt_int, blt_max2, blt_min2, blt_tupl, blt_tupt, met_lst, met_tup, met_scr, met_str, met_int, len_lst, len_tup, len_scr, decide_true, decide_false, Bool.not_true, Bool.not_false, items_tup, items_lst, items_str, wipe_nil, wipe_cons, idx_t0, idx_t1, idx_t2, idx_t3, idx_l0, idx_l1, eq_ss, eq_ii, ne_ss, ne_ii, ne_bb, tru_bl])
local macro_rules | `(tactic| walk_at "go") => `(tactic| simp only [W_ok, W_bad, W_bind, W_opt, W_fin, fin_rt, fin_nx, R.bind_ok, R.bind_bad, R.opt_some, R.opt_none, E_var, E_cst, E_bin, E_neg, E_cmp, E_chn, E_isn, E_and, E_or, E_not, E_tru, E_ife, E_att, E_idx, E_slc, E_tup, E_fz, E_mk, E_call, E_new, E_met, E_blt, E_bmt, E_len, E_str, E_isi, E_frz, E_fst, E_fmt, Eo_no, Eo_yes, Eb_no, Eb_yes, Es_nil, Es_cons, Ej_nil, Ej_cons, EF_lst, EF_cmp, EF_lof, EF_dct, EI_seq, EI_rng, EI_rng2, S_asg, S_par, S_sta, S_sti, S_aug, S_exp, S_mut, S_ret, S_ifs, S_for, S_sup, S_pas, S_con, S_brk, Ss_nil, Ss_cons, bindT_nm, bindT_tp, bindTs_nil, bindTs_cons, layZ_lst, layZ_dct, layM_eq, look_int, look_bl, look_str, look_non, look_tup, look_lst, look_scr, look_dct, look_ins, look_loc, seen_lst, seen_dct, seen_ins, List.getElem?_cons_zero, List.getElem?_cons_succ, List.length_cons, List.length_nil, List.set_cons_zero, List.set_cons_succ, Option.map_some, Option.map_none, Option.bind_some, Option.bind_none, Sc_len, List.map_cons, List.map_nil, Nat.zero_add, Nat.reduceAdd, Nat.reduceLT, reduceIte, Nat.lt_irrefl, and_self, and_true, true_and, if_true, if_false, ↓reduceIte, le_line, Nat.reduceLeDiff, Nat.zero_le, bin_add, bin_sub, cmp_lt, cmp_le, cmp_gt, cmp_ge, cmp_eq, cmp_ne, cmp_in, cmp_nin, blt_int, blt_max2, blt_min2, blt_tupl, blt_tupt, met_lst, met_tup, met_scr, met_str, met_int, len_lst, len_tup, len_scr, decide_true, decide_false, Bool.not_true, Bool.not_false, items_tup, items_lst, items_str, wipe_nil, wipe_cons, idx_t0, idx_t1, idx_t2, idx_t3, idx_l0, idx_l1, eq_ss, eq_ii, ne_ss, ne_ii, ne_bb, tru_bl, w_of_of, w_arg_of, w_got_of, w_arg_at, w_got_at, w_arg_arg, w_got_arg, look_insD, look_tupD, c_does, d_does, w_of_arg, w_of_got, w_got_got, w_arg_got, wordT, signT, prt, if_tt, att_word, att_sign, att_parts, look_insR, look_insL, att_rop, att_rlooks, att_rtarget, att_lix, isi_does, isi_cannot, E_sln, E_sdj, EF_srt, EF_dcm, EI_enm, S_pr3])
/-! what the package counts: the places of arguments and names -/
def argF : Tm → Option Int
  | .arg i => some i
  | _ => none
def ow (ls : List Lk) (n : Str) : Int := match (dsn ls).find? fun p => decide (p.1 = n) with
  | some p => (p.2 : Int)
  | none => 0
def gotF (ls : List Lk) : Tm → Option Int
  | .got n => some (ow ls n)
  | _ => none
theorem ow_at {ls : List Lk} {n : Str} {i : Nat} (hn : ((dsn ls).map (·.1)).Nodup) (h : (n, i) ∈ dsn ls) : ow ls n = (i : Int) := by
  unfold ow
  cases e : (dsn ls).find? fun p => decide (p.1 = n) with
  | none =>
    have := List.find?_eq_none.mp e _ h
    simp at this
  | some p =>
    have h1 := List.mem_of_find?_eq_some e
    have h2 : p.1 = n := by
      have := List.find?_some e
      simpa using this
    show (p.2 : Int) = i
    obtain ⟨j, hj⟩ := List.mem_iff_getElem.mp h1
    obtain ⟨q, hq⟩ := List.mem_iff_getElem.mp h
    obtain ⟨hj1, hj2⟩ := hj
    obtain ⟨hq1, hq2⟩ := hq
    have e2 : j = q := by
      have a1 : ((dsn ls).map (·.1))[j]'(by rw [List.length_map]; exact hj1) = n := by rw [List.getElem_map, hj2, h2]
      have a2 : ((dsn ls).map (·.1))[q]'(by rw [List.length_map]; exact hq1) = n := by rw [List.getElem_map, hq2]
      exact (List.getElem_inj hn).mp (a1.trans a2.symm)
    subst e2
    rw [← hj2, hq2]
def kvL (ls : List Lk) : List (Key × D) := (dsn ls).map fun p => (Sum.inr p.1, D.int (p.2 : Int))
theorem kvL_keys {ls : List Lk} : (kvL ls).map (·.1) = ((dsn ls).map (·.1)).map Sum.inr := by
  unfold kvL
  rw [List.map_map, List.map_map]
  rfl
theorem kvL_nd {ls : List Lk} (h : ((dsn ls).map (·.1)).Nodup) : ((kvL ls).map (·.1)).Nodup := by
  rw [kvL_keys]
  exact nd_inr.mpr h
theorem kvL_at {ls : List Lk} {n : Str} {i : Nat} (hn : ((dsn ls).map (·.1)).Nodup) (h : (n, i) ∈ dsn ls) : valD (kvL ls) (.inr n) = some (.int (ow ls n)) := by
  rw [ow_at hn h]
  exact valD_mem (kvL_nd hn) (List.mem_map.mpr ⟨(n, i), h, rfl⟩)
theorem merge_kvL {ls : List Lk} (h : ((dsn ls).map (·.1)).Nodup) : mergeD [] (kvL ls) = kvL ls := by
  rw [merge_nodup _ [] (by rw [List.nil_append]; exact kvL_nd h), List.nil_append]
theorem pairs_kvL {ls : List Lk} : pairsD ((ls.filter isD).map fun l => D.tup [.str (nmOf l), .int (ixL l : Int)]) = some (kvL ls) := by
  rw [pairs_map (fun l => D.tup [.str (nmOf l), .int (ixL l : Int)]) (fun l => (Sum.inr (nmOf l), D.int (ixL l : Int))) (fun l => rfl)]
  unfold kvL
  rw [← dsn_pairs, List.map_map]
  rfl
def kept (r : Ru) : List Int := (allp r.t).filterMap argF
def fnd (r : Ru) : List Int := kept r ++ (allp r.t).filterMap (gotF r.ls)
def lkd (r : Ru) : List Int := (dsn r.ls).map fun p => (p.2 : Int)
def strB (r : Ru) : Bool := ndB (fnd r)
def plB (r : Ru) : Bool := ndB (lkd r) && ((lkd r).map Sum.inl).all fun k => !hasK k ((kept r).map Sum.inl)
def noC (r : Ru) : Bool := (r.ls.filter fun l => !isD l).isEmpty
theorem fm_int {f : Tm → Option Int} {L : List Tm} : (L.filterMap fun p => (f p).map D.int) = (L.filterMap f).map .int := by
  rw [List.map_filterMap]
theorem kept_len {ops : List (Str × Nat)} (ho : ∀ o ∈ ops, o.2 ≤ 3) {r : Ru} (h : Tg ops 2 r.t) : (kept r).length ≤ 16 :=
  Nat.le_trans (List.length_filterMap_le _ _) (allp_len ho h)
theorem got_len {ops : List (Str × Nat)} (ho : ∀ o ∈ ops, o.2 ≤ 3) {r : Ru} (h : Tg ops 2 r.t) : ((allp r.t).filterMap (gotF r.ls)).length ≤ 16 :=
  Nat.le_trans (List.length_filterMap_le _ _) (allp_len ho h)
theorem nd_eq {xs : List Int} : (((dedK (xs.map Sum.inl)).length : Int) == (xs.length : Int)) = ndB xs := by
  unfold ndB
  rw [Bool.eq_iff_iff, beq_iff_eq, beq_iff_eq]
  omega
theorem ne_insL {k : Nat} (L : List Lk) : neO T (k + 1) (.lst (L.map insL)) (.lst []) = some (!L.isEmpty) := by
  cases L with
  | nil => exact ne_lnil (xs := []) (d := 1) rfl rfl (by omega) (by omega)
  | cons x L =>
    have hp : plainD (.lst ((x :: L).map insL)) = false := by
      rw [List.map_cons]
      show (plainD (insL x) && _) = false
      have : plainD (insL x) = false := by cases x <;> rfl
      rw [this]
      rfl
    unfold neO
    rw [hp]
    simp
theorem in3 {T : Tab} {k : Nat} {w a b c : Str} : inD T (k + 1) (.str w) (.tup [.str a, .str b, .str c]) = some (decide (w ∈ [a, b, c])) := by
  rw [inD_tup (i := 0) (j := 1) rfl rfl (by omega) (by omega) rfl rfl]
  unfold anyD
  simp only [List.any_cons, List.any_nil, Bool.or_false, eqD_ss, decide_eq_true_eq]
  congr 1
  by_cases h1 : w = a <;> by_cases h2 : w = b <;> by_cases h3 : w = c <;> simp [h1, h2, h3, eq_comm]
def hsB (r : Ru) (w : Str) : Bool := (!decide (w ∈ [("plain" : Str), "asks", "looks"]) || strB r) && ((!decide (w ∈ [("plain" : Str), "asks", "copies"]) || noC r) && (!decide (w = ("plain" : Str)) || plB r))

end K05

/-! part K05_p21 -/
set_option Elab.async false
set_option linter.all false
set_option maxRecDepth 100000
set_option maxHeartbeats 4000000
namespace K05
open PySem Rs L2
local macro_rules | `(tactic| walk_at "ev") => `(tactic| simp only [W_ok, W_bad, W_bind, W_opt, W_fin, fin_rt, fin_nx, R.bind_ok, R.bind_bad, R.opt_some, R.opt_none, E_var, E_cst, E_bin, E_neg, E_cmp, E_chn, E_isn, E_and, E_or, E_not, E_tru, E_ife, E_att, E_idx, E_slc, E_tup, E_fz, E_mk, E_call, E_new, E_met, E_blt, E_bmt, E_len, E_str, E_isi, E_frz, E_fst, E_fmt, Eo_no, Eo_yes, Eb_no, Eb_yes, Es_nil, Es_cons, Ej_nil, Ej_cons, EF_lst, EF_cmp, EF_lof, EF_dct, EI_seq, EI_rng, EI_rng2, S_asg, S_par, S_sta, S_sti, S_aug, S_exp, S_mut, S_ret, S_ifs, S_for, S_sup, S_pas, S_con, S_brk, Ss_nil, Ss_cons, bindT_nm, bindT_tp, bindTs_nil, bindTs_cons, layZ_lst, layZ_dct, layM_eq, look_int, look_bl, look_str, look_non, look_tup, look_lst, look_scr, look_dct, look_ins, look_loc, seen_lst, seen_dct, seen_ins, List.getElem?_cons_zero, List.getElem?_cons_succ, List.length_cons, List.length_nil, List.set_cons_zero, List.set_cons_succ, Option.map_some, Option.map_none, Option.bind_some, Option.bind_none, Sc_len, List.map_cons, List.map_nil, Nat.zero_add, Nat.reduceAdd, Nat.reduceLT, reduceIte, Nat.lt_irrefl, and_self, and_true, true_and, if_true, if_false, ↓reduceIte, le_line, Nat.reduceLeDiff, Nat.zero_le, bin_add, bin_sub, cmp_lt, cmp_le, cmp_gt, cmp_ge, cmp_eq, cmp_ne, cmp_in, cmp_nin, blt_int, blt_max2, blt_min2, blt_tupl, blt_tupt, met_lst, met_tup, met_scr, met_str, met_int, len_lst, len_tup, len_scr, decide_true, decide_false, Bool.not_true, Bool.not_false, items_tup, items_lst, items_str, wipe_nil, wipe_cons, idx_t0, idx_t1, idx_t2, idx_t3, idx_l0, idx_l1, eq_ss, eq_ii, ne_ss, ne_ii, ne_bb, tru_bl])
local macro_rules | `(tactic| walk_at "go") => `(tactic| simp only [W_ok, W_bad, W_bind, W_opt, W_fin, fin_rt, fin_nx, R.bind_ok, R.bind_bad, R.opt_some, R.opt_none, E_var, E_cst, E_bin, E_neg, E_cmp, E_chn, E_isn, E_and, E_or, E_not, E_tru, E_ife, E_att, E_idx, E_slc, E_tup, E_fz, E_mk, E_call, E_new, E_met, E_blt, E_bmt, E_len, E_str, E_isi, E_frz, E_fst, E_fmt, Eo_no, Eo_yes, Eb_no, Eb_yes, Es_nil, Es_cons, Ej_nil, Ej_cons, EF_lst, EF_cmp, EF_lof, EF_dct, EI_seq, EI_rng, EI_rng2, S_asg, S_par, S_sta, S_sti, S_aug, S_exp, S_mut, S_ret, S_ifs, S_for, S_sup, S_pas, S_con, S_brk, Ss_nil, Ss_cons, bindT_nm, bindT_tp, bindTs_nil, bindTs_cons, layZ_lst, layZ_dct, layM_eq, look_int, look_bl, look_str, look_non, look_tup, look_lst, look_scr, look_dct, look_ins, look_loc, seen_lst, seen_dct, seen_ins, List.getElem?_cons_zero, List.getElem?_cons_succ, List.length_cons, List.length_nil, List.set_cons_zero, List.set_cons_succ, Option.map_some, Option.map_none, Option.bind_some, Option.bind_none, Sc_len, List.map_cons, List.map_nil, Nat.zero_add, Nat.reduceAdd, Nat.reduceLT, reduceIte, Nat.lt_irrefl, and_self, and_true, true_and, if_true, if_false, ↓reduceIte, le_line, Nat.reduceLeDiff, Nat.zero_le, bin_add, bin_sub, cmp_lt, cmp_le, cmp_gt, cmp_ge, cmp_eq, cmp_ne, cmp_in, cmp_nin, blt_int, blt_max2, blt_min2, blt_tupl, blt_tupt, met_lst, met_tup, met_scr, met_str, met_int, len_lst, len_tup, len_scr, decide_true, decide_false, Bool.not_true, Bool.not_false, items_tup, items_lst, items_str, wipe_nil, wipe_cons, idx_t0, idx_t1, idx_t2, idx_t3, idx_l0, idx_l1, eq_ss, eq_ii, ne_ss, ne_ii, ne_bb, tru_bl, w_of_of, w_arg_of, w_got_of, w_arg_at, w_got_at, w_arg_arg, w_got_arg, look_insD, look_tupD, c_does, d_does, w_of_arg, w_of_got, w_got_got, w_arg_got, wordT, signT, prt, if_tt, att_word, att_sign, att_parts, look_insR, look_insL, att_rop, att_rlooks, att_rtarget, att_lix, isi_does, isi_cannot, E_sln, E_sdj, EF_srt, EF_dcm, EI_enm, S_pr3])
theorem got_ok {ops : List (Str × Nat)} {s w : Str} {r : Ru} (hr : RuOk ops s w r) : ((dsn r.ls).map (·.1)).Nodup ∧ ∀ x, Tm.got x ∈ allp r.t → ∃ i, (x, i) ∈ dsn r.ls := by
  obtain ⟨a, ha, hk, hlv⟩ := hr.ok
  refine ⟨dsn_nd hk, fun x hx => ?_⟩
  have h1 : Tm.got x ∈ lv r.t := allp_ok hr.tg _ hx
  rcases hlv _ h1 with ⟨j, hj, e⟩ | ⟨i, l, y, hm, e⟩
  · cases e
  · cases e
    exact ⟨i, mem_dsn.mpr ⟨l, hm⟩⟩
theorem is_plain (k : Nat) (m : Mu) (ops : List (Str × Nat)) (ho : ∀ o ∈ ops, o.2 ≤ 3) (s w : Str) (r : Ru) (hr : RuOk ops s w r) : W (run T F (k + 6) 7 [insR r] m) (fun v m' => v = .bl (plB r) ∧ Ex m m') := by
  have hl4 := hr.len
  have hkl := kept_len ho hr.tg
  rw [r7]
  unfold b7
  (try walk_at "go")
  refine W_eqm (does_of (k + 4) m r hl4) ?_
  (try walk_at "go")
  rw [List.length_map]
  refine W_mapL (r.ls.filter isD) insL (fun l => .int (ixL l : Int)) (fun m' => m' = m) rfl (fun l hl m2 hm2 => ?_) fun m2 hm2 => ?_
  · subst hm2
    (try walk_at "go")
    first | done | rfl | exact ⟨rfl, rfl⟩
  subst hm2
  (try walk_at "go")
  rw [List.length_map, if_pos (lineLe (by have := List.length_filter_le isD r.ls; omega))]
  (try walk_at "go")
  have en : ((r.ls.filter isD).map fun l => D.int (ixL l : Int)) = (lkd r).map .int := by
    unfold lkd
    rw [List.map_map, show (D.int ∘ fun p : Str × Nat => (p.2 : Int)) = (fun j : Nat => D.int (j : Int)) ∘ (·.2) from rfl, ← List.map_map, ← dsn_ixs, List.map_map]
    rfl
  have hll : (lkd r).length ≤ 4 := by unfold lkd; rw [List.length_map]; have := dsn_len r.ls; omega
  simp only [en]
  refine W_mono (parts2 ops ho r.t (k + 1) _ hr.tg) fun v m4 ⟨e, he⟩ => ?_
  subst e
  (try walk_at "go")
  rw [List.length_map]
  refine W_mapF (allp r.t) insD (fun p => (argF p).map D.int) (fun m' => m' = m4) rfl (fun p hp m5 hm5 => ?_) fun m5 hm5 => ?_
  · subst hm5
    (try walk_at "go")
    cases p <;> (try walk_at "go") <;> first | done | rfl | exact ⟨rfl, rfl⟩
  subst hm5
  (try walk_at "go")
  simp only [fm_int]
  rw [show (allp r.t).filterMap argF = kept r from rfl, List.length_map, if_pos (lineLe (by omega))]
  (try walk_at "go")
  rw [sln_ints (by omega)]
  (try walk_at "go")
  rw [List.length_map, nd_eq]
  (try walk_at "go")
  cases hB : ndB (lkd r) with
  | false =>
    (try walk_at "go")
    refine ⟨?_, he⟩
    unfold plB
    rw [hB]
    rfl
  | true =>
    (try walk_at "go")
    rw [ks_ints (by omega)]
    (try walk_at "go")
    rw [ks_ints (by omega)]
    (try walk_at "go")
    refine ⟨?_, he⟩
    unfold plB
    rw [hB]
    rfl
theorem is_straight (k : Nat) (m : Mu) (ops : List (Str × Nat)) (ho : ∀ o ∈ ops, o.2 ≤ 3) (s w : Str) (r : Ru) (hr : RuOk ops s w r) : W (run T F (k + 6) 6 [insR r] m) (fun v m' => v = .bl (strB r) ∧ Ex m m') := by
  have hl4 := hr.len
  have hkl := kept_len ho hr.tg
  have hgl := got_len ho hr.tg
  obtain ⟨hnd, hgo⟩ := got_ok hr
  rw [r6]
  unfold b6
  (try walk_at "go")
  refine W_eqm (does_of (k + 4) m r hl4) ?_
  (try walk_at "go")
  rw [List.length_map]
  refine W_mapL (r.ls.filter isD) insL (fun l => .tup [.str (nmOf l), .int (ixL l : Int)]) (fun m' => m' = m) rfl (fun l hl m2 hm2 => ?_) fun m2 hm2 => ?_
  · subst hm2
    (try walk_at "go")
    rw [att_lname (List.mem_filter.mp hl).2]
    (try walk_at "go")
    first | done | rfl | exact ⟨rfl, rfl⟩
  subst hm2
  (try walk_at "go")
  rw [List.length_map, if_pos (lineLe (by have := List.length_filter_le isD r.ls; omega)), pairs_kvL]
  (try walk_at "go")
  rw [merge_kvL hnd]
  (try walk_at "go")
  refine W_mono (parts2 ops ho r.t (k + 1) _ hr.tg) fun v m4 ⟨e, he⟩ => ?_
  subst e
  (try walk_at "go")
  rw [List.length_map]
  refine W_mapF (allp r.t) insD (fun p => (argF p).map D.int) (fun m' => m' = m4) rfl (fun p hp m5 hm5 => ?_) fun m5 hm5 => ?_
  · subst hm5
    (try walk_at "go")
    cases p <;> (try walk_at "go") <;> first | done | rfl | exact ⟨rfl, rfl⟩
  subst hm5
  (try walk_at "go")
  simp only [fm_int]
  rw [show (allp r.t).filterMap argF = kept r from rfl, List.length_map, if_pos (lineLe (by omega))]
  (try walk_at "go")
  have hat : At (m5 ++ [MO.lst ((kept r).map D.int)]) m5.length ((kept r).map D.int) := At.new
  rw [hat.lst]
  (try walk_at "go")
  refine W_mapF (allp r.t) insD (fun p => (gotF r.ls p).map D.int) (fun m' => m' = m5 ++ [MO.lst ((kept r).map D.int)]) rfl (fun p hp m6 hm6 => ?_) fun m6 hm6 => ?_
  · (try walk_at "go")
    cases p with
    | arg i =>
      (try walk_at "go")
      first | done | exact hm6 | exact ⟨rfl, hm6⟩
    | of x ps =>
      (try walk_at "go")
      first | done | exact hm6 | exact ⟨rfl, hm6⟩
    | got x =>
      (try walk_at "go")
      obtain ⟨i, hi⟩ := hgo x hp
      rw [idx_dct, kvL_at hnd hi]
      (try walk_at "go")
      first | done | exact hm6 | exact ⟨rfl, hm6⟩
  subst hm6
  (try walk_at "go")
  simp only [fm_int]
  rw [List.length_map, if_pos (lineLe (by omega))]
  (try walk_at "go")
  rw [hat.ext look_lst (by rw [List.length_map, List.length_map]; omega)]
  (try walk_at "go")
  have e1 : (kept r).map D.int ++ ((allp r.t).filterMap (gotF r.ls)).map D.int = (fnd r).map .int := by
    unfold fnd
    rw [List.map_append]
  have hfl : (fnd r).length ≤ 32 := by unfold fnd; rw [List.length_append]; omega
  have hat2 := hat.set (es := (fnd r).map .int)
  rw [← e1] at hat2
  rw [e1] at hat2 ⊢
  rw [show seen _ m5.length = _ from (look_loc).symm.trans hat2.look, sln_ints (by omega)]
  (try walk_at "go")
  rw [hat2.met]
  (try walk_at "go")
  rw [List.length_map, nd_eq]
  exact ⟨rfl, he.trans (Ex_set Ex.app (Nat.le_refl _))⟩
theorem shape2 (k : Nat) (m : Mu) (ops : List (Str × Nat)) (ho : ∀ o ∈ ops, o.2 ≤ 3) (s w : Str) (r : Ru) (hr : RuOk ops s w r) (x : Str) : W (Ss T (k + 6) (run T F (k + 6)) b8q1 [some (insR r), some (.str x)] m) (fun fl m' => fl = .rt (.bl ((!decide (x ∈ [("plain" : Str), "asks", "copies"]) || noC r) && (!decide (x = ("plain" : Str)) || plB r))) ∧ Ex m m') := by
  have hl4 := hr.len
  have tail : ∀ m1, Ex m m1 → W (Ss T (k + 6) (run T F (k + 6)) b8q2 [some (insR r), some (.str x)] m1) (fun fl m' => fl = .rt (.bl (!decide (x = ("plain" : Str)) || plB r)) ∧ Ex m m') := fun m1 h1 => by
    rw [b8c2, b8n]
    (try walk_at "go")
    cases hx : decide (x = ("plain" : Str)) with
    | false =>
      (try walk_at "go")
      first | exact h1 | exact ⟨rfl, h1⟩
    | true =>
      (try walk_at "go")
      refine W_mono (is_plain k m1 ops ho s w r hr) fun v m2 ⟨e, h2⟩ => ?_
      subst e
      (try walk_at "go")
      first | exact h1.trans h2 | exact ⟨rfl, h1.trans h2⟩
  rw [b8c1]
  (try walk_at "go")
  rw [in3]
  (try walk_at "go")
  cases hx : decide (x ∈ [("plain" : Str), "asks", "copies"]) with
  | false =>
    (try walk_at "go")
    refine W_mono (tail m Ex.rfl') fun fl m2 ⟨e, h2⟩ => ?_
    subst e
    exact ⟨rfl, h2⟩
  | true =>
    (try walk_at "go")
    refine W_eqm (cannots_of (k + 5) m r hl4) ?_
    (try walk_at "go")
    rw [show neO T (k + 6) _ _ = _ from ne_insL (k := k + 5) (r.ls.filter fun l => !isD l)]
    (try walk_at "go")
    have hn : (r.ls.filter fun l => !isD l).isEmpty = noC r := rfl
    rw [hn]
    cases hc : noC r with
    | false =>
      (try walk_at "go")
      first | exact Ex.rfl' | exact ⟨rfl, Ex.rfl'⟩
    | true =>
      (try walk_at "go")
      refine W_mono (tail m Ex.rfl') fun fl m2 ⟨e, h2⟩ => ?_
      subst e
      exact ⟨rfl, h2⟩
theorem has_shape (k : Nat) (m : Mu) (ops : List (Str × Nat)) (ho : ∀ o ∈ ops, o.2 ≤ 3) (s w : Str) (r : Ru) (hr : RuOk ops s w r) (x : Str) : W (run T F (k + 7) 8 [insR r, .str x] m) (fun v m' => v = .bl (hsB r x) ∧ Ex m m') := by
  rw [r8, b8e, b8c0]
  (try walk_at "go")
  rw [in3]
  (try walk_at "go")
  unfold hsB
  cases hx : decide (x ∈ [("plain" : Str), "asks", "looks"]) with
  | false =>
    (try walk_at "go")
    refine W_mono (shape2 k m ops ho s w r hr x) fun fl m2 ⟨e, h2⟩ => ?_
    subst e
    exact ⟨rfl, h2⟩
  | true =>
    (try walk_at "go")
    refine W_mono (is_straight k m ops ho s w r hr) fun v m2 ⟨e, h1⟩ => ?_
    subst e
    (try walk_at "go")
    cases hc : strB r with
    | false =>
      (try walk_at "go")
      first | exact h1 | exact ⟨rfl, h1⟩
    | true =>
      (try walk_at "go")
      refine W_mono (shape2 k m2 ops ho s w r hr x) fun fl m3 ⟨e, h2⟩ => ?_
      subst e
      exact ⟨rfl, h1.trans h2⟩

end K05

/-! part K05_p22 -/
set_option Elab.async false
set_option linter.all false
set_option maxRecDepth 100000
set_option maxHeartbeats 4000000
namespace K05
open PySem Rs L2
local macro_rules | `(tactic| walk_at "ev") => `(tactic| simp only [W_ok, W_bad, W_bind, W_opt, W_fin, fin_rt, fin_nx, R.bind_ok, R.bind_bad, R.opt_some, R.opt_none, E_var, E_cst, E_bin, E_neg, E_cmp, E_chn, E_isn, E_and, E_or, E_not, E_tru, E_ife, E_att, E_idx, E_slc, E_tup, E_fz, E_mk, E_call, E_new, E_met, E_blt, E_bmt, E_len, E_str, E_isi, E_frz, E_fst, E_fmt, Eo_no, Eo_yes, Eb_no, Eb_yes, Es_nil, Es_cons, Ej_nil, Ej_cons, EF_lst, EF_cmp, EF_lof, EF_dct, EI_seq, EI_rng, EI_rng2, S_asg, S_par, S_sta, S_sti, S_aug, S_exp, S_mut, S_ret, S_ifs, S_for, S_sup, S_pas, S_con, S_brk, Ss_nil, Ss_cons, bindT_nm, bindT_tp, bindTs_nil, bindTs_cons, layZ_lst, layZ_dct, layM_eq, look_int, look_bl, look_str, look_non, look_tup, look_lst, look_scr, look_dct, look_ins, look_loc, seen_lst, seen_dct, seen_ins, List.getElem?_cons_zero, List.getElem?_cons_succ, List.length_cons, List.length_nil, List.set_cons_zero, List.set_cons_succ, Option.map_some, Option.map_none, Option.bind_some, Option.bind_none, Sc_len, List.map_cons, List.map_nil, Nat.zero_add, Nat.reduceAdd, Nat.reduceLT, reduceIte, Nat.lt_irrefl, and_self, and_true, true_and, if_true, if_false, ↓reduceIte, le_line, Nat.reduceLeDiff, Nat.zero_le, bin_add, bin_sub, cmp_lt, cmp_le, cmp_gt, cmp_ge, cmp_eq, cmp_ne, cmp_in, cmp_nin, blt_int, blt_max2, blt_min2, blt_tupl, blt_tupt, met_lst, met_tup, met_scr, met_str, met_int, len_lst, len_tup, len_scr, decide_true, decide_false, Bool.not_true, Bool.not_false, items_tup, items_lst, items_str, wipe_nil, wipe_cons, idx_t0, idx_t1, idx_t2, idx_t3, idx_l0, idx_l1, eq_ss, eq_ii, ne_ss, ne_ii, ne_bb, tru_bl])
local macro_rules | `(tactic| walk_at "go") => `(tactic| simp only [W_ok, W_bad, W_bind, W_opt, W_fin, fin_rt, fin_nx, R.bind_ok, R.bind_bad, R.opt_some, R.opt_none, E_var, E_cst, E_bin, E_neg, E_cmp, E_chn, E_isn, E_and, E_or, E_not, E_tru, E_ife, E_att, E_idx, E_slc, E_tup, E_fz, E_mk, E_call, E_new, E_met, E_blt, E_bmt, E_len, E_str, E_isi, E_frz, E_fst, E_fmt, Eo_no, Eo_yes, Eb_no, Eb_yes, Es_nil, Es_cons, Ej_nil, Ej_cons, EF_lst, EF_cmp, EF_lof, EF_dct, EI_seq, EI_rng, EI_rng2, S_asg, S_par, S_sta, S_sti, S_aug, S_exp, S_mut, S_ret, S_ifs, S_for, S_sup, S_pas, S_con, S_brk, Ss_nil, Ss_cons, bindT_nm, bindT_tp, bindTs_nil, bindTs_cons, layZ_lst, layZ_dct, layM_eq, look_int, look_bl, look_str, look_non, look_tup, look_lst, look_scr, look_dct, look_ins, look_loc, seen_lst, seen_dct, seen_ins, List.getElem?_cons_zero, List.getElem?_cons_succ, List.length_cons, List.length_nil, List.set_cons_zero, List.set_cons_succ, Option.map_some, Option.map_none, Option.bind_some, Option.bind_none, Sc_len, List.map_cons, List.map_nil, Nat.zero_add, Nat.reduceAdd, Nat.reduceLT, reduceIte, Nat.lt_irrefl, and_self, and_true, true_and, if_true, if_false, ↓reduceIte, le_line, Nat.reduceLeDiff, Nat.zero_le, bin_add, bin_sub, cmp_lt, cmp_le, cmp_gt, cmp_ge, cmp_eq, cmp_ne, cmp_in, cmp_nin, blt_int, blt_max2, blt_min2, blt_tupl, blt_tupt, met_lst, met_tup, met_scr, met_str, met_int, len_lst, len_tup, len_scr, decide_true, decide_false, Bool.not_true, Bool.not_false, items_tup, items_lst, items_str, wipe_nil, wipe_cons, idx_t0, idx_t1, idx_t2, idx_t3, idx_l0, idx_l1, eq_ss, eq_ii, ne_ss, ne_ii, ne_bb, tru_bl, w_of_of, w_arg_of, w_got_of, w_arg_at, w_got_at, w_arg_arg, w_got_arg, look_insD, look_tupD, c_does, d_does, w_of_arg, w_of_got, w_got_got, w_arg_got, wordT, signT, prt, if_tt, att_word, att_sign, att_parts, look_insR, look_insL, att_rop, att_rlooks, att_rtarget, att_lix, isi_does, isi_cannot, E_sln, E_sdj, EF_srt, EF_dcm, EI_enm, S_pr3])
def shapesL : List Str := ["plain", "asks", "looks", "copies", "all"]
def bkB (rs : List Ru) (x : Str) : Bool := rs.all fun r => hsB r x
theorem att_brules {m : Mu} {ops : List (Str × Nat)} {rs : List Ru} : attD T m (bookD ops rs) 14 = some (.tup (rs.map insR)) := rfl
theorem met_bshape {m : Mu} {ops : List (Str × Nat)} {rs : List Ru} : metD T m (bookD ops rs) 9 = some 34 := by
  unfold metD bookD
  rw [look_ins]
  rfl
theorem met_bnarrow {m : Mu} {ops : List (Str × Nat)} {rs : List Ru} : metD T m (bookD ops rs) 10 = some 35 := by
  unfold metD bookD
  rw [look_ins]
  rfl
theorem look_book {m : Mu} {ops : List (Str × Nat)} {rs : List Ru} : look m (bookD ops rs) = bookD ops rs := rfl
theorem book_shape (k : Nat) (m : Mu) (ops : List (Str × Nat)) (ho : ∀ o ∈ ops, o.2 ≤ 3) (s : Str) (rs : List Ru) (hl : rs.length ≤ 100) (hrs : ∀ r ∈ rs, ∃ w, RuOk ops s w r) (x : Str) : W (run T F (k + 8) 34 [bookD ops rs, .str x] m) (fun v m' => v = .bl (bkB rs x) ∧ Ex m m') := by
  rw [r34]
  unfold b34
  (try walk_at "go")
  rw [att_brules]
  (try walk_at "go")
  rw [List.length_map]
  refine W_mapL rs insR (fun r => .bl (hsB r x)) (fun m' => Ex m m') Ex.rfl' (fun r hr m2 hm2 => ?_) fun m2 hm2 => ?_
  · obtain ⟨w, hw⟩ := hrs r hr
    (try walk_at "go")
    refine W_mono (has_shape k m2 ops ho s w r hw x) fun v m3 ⟨e, h3⟩ => ?_
    subst e
    (try walk_at "go")
    first | exact hm2.trans h3 | exact ⟨rfl, hm2.trans h3⟩
  (try walk_at "go")
  rw [List.length_map, if_pos (lineLe (by omega))]
  (try walk_at "go")
  rw [blt_allF]
  (try walk_at "go")
  first | exact hm2 | exact ⟨rfl, hm2⟩
def bkL (rs : List Ru) : List Str := shapesL.filter (bkB rs)
theorem hs_all {r : Ru} : hsB r "all" = true := by
  unfold hsB
  rw [show decide ((("all" : String) : Str) ∈ [("plain" : Str), "asks", "looks"]) = false by decide +kernel, show decide ((("all" : String) : Str) ∈ [("plain" : Str), "asks", "copies"]) = false by decide +kernel, show decide ((("all" : String) : Str) = ("plain" : Str)) = false by decide +kernel]
  rfl
theorem bkL_ne (rs : List Ru) : ∃ x xs, bkL rs = x :: xs := by
  have : (("all" : String) : Str) ∈ bkL rs := List.mem_filter.mpr ⟨by decide +kernel, List.all_eq_true.mpr fun r _ => hs_all⟩
  cases h : bkL rs with
  | nil => rw [h] at this; cases this
  | cons x xs => exact ⟨x, xs, rfl⟩
def nar (rs : List Ru) : Str := (bkL rs).headD "all"
theorem shapesL_is : shapesL.map D.str = [.str "plain", .str "asks", .str "looks", .str "copies", .str "all"] := rfl
theorem narrowest (k : Nat) (m : Mu) (ops : List (Str × Nat)) (ho : ∀ o ∈ ops, o.2 ≤ 3) (s : Str) (rs : List Ru) (hl : rs.length ≤ 100) (hrs : ∀ r ∈ rs, ∃ w, RuOk ops s w r) : W (run T F (k + 9) 35 [bookD ops rs] m) (fun v m' => v = .str (nar rs) ∧ Ex m m') := by
  rw [r35]
  unfold b35
  (try walk_at "go")
  rw [← shapesL_is]
  refine W_filt shapesL D.str (bkB rs) (fun m' => Ex m m') Ex.rfl' (fun x hx m2 hm2 => ?_) (fun m2 hm2 => ?_) rfl
  · (try walk_at "go")
    rw [met_bshape]
    (try walk_at "go")
    refine W_mono (book_shape k m2 ops ho s rs hl hrs x) fun v m3 ⟨e, h3⟩ => ?_
    subst e
    (try walk_at "go")
    cases bkB rs x <;> (try walk_at "go") <;> first | exact hm2.trans h3 | exact ⟨rfl, hm2.trans h3⟩
  obtain ⟨x, xs, hb⟩ := bkL_ne rs
  have hn : nar rs = x := by unfold nar; rw [hb]; rfl
  rw [show shapesL.filter (bkB rs) = x :: xs from hb, hn]
  (try walk_at "go")
  have hxl : (List.map D.str (x :: xs)).length ≤ 5 := by rw [← hb, List.length_map]; exact Nat.le_trans (List.length_filter_le _ _) (Nat.le_refl 5)
  rw [List.map_cons, List.length_cons] at hxl
  rw [if_pos (lineLe (by omega))]
  (try walk_at "go")
  first | exact hm2 | exact ⟨rfl, hm2⟩
theorem made_book (k : Nat) (m : Mu) (ops : List (Str × Nat)) (n : Nat) (hops : OpsN ops n) (s : Str) (rs : List Ru) (hl : rs.length ≤ 100) (hrs : ∀ r ∈ rs, ∃ w, RuOk ops s w r) : W (run T F (k + 10) 21 [.tup [.lst (ops.map opD), .lst (rs.map ruD)]] m) (fun v m' => v = bookD ops rs ∧ Ex m m') := by
  rw [r21]
  unfold b21
  (try walk_at "go")
  rw [EF_dtp]
  (try walk_at "go")
  rw [pairs_kvO]
  (try walk_at "go")
  rw [merge_kvO hops]
  (try walk_at "go")
  rw [List.length_map]
  refine W_mapL rs ruD insR (fun m' => Ex m m') Ex.rfl' (fun r hr m2 hm2 => ?_) fun m2 hm2 => ?_
  · obtain ⟨w, hw⟩ := hrs r hr
    (try walk_at "go")
    refine W_mono (made_rule k m2 ops hops.ar r hw.len hw.tg) fun v m3 ⟨e, h3⟩ => ?_
    subst e
    (try walk_at "go")
    first | exact hm2.trans h3 | exact ⟨rfl, hm2.trans h3⟩
  (try walk_at "go")
  rw [List.length_map, if_pos (lineLe (by omega))]
  (try walk_at "go")
  refine W_mono (new_book (k + 1) m2 ops n s hops rs hrs) fun v m3 ⟨e, h3⟩ => ?_
  subst e
  (try walk_at "go")
  first | exact hm2.trans h3 | exact ⟨rfl, hm2.trans h3⟩

end K05

/-! part K05_p23 -/
set_option Elab.async false
set_option linter.all false
set_option maxRecDepth 100000
set_option maxHeartbeats 4000000
namespace K05
open PySem Rs L2
local macro_rules | `(tactic| walk_at "ev") => `(tactic| simp only [W_ok, W_bad, W_bind, W_opt, W_fin, fin_rt, fin_nx, R.bind_ok, R.bind_bad, R.opt_some, R.opt_none, E_var, E_cst, E_bin, E_neg, E_cmp, E_chn, E_isn, E_and, E_or, E_not, E_tru, E_ife, E_att, E_idx, E_slc, E_tup, E_fz, E_mk, E_call, E_new, E_met, E_blt, E_bmt, E_len, E_str, E_isi, E_frz, E_fst, E_fmt, Eo_no, Eo_yes, Eb_no, Eb_yes, Es_nil, Es_cons, Ej_nil, Ej_cons, EF_lst, EF_cmp, EF_lof, EF_dct, EI_seq, EI_rng, EI_rng2, S_asg, S_par, S_sta, S_sti, S_aug, S_exp, S_mut, S_ret, S_ifs, S_for, S_sup, S_pas, S_con, S_brk, Ss_nil, Ss_cons, bindT_nm, bindT_tp, bindTs_nil, bindTs_cons, layZ_lst, layZ_dct, layM_eq, look_int, look_bl, look_str, look_non, look_tup, look_lst, look_scr, look_dct, look_ins, look_loc, seen_lst, seen_dct, seen_ins, List.getElem?_cons_zero, List.getElem?_cons_succ, List.length_cons, List.length_nil, List.set_cons_zero, List.set_cons_succ, Option.map_some, Option.map_none, Option.bind_some, Option.bind_none, Sc_len, List.map_cons, List.map_nil, Nat.zero_add, Nat.reduceAdd, Nat.reduceLT, reduceIte, Nat.lt_irrefl, and_self, and_true, true_and, if_true, if_false, ↓reduceIte, le_line, Nat.reduceLeDiff, Nat.zero_le, bin_add, bin_sub, cmp_lt, cmp_le, cmp_gt, cmp_ge, cmp_eq, cmp_ne, cmp_in, cmp_nin, blt_int, blt_max2, blt_min2, blt_tupl, blt_tupt, met_lst, met_tup, met_scr, met_str, met_int, len_lst, len_tup, len_scr, decide_true, decide_false, Bool.not_true, Bool.not_false, items_tup, items_lst, items_str, wipe_nil, wipe_cons, idx_t0, idx_t1, idx_t2, idx_t3, idx_l0, idx_l1, eq_ss, eq_ii, ne_ss, ne_ii, ne_bb, tru_bl])
local macro_rules | `(tactic| walk_at "go") => `(tactic| simp only [W_ok, W_bad, W_bind, W_opt, W_fin, fin_rt, fin_nx, R.bind_ok, R.bind_bad, R.opt_some, R.opt_none, E_var, E_cst, E_bin, E_neg, E_cmp, E_chn, E_isn, E_and, E_or, E_not, E_tru, E_ife, E_att, E_idx, E_slc, E_tup, E_fz, E_mk, E_call, E_new, E_met, E_blt, E_bmt, E_len, E_str, E_isi, E_frz, E_fst, E_fmt, Eo_no, Eo_yes, Eb_no, Eb_yes, Es_nil, Es_cons, Ej_nil, Ej_cons, EF_lst, EF_cmp, EF_lof, EF_dct, EI_seq, EI_rng, EI_rng2, S_asg, S_par, S_sta, S_sti, S_aug, S_exp, S_mut, S_ret, S_ifs, S_for, S_sup, S_pas, S_con, S_brk, Ss_nil, Ss_cons, bindT_nm, bindT_tp, bindTs_nil, bindTs_cons, layZ_lst, layZ_dct, layM_eq, look_int, look_bl, look_str, look_non, look_tup, look_lst, look_scr, look_dct, look_ins, look_loc, seen_lst, seen_dct, seen_ins, List.getElem?_cons_zero, List.getElem?_cons_succ, List.length_cons, List.length_nil, List.set_cons_zero, List.set_cons_succ, Option.map_some, Option.map_none, Option.bind_some, Option.bind_none, Sc_len, List.map_cons, List.map_nil, Nat.zero_add, Nat.reduceAdd, Nat.reduceLT, reduceIte, Nat.lt_irrefl, and_self, and_true, true_and, if_true, if_false, ↓reduceIte, le_line, Nat.reduceLeDiff, Nat.zero_le, bin_add, bin_sub, cmp_lt, cmp_le, cmp_gt, cmp_ge, cmp_eq, cmp_ne, cmp_in, cmp_nin, blt_int, blt_max2, blt_min2, blt_tupl, blt_tupt, met_lst, met_tup, met_scr, met_str, met_int, len_lst, len_tup, len_scr, decide_true, decide_false, Bool.not_true, Bool.not_false, items_tup, items_lst, items_str, wipe_nil, wipe_cons, idx_t0, idx_t1, idx_t2, idx_t3, idx_l0, idx_l1, eq_ss, eq_ii, ne_ss, ne_ii, ne_bb, tru_bl, w_of_of, w_arg_of, w_got_of, w_arg_at, w_got_at, w_arg_arg, w_got_arg, look_insD, look_tupD, c_does, d_does, w_of_arg, w_of_got, w_got_got, w_arg_got, wordT, signT, prt, if_tt, att_word, att_sign, att_parts, look_insR, look_insL, att_rop, att_rlooks, att_rtarget, att_lix, isi_does, isi_cannot, E_sln, E_sdj, EF_srt, EF_dcm, EI_enm, S_pr3])
theorem lv_flat {s : Str} {ps : List Tm} : lv (.of s ps) = ps.flatMap lv := by rw [lv_of, lvs_map, List.flatMap_def]
theorem lv_len {ops : List (Str × Nat)} (ho : ∀ o ∈ ops, o.2 ≤ 3) {n : Nat} {t : Tm} (h : Tg ops n t) : (lv t).length ≤ 4 ^ n := by
  rw [lv_allp]
  exact Nat.le_trans (List.length_filter_le _ _) (allp_len ho h)
theorem leaves (ops : List (Str × Nat)) (ho : ∀ o ∈ ops, o.2 ≤ 3) (n : Nat) : ∀ (t : Tm) (k : Nat) (m : Mu), Tg ops n t → n ≤ 4 → W (run T F (n + k + 2) 22 [tupD t] m) (fun v m' => v = .lst ((lv t).map tupD) ∧ m' = m) := by
  have leaf : ∀ (t : Tm) (k : Nat) (m : Mu), (∀ s ps, t ≠ .of s ps) → W (run T F (k + 1) 22 [tupD t] m) (fun v m' => v = .lst ((lv t).map tupD) ∧ m' = m) := by
    intro t k m h
    rw [r22]
    unfold b22
    cases t with
    | arg i =>
      rw [show lv (.arg i) = [.arg i] by rw [lv], List.map_singleton, tup_arg]
      (try walk_at "go")
    | got i =>
      rw [show lv (.got i) = [.got i] by rw [lv], List.map_singleton, tup_got]
      (try walk_at "go")
    | of s ps => exact absurd rfl (h s ps)
  induction n with
  | zero =>
    intro t k m h hn
    cases t with
    | arg i => exact leaf (.arg i) (0 + k + 1) m (fun s ps e => by cases e)
    | got i => exact leaf (.got i) (0 + k + 1) m (fun s ps e => by cases e)
    | of s ps =>
      have := h.zero
      subst this
      rw [show 0 + k + 2 = (k + 1) + 1 by omega, r22]
      unfold b22
      rw [tup_of, lv_flat]
      (try walk_at "go")
      refine W_for (fun i r m' => r = [some (.tup [.str "of", .str s, .tup []]), some (.lst []), none] ∧ m' = m) ⟨rfl, rfl⟩ (fun i x r m' hx _ => by cases hx) fun r m' ⟨e1, e2⟩ => ?_
      subst e1 e2
      (try walk_at "go")
      first | done | rfl | exact ⟨rfl, rfl⟩
  | succ n ih =>
    intro t k m h hn
    cases t with
    | arg i => exact leaf (.arg i) (n + 1 + k + 1) m (fun s ps e => by cases e)
    | got i => exact leaf (.got i) (n + 1 + k + 1) m (fun s ps e => by cases e)
    | of s ps =>
      have hl := h.len ho
      rw [show n + 1 + k + 2 = (n + k + 2) + 1 by omega, r22]
      unfold b22
      rw [tup_of, lv_flat]
      (try walk_at "go")
      refine W_forF (f0 := tupD) (ps := ps) (fun i r m' => (∃ o, r = [some (.tup [.str "of", .str s, .tup (ps.map tupD)]), some (.lst (((ps.take i).flatMap lv).map tupD)), o]) ∧ m' = m) ⟨⟨none, rfl⟩, rfl⟩ (fun i p r m' hp ⟨⟨o, e1⟩, e2⟩ => ?_) fun r m' ⟨⟨o, e1⟩, e2⟩ => ?_
      · subst e1 e2
        have hpm := List.mem_of_getElem? hp
        (try walk_at "go")
        refine W_mono (ih p k m' (h.parts p hpm) (by omega)) fun v m2 ⟨ev, he⟩ => ?_
        subst ev he
        (try walk_at "go")
        have a1 := lv_len ho (h.parts p hpm)
        have a2 : ((ps.take i).flatMap lv).length ≤ (ps.take i).length * 4 ^ n := by
          have : ∀ (qs : List Tm), (∀ q ∈ qs, Tg ops n q) → (qs.flatMap lv).length ≤ qs.length * 4 ^ n := by
            intro qs hq
            induction qs with
            | nil => simp
            | cons q qs ihq =>
              rw [List.flatMap_cons, List.length_append, List.length_cons, Nat.succ_mul]
              have := ihq fun q' hq' => hq q' (List.mem_cons_of_mem _ hq')
              have := lv_len ho (hq q List.mem_cons_self)
              omega
          exact this _ fun q hq => h.parts q (List.mem_of_mem_take hq)
        have a3 : (ps.take i).length ≤ 3 := by rw [List.length_take]; omega
        have a4 : (ps.take i).length * 4 ^ n ≤ 3 * 4 ^ n := Nat.mul_le_mul_right _ a3
        have a5 : 4 ^ n ≤ 4 ^ 4 := Nat.pow_le_pow_right (by decide) (by omega)
        have a6 : (4 : Nat) ^ 4 = 256 := by decide
        rw [bin_lst (by rw [List.length_map, List.length_map, line_val]; omega), ← List.map_append]
        (try walk_at "go")
        refine ⟨some (tupD p), ?_⟩
        rw [List.take_succ, hp]
        simp
      · subst e1 e2
        (try walk_at "go")
        rw [List.take_length]
        first | done | rfl | exact ⟨rfl, rfl⟩
theorem leaves2 (ops : List (Str × Nat)) (ho : ∀ o ∈ ops, o.2 ≤ 3) (t : Tm) (k : Nat) (m : Mu) (h : Tg ops 2 t) : W (run T F (k + 4) 22 [tupD t] m) (fun v m' => v = .lst ((lv t).map tupD) ∧ m' = m) := by
  rw [show k + 4 = 2 + k + 2 by omega]
  exact leaves ops ho 2 t k m h (by decide)

end K05

/-! part K05_p24 -/
set_option Elab.async false
set_option linter.all false
set_option maxRecDepth 100000
set_option maxHeartbeats 4000000
namespace K05
open PySem Rs L2
local macro_rules | `(tactic| walk_at "ev") => `(tactic| simp only [W_ok, W_bad, W_bind, W_opt, W_fin, fin_rt, fin_nx, R.bind_ok, R.bind_bad, R.opt_some, R.opt_none, E_var, E_cst, E_bin, E_neg, E_cmp, E_chn, E_isn, E_and, E_or, E_not, E_tru, E_ife, E_att, E_idx, E_slc, E_tup, E_fz, E_mk, E_call, E_new, E_met, E_blt, E_bmt, E_len, E_str, E_isi, E_frz, E_fst, E_fmt, Eo_no, Eo_yes, Eb_no, Eb_yes, Es_nil, Es_cons, Ej_nil, Ej_cons, EF_lst, EF_cmp, EF_lof, EF_dct, EI_seq, EI_rng, EI_rng2, S_asg, S_par, S_sta, S_sti, S_aug, S_exp, S_mut, S_ret, S_ifs, S_for, S_sup, S_pas, S_con, S_brk, Ss_nil, Ss_cons, bindT_nm, bindT_tp, bindTs_nil, bindTs_cons, layZ_lst, layZ_dct, layM_eq, look_int, look_bl, look_str, look_non, look_tup, look_lst, look_scr, look_dct, look_ins, look_loc, seen_lst, seen_dct, seen_ins, List.getElem?_cons_zero, List.getElem?_cons_succ, List.length_cons, List.length_nil, List.set_cons_zero, List.set_cons_succ, Option.map_some, Option.map_none, Option.bind_some, Option.bind_none, Sc_len, List.map_cons, List.map_nil, Nat.zero_add, Nat.reduceAdd, Nat.reduceLT, reduceIte, Nat.lt_irrefl, and_self, and_true, true_and, if_true, if_false, ↓reduceIte, le_line, Nat.reduceLeDiff, Nat.zero_le, bin_add, bin_sub, cmp_lt, cmp_le, cmp_gt, cmp_ge, cmp_eq, cmp_ne, cmp_in, cmp_nin, blt_int, blt_max2, blt_min2, blt_tupl, blt_tupt, met_lst, met_tup, met_scr, met_str, met_int, len_lst, len_tup, len_scr, decide_true, decide_false, Bool.not_true, Bool.not_false, items_tup, items_lst, items_str, wipe_nil, wipe_cons, idx_t0, idx_t1, idx_t2, idx_t3, idx_l0, idx_l1, eq_ss, eq_ii, ne_ss, ne_ii, ne_bb, tru_bl])
local macro_rules | `(tactic| walk_at "go") => `(tactic| simp only [W_ok, W_bad, W_bind, W_opt, W_fin, fin_rt, fin_nx, R.bind_ok, R.bind_bad, R.opt_some, R.opt_none, E_var, E_cst, E_bin, E_neg, E_cmp, E_chn, E_isn, E_and, E_or, E_not, E_tru, E_ife, E_att, E_idx, E_slc, E_tup, E_fz, E_mk, E_call, E_new, E_met, E_blt, E_bmt, E_len, E_str, E_isi, E_frz, E_fst, E_fmt, Eo_no, Eo_yes, Eb_no, Eb_yes, Es_nil, Es_cons, Ej_nil, Ej_cons, EF_lst, EF_cmp, EF_lof, EF_dct, EI_seq, EI_rng, EI_rng2, S_asg, S_par, S_sta, S_sti, S_aug, S_exp, S_mut, S_ret, S_ifs, S_for, S_sup, S_pas, S_con, S_brk, Ss_nil, Ss_cons, bindT_nm, bindT_tp, bindTs_nil, bindTs_cons, layZ_lst, layZ_dct, layM_eq, look_int, look_bl, look_str, look_non, look_tup, look_lst, look_scr, look_dct, look_ins, look_loc, seen_lst, seen_dct, seen_ins, List.getElem?_cons_zero, List.getElem?_cons_succ, List.length_cons, List.length_nil, List.set_cons_zero, List.set_cons_succ, Option.map_some, Option.map_none, Option.bind_some, Option.bind_none, Sc_len, List.map_cons, List.map_nil, Nat.zero_add, Nat.reduceAdd, Nat.reduceLT, reduceIte, Nat.lt_irrefl, and_self, and_true, true_and, if_true, if_false, ↓reduceIte, le_line, Nat.reduceLeDiff, Nat.zero_le, bin_add, bin_sub, cmp_lt, cmp_le, cmp_gt, cmp_ge, cmp_eq, cmp_ne, cmp_in, cmp_nin, blt_int, blt_max2, blt_min2, blt_tupl, blt_tupt, met_lst, met_tup, met_scr, met_str, met_int, len_lst, len_tup, len_scr, decide_true, decide_false, Bool.not_true, Bool.not_false, items_tup, items_lst, items_str, wipe_nil, wipe_cons, idx_t0, idx_t1, idx_t2, idx_t3, idx_l0, idx_l1, eq_ss, eq_ii, ne_ss, ne_ii, ne_bb, tru_bl, w_of_of, w_arg_of, w_got_of, w_arg_at, w_got_at, w_arg_arg, w_got_arg, look_insD, look_tupD, c_does, d_does, w_of_arg, w_of_got, w_got_got, w_arg_got, wordT, signT, prt, if_tt, att_word, att_sign, att_parts, look_insR, look_insL, att_rop, att_rlooks, att_rtarget, att_lix, isi_does, isi_cannot, E_sln, E_sdj, EF_srt, EF_dcm, EI_enm, S_pr3])
theorem w_does_can : decide ((("does" : String) : Str) = (("cannot" : String) : Str)) = false := by decide +kernel
theorem w_can_can : decide ((("cannot" : String) : Str) = (("cannot" : String) : Str)) = true := by decide +kernel
def gotO (j : Nat) : Lk → Option Str
  | .does i _ n => if i = j then some n else none
  | .cannot _ _ => none
def gots (r : Ru) (j : Nat) : List Str := r.ls.filterMap (gotO j)
def isA (j : Int) : Tm → Bool
  | .arg i => i == j
  | _ => false
def ownB (g : List Str) (j : Nat) : Tm → Bool
  | .arg i => i == (j : Int)
  | .got n => decide (n ∈ g)
  | .of _ _ => false
def own (r : Ru) (j : Nat) : List Tm := (lv r.t).filter (ownB (gots r j) j)
def pOne (r : Ru) (j : Nat) : Bool := decide ((gots r j).length < 2) && !(!(gots r j).isEmpty && (own r j).any (isA (j : Int)))
def sOne (r : Ru) (j : Nat) : Bool := decide ((own r j).length < 2)
def lawL (S C P : Bool) : List Str := (if S && (C && P) then [("plain" : Str)] else []) ++ ((if S && C then [("asks" : Str)] else []) ++ ((if S then [("looks" : Str)] else []) ++ ((if C then [("copies" : Str)] else []) ++ [("all" : Str)])))
theorem lv_lfB {t p : Tm} (h : p ∈ lv t) : lfB p = true := by
  rw [lv_allp] at h
  exact (List.mem_filter.mp h).2
theorem eqD_aa {T : Tab} {i j : Int} : eqD T (.tup [.str "arg", .int i]) (.tup [.str "arg", .int j]) = some (i == j) := by
  rw [eqD_tt', eqL_1, eqD_ss, decide_eq_true rfl]
  dsimp only
  rw [eqL_1, eqD_ii2]
  cases i == j
  · rfl
  · dsimp only
    rw [eqL_0]
theorem eqD_ga {T : Tab} {n : Str} {j : Int} : eqD T (.tup [.str "got", .str n]) (.tup [.str "arg", .int j]) = some false := by
  rw [eqD_tt', eqL_1, eqD_ss, w_got_arg]
theorem eqO_leaf {T : Tab} {k : Nat} {m : Mu} {p : Tm} {j : Int} (h : lfB p = true) : eqO T (k + 1) m (tupD p) (.tup [.str "arg", .int j]) = some (isA j p) := by
  cases p with
  | of s ps => cases h
  | arg i =>
    rw [tup_arg, eqO_room (i := 1) (j := 1) rfl rfl (by omega) (by omega) rfl rfl]
    exact eqD_aa
  | got s =>
    rw [tup_got, eqO_room (i := 1) (j := 1) rfl rfl (by omega) (by omega) rfl rfl]
    exact eqD_ga
theorem lf_of {p : Tm} (h : lfB p = true) : dep (tupD p) = some 1 ∧ plainD (tupD p) = true := by
  cases p with
  | of s ps => cases h
  | arg i => rw [tup_arg]; exact ⟨rfl, rfl⟩
  | got s => rw [tup_got]; exact ⟨rfl, rfl⟩
theorem in_leaves {T : Tab} {k : Nat} {L : List Tm} {j : Int} (h : ∀ p ∈ L, lfB p = true) : inD T (k + 2) (.tup [.str "arg", .int j]) (.lst (L.map tupD)) = some (L.any (isA j)) := by
  obtain ⟨d, h1, h2⟩ := depL_map (f := tupD) (B := 1) (ps := L) fun p hp => ⟨1, (lf_of (h p hp)).1, Nat.le_refl _⟩
  rw [inD_lst (i := 1) (j := d + 1) rfl (by simp only [dep, h1, Option.map_some]) (by omega) (by omega) rfl (plainL_map fun p hp => (lf_of (h p hp)).2)]
  unfold anyD
  rw [List.any_map]
  congr 1
  clear h1
  induction L with
  | nil => rfl
  | cons p L ih =>
    rw [List.any_cons, List.any_cons, ih fun q hq => h q (List.mem_cons_of_mem _ hq)]
    congr 1
    have hp := h p List.mem_cons_self
    cases p with
    | of s ps => cases hp
    | arg i =>
      show decide (eqD T (tupD (.arg i)) (.tup [.str "arg", .int j]) = some true) = (i == j)
      rw [tup_arg, eqD_aa]
      cases i == j <;> rfl
    | got s =>
      show decide (eqD T (tupD (.got s)) (.tup [.str "arg", .int j]) = some true) = false
      rw [tup_got, eqD_ga]
      rfl
theorem ne_strs {T : Tab} {k : Nat} {xs : List Str} : neO T (k + 1) (.lst (xs.map .str)) (.lst []) = some (!xs.isEmpty) := by
  obtain ⟨d, h1, h2⟩ := dep_strs (xs := xs)
  rw [ne_lnil (k := k + 1) h1 (by show plainL _ = true; exact plainL_map fun t ht => rfl) (by omega) (by omega), isEmpty_map]
theorem eq_lks {T : Tab} {k : Nat} {m : Mu} {L : List Lk} : eqO T (k + 2) m (.lst (L.map lkD)) (.lst []) = some L.isEmpty := by
  obtain ⟨d, h1, h2⟩ := depL_map (f := lkD) (B := 1) (ps := L) fun p hp => ⟨1, by cases p <;> rfl, Nat.le_refl _⟩
  rw [eq_lnil (d := d + 1) (by simp only [dep, h1, Option.map_some]) (by omega) (by omega), isEmpty_map]
theorem fm_str {f : Lk → Option Str} {L : List Lk} : (L.filterMap fun p => (f p).map D.str) = (L.filterMap f).map .str := by
  rw [List.map_filterMap]

end K05

/-! part K05_p25 -/
set_option Elab.async false
set_option linter.all false
set_option maxRecDepth 100000
set_option maxHeartbeats 4000000
namespace K05
open PySem Rs L2
local macro_rules | `(tactic| walk_at "ev") => `(tactic| simp only [W_ok, W_bad, W_bind, W_opt, W_fin, fin_rt, fin_nx, R.bind_ok, R.bind_bad, R.opt_some, R.opt_none, E_var, E_cst, E_bin, E_neg, E_cmp, E_chn, E_isn, E_and, E_or, E_not, E_tru, E_ife, E_att, E_idx, E_slc, E_tup, E_fz, E_mk, E_call, E_new, E_met, E_blt, E_bmt, E_len, E_str, E_isi, E_frz, E_fst, E_fmt, Eo_no, Eo_yes, Eb_no, Eb_yes, Es_nil, Es_cons, Ej_nil, Ej_cons, EF_lst, EF_cmp, EF_lof, EF_dct, EI_seq, EI_rng, EI_rng2, S_asg, S_par, S_sta, S_sti, S_aug, S_exp, S_mut, S_ret, S_ifs, S_for, S_sup, S_pas, S_con, S_brk, Ss_nil, Ss_cons, bindT_nm, bindT_tp, bindTs_nil, bindTs_cons, layZ_lst, layZ_dct, layM_eq, look_int, look_bl, look_str, look_non, look_tup, look_lst, look_scr, look_dct, look_ins, look_loc, seen_lst, seen_dct, seen_ins, List.getElem?_cons_zero, List.getElem?_cons_succ, List.length_cons, List.length_nil, List.set_cons_zero, List.set_cons_succ, Option.map_some, Option.map_none, Option.bind_some, Option.bind_none, Sc_len, List.map_cons, List.map_nil, Nat.zero_add, Nat.reduceAdd, Nat.reduceLT, reduceIte, Nat.lt_irrefl, and_self, and_true, true_and, if_true, if_false, ↓reduceIte, le_line, Nat.reduceLeDiff, Nat.zero_le, bin_add, bin_sub, cmp_lt, cmp_le, cmp_gt, cmp_ge, cmp_eq, cmp_ne, cmp_in, cmp_nin, blt_int, blt_max2, blt_min2, blt_tupl, blt_tupt, met_lst, met_tup, met_scr, met_str, met_int, len_lst, len_tup, len_scr, decide_true, decide_false, Bool.not_true, Bool.not_false, items_tup, items_lst, items_str, wipe_nil, wipe_cons, idx_t0, idx_t1, idx_t2, idx_t3, idx_l0, idx_l1, eq_ss, eq_ii, ne_ss, ne_ii, ne_bb, tru_bl])
local macro_rules | `(tactic| walk_at "go") => `(tactic| simp only [W_ok, W_bad, W_bind, W_opt, W_fin, fin_rt, fin_nx, R.bind_ok, R.bind_bad, R.opt_some, R.opt_none, E_var, E_cst, E_bin, E_neg, E_cmp, E_chn, E_isn, E_and, E_or, E_not, E_tru, E_ife, E_att, E_idx, E_slc, E_tup, E_fz, E_mk, E_call, E_new, E_met, E_blt, E_bmt, E_len, E_str, E_isi, E_frz, E_fst, E_fmt, Eo_no, Eo_yes, Eb_no, Eb_yes, Es_nil, Es_cons, Ej_nil, Ej_cons, EF_lst, EF_cmp, EF_lof, EF_dct, EI_seq, EI_rng, EI_rng2, S_asg, S_par, S_sta, S_sti, S_aug, S_exp, S_mut, S_ret, S_ifs, S_for, S_sup, S_pas, S_con, S_brk, Ss_nil, Ss_cons, bindT_nm, bindT_tp, bindTs_nil, bindTs_cons, layZ_lst, layZ_dct, layM_eq, look_int, look_bl, look_str, look_non, look_tup, look_lst, look_scr, look_dct, look_ins, look_loc, seen_lst, seen_dct, seen_ins, List.getElem?_cons_zero, List.getElem?_cons_succ, List.length_cons, List.length_nil, List.set_cons_zero, List.set_cons_succ, Option.map_some, Option.map_none, Option.bind_some, Option.bind_none, Sc_len, List.map_cons, List.map_nil, Nat.zero_add, Nat.reduceAdd, Nat.reduceLT, reduceIte, Nat.lt_irrefl, and_self, and_true, true_and, if_true, if_false, ↓reduceIte, le_line, Nat.reduceLeDiff, Nat.zero_le, bin_add, bin_sub, cmp_lt, cmp_le, cmp_gt, cmp_ge, cmp_eq, cmp_ne, cmp_in, cmp_nin, blt_int, blt_max2, blt_min2, blt_tupl, blt_tupt, met_lst, met_tup, met_scr, met_str, met_int, len_lst, len_tup, len_scr, decide_true, decide_false, Bool.not_true, Bool.not_false, items_tup, items_lst, items_str, wipe_nil, wipe_cons, idx_t0, idx_t1, idx_t2, idx_t3, idx_l0, idx_l1, eq_ss, eq_ii, ne_ss, ne_ii, ne_bb, tru_bl, w_of_of, w_arg_of, w_got_of, w_arg_at, w_got_at, w_arg_arg, w_got_arg, look_insD, look_tupD, c_does, d_does, w_of_arg, w_of_got, w_got_got, w_arg_got, wordT, signT, prt, if_tt, att_word, att_sign, att_parts, look_insR, look_insL, att_rop, att_rlooks, att_rtarget, att_lix, isi_does, isi_cannot, E_sln, E_sdj, EF_srt, EF_dcm, EI_enm, S_pr3, w_does_can, w_can_can])
def sTo (r : Ru) (i : Nat) : Bool := (List.range i).all (sOne r)
def pTo (r : Ru) (i : Nat) : Bool := (List.range i).all (pOne r)
theorem sTo_s {r : Ru} {i : Nat} : sTo r (i + 1) = (sTo r i && sOne r i) := by
  unfold sTo
  rw [List.range_succ, List.all_append]
  simp
theorem pTo_s {r : Ru} {i : Nat} : pTo r (i + 1) = (pTo r i && pOne r i) := by
  unfold pTo
  rw [List.range_succ, List.all_append]
  simp
theorem shape_one (k : Nat) (m : Mu) (r : Ru) (hl4 : r.ls.length ≤ 4) (hlv : (lv r.t).length ≤ 4 ^ 2) (i : Nat) (S P : Bool) (d5 : D) (o8 o9 : Option D) :
    W (Ss T (k + 5) (run T F (k + 5)) b23l2q0 [some (ruD r), some (.int (i : Int)), none, some (.lst (r.ls.map lkD)), some (.lst ((lv r.t).map tupD)), some d5, some (.bl S), some (.bl P), o8, o9, none, none] m)
      (fun fl m' => fl = .nx [some (ruD r), some (.int (i : Int)), none, some (.lst (r.ls.map lkD)), some (.lst ((lv r.t).map tupD)), some d5, some (.bl (S && sOne r i)), some (.bl (P && pOne r i)), some (.lst ((gots r i).map .str)), some (.lst ((own r i).map tupD)), none, none] ∧ m' = m) := by
  have hgl : (gots r i).length ≤ 4 := Nat.le_trans (List.length_filterMap_le _ _) hl4
  have hol : (own r i).length ≤ 16 := Nat.le_trans (List.length_filter_le _ _) hlv
  rw [b23l2c0]
  (try walk_at "go")
  rw [List.length_map]
  refine W_mapF r.ls lkD (fun l => (gotO i l).map .str) (fun m' => m' = m) rfl (fun l hl m2 hm2 => ?_) fun m2 hm2 => ?_
  · subst hm2
    cases l with
    | does j l n =>
      rw [does_at]
      (try walk_at "go")
      by_cases hj : j = i
      · subst hj
        simp only [beq_self_eq_true]
        (try walk_at "go")
        simp only [gotO, if_true]
        first | done | rfl | exact ⟨rfl, rfl⟩
      · have hb : (((j : Nat) : Int) == (i : Int)) = false := by
          rw [beq_eq_false_iff_ne]
          omega
        simp only [hb]
        (try walk_at "go")
        simp only [gotO, if_neg hj]
        first | done | rfl | exact ⟨rfl, rfl⟩
    | cannot j l =>
      rw [cannot_at]
      (try walk_at "go")
      first | done | rfl | exact ⟨rfl, rfl⟩
  subst hm2
  (try walk_at "go")
  simp only [fm_str]
  rw [show r.ls.filterMap (gotO i) = gots r i from rfl, List.length_map, if_pos (lineLe (by omega))]
  (try walk_at "go")
  rw [b23l2c1]
  (try walk_at "go")
  rw [List.length_map]
  refine W_filt (lv r.t) tupD (ownB (gots r i) i) (fun m' => m' = m2) rfl (fun p hp m3 hm3 => ?_) fun m3 hm3 => ?_
  · subst hm3
    (try walk_at "go")
    rw [show eqO T (k + 5) _ _ _ = _ from eqO_leaf (k := k + 4) (lv_lfB hp)]
    (try walk_at "go")
    have hlf := lv_lfB hp
    cases p with
    | of s ps => cases hlf
    | arg j =>
      rw [show isA (i : Int) (.arg j) = (j == (i : Int)) from rfl, show ownB (gots r i) i (.arg j) = (j == (i : Int)) from rfl]
      cases j == (i : Int) with
      | true =>
        (try walk_at "go")
        first | done | rfl | exact ⟨rfl, rfl⟩
      | false =>
        (try walk_at "go")
        rw [tup_arg]
        (try walk_at "go")
        first | done | rfl | exact ⟨rfl, rfl⟩
    | got x =>
      rw [show isA (i : Int) (.got x) = false from rfl, show ownB (gots r i) i (.got x) = decide (x ∈ gots r i) from rfl]
      rw [tup_got]
      (try walk_at "go")
      rw [show inD T (k + 5) _ _ = _ from in_strs (k := k + 4)]
      (try walk_at "go")
      cases decide (x ∈ gots r i) <;> (try walk_at "go") <;> first | done | rfl | exact ⟨rfl, rfl⟩
  subst hm3
  (try walk_at "go")
  rw [show (lv r.t).filter (ownB (gots r i) i) = own r i from rfl, List.length_map, if_pos (lineLe (by omega))]
  (try walk_at "go")
  rw [b23l2c2]
  (try walk_at "go")
  have e2 : (decide ((((own r i).map tupD).length : Int) < 2)) = sOne r i := by
    unfold sOne
    rw [List.length_map, Bool.eq_iff_iff, decide_eq_true_eq, decide_eq_true_eq]
    omega
  rw [e2]
  refine W_eqm (m := m3) (d := .bl (S && sOne r i)) ?_ ?_
  · cases S <;> (try walk_at "go") <;> first | done | rfl | exact ⟨rfl, rfl⟩
  rw [b23l2c3, b23l2n]
  (try walk_at "go")
  refine W_eqm (m := m3) (d := .bl (P && pOne r i)) ?_ ?_
  · cases P with
    | false =>
      (try walk_at "go")
      first | done | rfl | exact ⟨rfl, rfl⟩
    | true =>
      (try walk_at "go")
      have e3 : (decide ((((gots r i).map D.str).length : Int) < 2)) = decide ((gots r i).length < 2) := by
        rw [List.length_map, Bool.eq_iff_iff, decide_eq_true_eq, decide_eq_true_eq]
        omega
      rw [e3]
      unfold pOne
      cases decide ((gots r i).length < 2) with
      | false =>
        (try walk_at "go")
        first | done | rfl | exact ⟨rfl, rfl⟩
      | true =>
        (try walk_at "go")
        rw [show neO T (k + 5) _ _ = _ from ne_strs (k := k + 4)]
        (try walk_at "go")
        cases (gots r i).isEmpty with
        | true =>
          (try walk_at "go")
          first | done | rfl | exact ⟨rfl, rfl⟩
        | false =>
          (try walk_at "go")
          have e4 : inD T (k + 5) (.tup [.str "arg", .int (i : Int)]) (.lst ((own r i).map tupD)) = some ((own r i).any (isA (i : Int))) := in_leaves (k := k + 3) (fun p hp => lv_lfB (List.mem_filter.mp hp).1)
          rw [e4]
          (try walk_at "go")
          first | done | rfl | exact ⟨rfl, rfl⟩
  (try walk_at "go")
  first | done | rfl | exact ⟨rfl, rfl⟩
theorem shapes (k : Nat) (m : Mu) (ops : List (Str × Nat)) (ho : ∀ o ∈ ops, o.2 ≤ 3) (s w : Str) (r : Ru) (hr : RuOk ops s w r) : W (run T F (k + 6) 23 [ruD r] m) (fun v m' => v = .lst ((lawL (sTo r 3) (noC r) (pTo r 3)).map .str) ∧ m' = m) := by
  have hl4 := hr.len
  have hlv := lv_len ho hr.tg
  rw [r23, b23e, b23c0]
  unfold ruD
  (try walk_at "go")
  refine W_eqm (leaves2 ops ho r.t (k + 1) m hr.tg) ?_
  (try walk_at "go")
  rw [b23c1]
  (try walk_at "go")
  rw [List.length_map]
  refine W_filt r.ls lkD (fun l => !isD l) (fun m' => m' = m) rfl (fun l hl m2 hm2 => ?_) fun m2 hm2 => ?_
  · subst hm2
    cases l with
    | does i l n =>
      rw [does_at]
      (try walk_at "go")
      first | done | rfl | exact ⟨rfl, rfl⟩
    | cannot i l =>
      rw [cannot_at]
      (try walk_at "go")
      first | done | rfl | exact ⟨rfl, rfl⟩
  subst hm2
  (try walk_at "go")
  rw [List.length_map, if_pos (lineLe (by have := List.length_filter_le (fun l => !isD l) r.ls; omega))]
  (try walk_at "go")
  rw [b23c2]
  (try walk_at "go")
  rw [show rangeD 0 3 = some (((List.range 3).map fun (i : Nat) => D.int (i : Int))) from rangeD_nat (n := 3) (by decide)]
  (try walk_at "go")
  refine W_for (fun i q m' => (∃ o1 o8 o9, q = [some (ruD r), o1, none, some (.lst (r.ls.map lkD)), some (.lst ((lv r.t).map tupD)), some (.lst ((r.ls.filter fun l => !isD l).map lkD)), some (.bl (sTo r i)), some (.bl (pTo r i)), o8, o9, none, none]) ∧ m' = m2) ⟨⟨_, _, _, rfl⟩, rfl⟩ (fun i x q m3 hx ⟨⟨o1, o8, o9, e⟩, em⟩ => ?_) (fun q m3 ⟨⟨o1, o8, o9, e⟩, em⟩ => ?_)
  · subst e em
    obtain ⟨j, hj, rfl⟩ : ∃ j : Nat, (List.range 3)[i]? = some j ∧ D.int (j : Int) = x := by
      rw [List.getElem?_map] at hx
      exact Option.map_eq_some_iff.mp hx
    have hji : j = i := by
      obtain ⟨h1, h2⟩ := List.getElem?_eq_some_iff.mp hj
      rw [List.getElem_range] at h2
      exact h2.symm
    subst hji
    (try walk_at "go")
    refine W_mono (shape_one k m3 r hl4 hlv j (sTo r j) (pTo r j) _ o8 o9) fun fl m4 ⟨e, em⟩ => ?_
    subst e em
    rw [← sTo_s, ← pTo_s]
    exact ⟨⟨_, _, _, rfl⟩, rfl⟩
  · subst e em
    rw [show (List.map (fun i : Nat => D.int (i : Int)) (List.range 3)).length = 3 from rfl]
    generalize sTo r 3 = S
    generalize pTo r 3 = P
    (try walk_at "go")
    have hC : eqO T (k + 5) m3 (.lst ((r.ls.filter fun l => !isD l).map lkD)) (.lst []) = some (noC r) := eq_lks (k := k + 3)
    generalize noC r = C at hC ⊢
    rw [b23c3]
    (try walk_at "go")
    cases S <;> cases C <;> cases P <;>
    · iterate 3
        (try walk_at "go")
        (try simp only [hC])
      rw [b23c4]
      iterate 5
        (try walk_at "go")
        (try simp only [hC])
        (try rw [bin_lst (lineLe (by simp))])
        (try simp only [List.nil_append, List.cons_append])
      rw [b23c5, b23n]
      iterate 5
        (try walk_at "go")
        (try simp only [hC])
        (try rw [bin_lst (lineLe (by simp))])
        (try simp only [List.nil_append, List.cons_append])
      first | done | rfl | exact ⟨rfl, rfl⟩

end K05

/-! part K05_p26 -/
set_option Elab.async false
set_option linter.all false
set_option maxRecDepth 100000
set_option maxHeartbeats 4000000
namespace K05
open PySem Rs L2
local macro_rules | `(tactic| walk_at "ev") => `(tactic| simp only [W_ok, W_bad, W_bind, W_opt, W_fin, fin_rt, fin_nx, R.bind_ok, R.bind_bad, R.opt_some, R.opt_none, E_var, E_cst, E_bin, E_neg, E_cmp, E_chn, E_isn, E_and, E_or, E_not, E_tru, E_ife, E_att, E_idx, E_slc, E_tup, E_fz, E_mk, E_call, E_new, E_met, E_blt, E_bmt, E_len, E_str, E_isi, E_frz, E_fst, E_fmt, Eo_no, Eo_yes, Eb_no, Eb_yes, Es_nil, Es_cons, Ej_nil, Ej_cons, EF_lst, EF_cmp, EF_lof, EF_dct, EI_seq, EI_rng, EI_rng2, S_asg, S_par, S_sta, S_sti, S_aug, S_exp, S_mut, S_ret, S_ifs, S_for, S_sup, S_pas, S_con, S_brk, Ss_nil, Ss_cons, bindT_nm, bindT_tp, bindTs_nil, bindTs_cons, layZ_lst, layZ_dct, layM_eq, look_int, look_bl, look_str, look_non, look_tup, look_lst, look_scr, look_dct, look_ins, look_loc, seen_lst, seen_dct, seen_ins, List.getElem?_cons_zero, List.getElem?_cons_succ, List.length_cons, List.length_nil, List.set_cons_zero, List.set_cons_succ, Option.map_some, Option.map_none, Option.bind_some, Option.bind_none, Sc_len, List.map_cons, List.map_nil, Nat.zero_add, Nat.reduceAdd, Nat.reduceLT, reduceIte, Nat.lt_irrefl, and_self, and_true, true_and, if_true, if_false, ↓reduceIte, le_line, Nat.reduceLeDiff, Nat.zero_le, bin_add, bin_sub, cmp_lt, cmp_le, cmp_gt, cmp_ge, cmp_eq, cmp_ne, cmp_in, cmp_nin, blt_int, blt_max2, blt_min2, blt_tupl, blt_tupt, met_lst, met_tup, met_scr, met_str, met_int, len_lst, len_tup, len_scr, decide_true, decide_false, Bool.not_true, Bool.not_false, items_tup, items_lst, items_str, wipe_nil, wipe_cons, idx_t0, idx_t1, idx_t2, idx_t3, idx_l0, idx_l1, eq_ss, eq_ii, ne_ss, ne_ii, ne_bb, tru_bl])
local macro_rules | `(tactic| walk_at "go") => `(tactic| simp only [W_ok, W_bad, W_bind, W_opt, W_fin, fin_rt, fin_nx, R.bind_ok, R.bind_bad, R.opt_some, R.opt_none, E_var, E_cst, E_bin, E_neg, E_cmp, E_chn, E_isn, E_and, E_or, E_not, E_tru, E_ife, E_att, E_idx, E_slc, E_tup, E_fz, E_mk, E_call, E_new, E_met, E_blt, E_bmt, E_len, E_str, E_isi, E_frz, E_fst, E_fmt, Eo_no, Eo_yes, Eb_no, Eb_yes, Es_nil, Es_cons, Ej_nil, Ej_cons, EF_lst, EF_cmp, EF_lof, EF_dct, EI_seq, EI_rng, EI_rng2, S_asg, S_par, S_sta, S_sti, S_aug, S_exp, S_mut, S_ret, S_ifs, S_for, S_sup, S_pas, S_con, S_brk, Ss_nil, Ss_cons, bindT_nm, bindT_tp, bindTs_nil, bindTs_cons, layZ_lst, layZ_dct, layM_eq, look_int, look_bl, look_str, look_non, look_tup, look_lst, look_scr, look_dct, look_ins, look_loc, seen_lst, seen_dct, seen_ins, List.getElem?_cons_zero, List.getElem?_cons_succ, List.length_cons, List.length_nil, List.set_cons_zero, List.set_cons_succ, Option.map_some, Option.map_none, Option.bind_some, Option.bind_none, Sc_len, List.map_cons, List.map_nil, Nat.zero_add, Nat.reduceAdd, Nat.reduceLT, reduceIte, Nat.lt_irrefl, and_self, and_true, true_and, if_true, if_false, ↓reduceIte, le_line, Nat.reduceLeDiff, Nat.zero_le, bin_add, bin_sub, cmp_lt, cmp_le, cmp_gt, cmp_ge, cmp_eq, cmp_ne, cmp_in, cmp_nin, blt_int, blt_max2, blt_min2, blt_tupl, blt_tupt, met_lst, met_tup, met_scr, met_str, met_int, len_lst, len_tup, len_scr, decide_true, decide_false, Bool.not_true, Bool.not_false, items_tup, items_lst, items_str, wipe_nil, wipe_cons, idx_t0, idx_t1, idx_t2, idx_t3, idx_l0, idx_l1, eq_ss, eq_ii, ne_ss, ne_ii, ne_bb, tru_bl, w_of_of, w_arg_of, w_got_of, w_arg_at, w_got_at, w_arg_arg, w_got_arg, look_insD, look_tupD, c_does, d_does, w_of_arg, w_of_got, w_got_got, w_arg_got, wordT, signT, prt, if_tt, att_word, att_sign, att_parts, look_insR, look_insL, att_rop, att_rlooks, att_rtarget, att_lix, isi_does, isi_cannot, E_sln, E_sdj, EF_srt, EF_dcm, EI_enm, S_pr3, w_does_can, w_can_can])
/-! what the package counts is what the law counts -/
theorem mem_gots {r : Ru} {n : Str} {j : Nat} : n ∈ gots r j ↔ (n, j) ∈ dsn r.ls := by
  unfold gots
  rw [List.mem_filterMap, mem_dsn]
  constructor
  · rintro ⟨l, hl, h⟩
    cases l with
    | does i l' n' =>
      by_cases hi : i = j
      · subst hi
        simp only [gotO, if_true] at h
        cases h
        exact ⟨l', hl⟩
      · simp only [gotO, if_neg hi] at h
        cases h
    | cannot i l' => cases h
  · rintro ⟨l, hl⟩
    exact ⟨_, hl, by simp only [gotO, if_true]⟩
theorem ow_gots {r : Ru} (hn : ((dsn r.ls).map (·.1)).Nodup) {n : Str} {i j : Nat} (h : (n, i) ∈ dsn r.ls) : (ow r.ls n == (j : Int)) = decide (n ∈ gots r j) := by
  rw [ow_at hn h, Bool.eq_iff_iff, beq_iff_eq, decide_eq_true_eq, mem_gots]
  constructor
  · intro e
    have : i = j := by omega
    rw [← this]
    exact h
  · intro h2
    have e1 := ow_at hn h
    have e2 := ow_at hn h2
    omega
theorem count_fnd {r : Ru} (hn : ((dsn r.ls).map (·.1)).Nodup) (j : Nat) : ∀ (L : List Tm), (∀ p ∈ L, lfB p = true) → (∀ n, Tm.got n ∈ L → ∃ i, (n, i) ∈ dsn r.ls) →
    (L.filterMap argF).count (j : Int) + (L.filterMap (gotF r.ls)).count (j : Int) = (L.filter (ownB (gots r j) j)).length
  | [], _, _ => rfl
  | p :: L, h1, h2 => by
    have ih := count_fnd hn j L (fun q hq => h1 q (List.mem_cons_of_mem _ hq)) (fun n hq => h2 n (List.mem_cons_of_mem _ hq))
    have hp := h1 p List.mem_cons_self
    cases p with
    | of s ps => cases hp
    | arg i =>
      rw [show List.filterMap argF (.arg i :: L) = i :: List.filterMap argF L from rfl, show List.filterMap (gotF r.ls) (.arg i :: L) = List.filterMap (gotF r.ls) L from rfl, List.count_cons, List.filter_cons, show ownB (gots r j) j (.arg i) = (i == (j : Int)) from rfl]
      cases i == (j : Int) <;> simp <;> omega
    | got n =>
      obtain ⟨i, hi⟩ := h2 n List.mem_cons_self
      rw [show List.filterMap argF (.got n :: L) = List.filterMap argF L from rfl, show List.filterMap (gotF r.ls) (.got n :: L) = ow r.ls n :: List.filterMap (gotF r.ls) L from rfl, List.count_cons, List.filter_cons, show ownB (gots r j) j (.got n) = decide (n ∈ gots r j) from rfl, ow_gots hn hi]
      cases decide (n ∈ gots r j) <;> simp <;> omega
theorem kept_lv {r : Ru} : kept r = (lv r.t).filterMap argF := fm_lv (fun _ _ => rfl) r.t
theorem fnd_lv {r : Ru} : fnd r = (lv r.t).filterMap argF ++ (lv r.t).filterMap (gotF r.ls) := by
  unfold fnd
  rw [kept_lv, fm_lv (f := gotF r.ls) (fun _ _ => rfl)]
structure Fine (r : Ru) : Prop where
  nd : ((dsn r.ls).map (·.1)).Nodup
  got : ∀ n, Tm.got n ∈ lv r.t → ∃ i, (n, i) ∈ dsn r.ls
  arg : ∀ i, Tm.arg i ∈ lv r.t → ∃ j : Nat, j < 3 ∧ i = (j : Int)
  ix : ∀ n i, (n, i) ∈ dsn r.ls → i < 3
theorem RuOk.fine {ops : List (Str × Nat)} {s w : Str} {r : Ru} (ho : ∀ o ∈ ops, o.2 ≤ 3) (hr : RuOk ops s w r) : Fine r := by
  obtain ⟨a, ha, hk, hlv⟩ := hr.ok
  have ha3 : a ≤ 3 := ho _ ha
  refine ⟨dsn_nd hk, fun n hn => ?_, fun i hi => ?_, fun n i hi => ?_⟩
  · rcases hlv _ hn with ⟨j, hj, e⟩ | ⟨i, l, y, hm, e⟩
    · cases e
    · cases e
      exact ⟨i, mem_dsn.mpr ⟨l, hm⟩⟩
  · rcases hlv _ hi with ⟨j, hj, e⟩ | ⟨i, l, y, hm, e⟩
    · cases e
      exact ⟨j, by omega, rfl⟩
    · cases e
  · obtain ⟨l, hl⟩ := mem_dsn.mp hi
    obtain ⟨p, hp⟩ := List.mem_iff_getElem?.mp hl
    have : i < a := (hk p _ hp).1
    omega
theorem count_own {r : Ru} (F : Fine r) (j : Nat) : (fnd r).count (j : Int) = (own r j).length := by
  rw [fnd_lv, List.count_append]
  exact count_fnd F.nd j (lv r.t) (fun p hp => lv_lfB hp) F.got
theorem fnd_small {r : Ru} (F : Fine r) {x : Int} (h : x ∈ fnd r) : ∃ j : Nat, j < 3 ∧ x = (j : Int) := by
  rw [fnd_lv] at h
  rcases List.mem_append.mp h with h | h
  · obtain ⟨p, hp, e⟩ := List.mem_filterMap.mp h
    cases p with
    | arg i =>
      have e : some i = some x := e
      rw [← Option.some.inj e]
      exact F.arg i hp
    | got n => cases e
    | of s ps => cases e
  · obtain ⟨p, hp, e⟩ := List.mem_filterMap.mp h
    cases p with
    | arg i => cases e
    | of s ps => cases e
    | got n =>
      cases e
      obtain ⟨i, hi⟩ := F.got n hp
      exact ⟨i, F.ix n i hi, ow_at F.nd hi⟩
theorem all3 {f : Nat → Bool} : (List.range 3).all f = true ↔ ∀ j, j < 3 → f j = true := by
  rw [List.all_eq_true]
  exact ⟨fun h j hj => h j (List.mem_range.mpr hj), fun h j hj => h j (List.mem_range.mp hj)⟩
theorem str_eq {r : Ru} (F : Fine r) : sTo r 3 = strB r := by
  rw [Bool.eq_iff_iff]
  unfold sTo strB
  rw [all3, ndB_iff, List.nodup_iff_count]
  constructor
  · intro h x
    by_cases hx : x ∈ fnd r
    · obtain ⟨j, hj, rfl⟩ := fnd_small F hx
      have := of_decide_eq_true (h j hj)
      rw [count_own F]
      omega
    · rw [List.count_eq_zero_of_not_mem hx]
      omega
  · intro h j hj
    have := h (j : Int)
    rw [count_own F] at this
    exact decide_eq_true (by omega)
theorem count_gots {r : Ru} (j : Nat) : (lkd r).count (j : Int) = (gots r j).length := by
  unfold lkd gots dsn
  induction r.ls with
  | nil => rfl
  | cons l ls ih =>
    cases l with
    | cannot i l' => exact ih
    | does i l' n =>
      rw [show List.filterMap dn (.does i l' n :: ls) = (n, i) :: List.filterMap dn ls from rfl, List.map_cons, List.count_cons, ih]
      by_cases h : i = j
      · subst h
        rw [List.filterMap_cons_some (show gotO i (.does i l' n) = some n by simp only [gotO, if_true])]
        simp
      · rw [List.filterMap_cons_none (show gotO j (.does i l' n) = none by simp only [gotO, if_neg h])]
        have : ((i : Int) == (j : Int)) = false := by
          rw [beq_eq_false_iff_ne]
          omega
        simp [this]
theorem lkd_small {r : Ru} (F : Fine r) {x : Int} (h : x ∈ lkd r) : ∃ j : Nat, j < 3 ∧ x = (j : Int) := by
  obtain ⟨p, hp, rfl⟩ := List.mem_map.mp h
  exact ⟨p.2, F.ix p.1 p.2 hp, rfl⟩
theorem any_own {r : Ru} {j : Nat} : (own r j).any (isA (j : Int)) = true ↔ (j : Int) ∈ kept r := by
  rw [List.any_eq_true, kept_lv, List.mem_filterMap]
  unfold own
  constructor
  · rintro ⟨p, hp, h⟩
    cases p with
    | arg i =>
      have : i = (j : Int) := eq_of_beq h
      subst this
      exact ⟨_, (List.mem_filter.mp hp).1, rfl⟩
    | got n => cases h
    | of s ps => cases h
  · rintro ⟨p, hp, h⟩
    cases p with
    | arg i =>
      cases h
      exact ⟨.arg (j : Int), List.mem_filter.mpr ⟨hp, by simp [ownB]⟩, by simp [isA]⟩
    | got n => cases h
    | of s ps => cases h
theorem ne_gots {r : Ru} {j : Nat} : (!(gots r j).isEmpty) = true ↔ (j : Int) ∈ lkd r := by
  have h := count_gots (r := r) j
  rw [← List.count_pos_iff, h]
  cases gots r j <;> simp
theorem pl_eq {r : Ru} (F : Fine r) : pTo r 3 = plB r := by
  have hk : ∀ x : Int, hasK (Sum.inl x) ((kept r).map Sum.inl) = true ↔ x ∈ kept r := fun x => by
    rw [hasK_iff, List.mem_map]
    exact ⟨fun ⟨y, hy, e⟩ => by cases e; exact hy, fun h => ⟨x, h, rfl⟩⟩
  rw [Bool.eq_iff_iff]
  unfold pTo plB
  rw [all3, Bool.and_eq_true, ndB_iff, List.nodup_iff_count, List.all_map, List.all_eq_true]
  unfold pOne
  constructor
  · intro h
    refine ⟨fun x => ?_, fun x hx => ?_⟩
    · by_cases hx : x ∈ lkd r
      · obtain ⟨j, hj, rfl⟩ := lkd_small F hx
        have := of_decide_eq_true (Bool.and_eq_true_iff.mp (h j hj)).1
        rw [count_gots]
        omega
      · rw [List.count_eq_zero_of_not_mem hx]
        omega
    · obtain ⟨j, hj, rfl⟩ := lkd_small F hx
      have h2 := (Bool.and_eq_true_iff.mp (h j hj)).2
      rw [ne_gots.mpr hx, Bool.true_and] at h2
      show (!hasK (Sum.inl (j : Int)) _) = true
      cases hh : hasK (Sum.inl (j : Int)) ((kept r).map Sum.inl)
      · rfl
      · rw [any_own.mpr ((hk _).mp hh)] at h2
        cases h2
  · rintro ⟨h1, h2⟩ j hj
    have e1 := h1 (j : Int)
    rw [count_gots] at e1
    rw [Bool.and_eq_true]
    refine ⟨decide_eq_true (by omega), ?_⟩
    cases hg : !(gots r j).isEmpty
    · rfl
    · have := h2 (j : Int) (ne_gots.mp hg)
      have this : (!hasK (Sum.inl (j : Int)) ((kept r).map Sum.inl)) = true := this
      cases ha : (own r j).any (isA (j : Int))
      · rfl
      · rw [(hk _).mpr (any_own.mp ha)] at this
        cases this
theorem law_list {r : Ru} (F : Fine r) : lawL (sTo r 3) (noC r) (pTo r 3) = shapesL.filter (hsB r) := by
  rw [str_eq F, pl_eq F]
  have e : ∀ S C P : Bool, lawL S C P = shapesL.filter fun x => (!decide (x ∈ [("plain" : Str), "asks", "looks"]) || S) && ((!decide (x ∈ [("plain" : Str), "asks", "copies"]) || C) && (!decide (x = ("plain" : Str)) || P)) := by decide +kernel
  exact e _ _ _

end K05

/-! part K05_p28 -/
set_option Elab.async false
set_option linter.all false
set_option maxRecDepth 100000
set_option maxHeartbeats 4000000
namespace K05
open PySem Rs L2
local macro_rules | `(tactic| walk_at "ev") => `(tactic| simp only [W_ok, W_bad, W_bind, W_opt, W_fin, fin_rt, fin_nx, R.bind_ok, R.bind_bad, R.opt_some, R.opt_none, E_var, E_cst, E_bin, E_neg, E_cmp, E_chn, E_isn, E_and, E_or, E_not, E_tru, E_ife, E_att, E_idx, E_slc, E_tup, E_fz, E_mk, E_call, E_new, E_met, E_blt, E_bmt, E_len, E_str, E_isi, E_frz, E_fst, E_fmt, Eo_no, Eo_yes, Eb_no, Eb_yes, Es_nil, Es_cons, Ej_nil, Ej_cons, EF_lst, EF_cmp, EF_lof, EF_dct, EI_seq, EI_rng, EI_rng2, S_asg, S_par, S_sta, S_sti, S_aug, S_exp, S_mut, S_ret, S_ifs, S_for, S_sup, S_pas, S_con, S_brk, Ss_nil, Ss_cons, bindT_nm, bindT_tp, bindTs_nil, bindTs_cons, layZ_lst, layZ_dct, layM_eq, look_int, look_bl, look_str, look_non, look_tup, look_lst, look_scr, look_dct, look_ins, look_loc, seen_lst, seen_dct, seen_ins, List.getElem?_cons_zero, List.getElem?_cons_succ, List.length_cons, List.length_nil, List.set_cons_zero, List.set_cons_succ, Option.map_some, Option.map_none, Option.bind_some, Option.bind_none, Sc_len, List.map_cons, List.map_nil, Nat.zero_add, Nat.reduceAdd, Nat.reduceLT, reduceIte, Nat.lt_irrefl, and_self, and_true, true_and, if_true, if_false, ↓reduceIte, le_line, Nat.reduceLeDiff, Nat.zero_le, bin_add, bin_sub, cmp_lt, cmp_le, cmp_gt, cmp_ge, cmp_eq, cmp_ne, cmp_in, cmp_nin, blt_int, blt_max2, blt_min2, blt_tupl, blt_tupt, met_lst, met_tup, met_scr, met_str, met_int, len_lst, len_tup, len_scr, decide_true, decide_false, Bool.not_true, Bool.not_false, items_tup, items_lst, items_str, wipe_nil, wipe_cons, idx_t0, idx_t1, idx_t2, idx_t3, idx_l0, idx_l1, eq_ss, eq_ii, ne_ss, ne_ii, ne_bb, tru_bl])
local macro_rules | `(tactic| walk_at "go") => `(tactic| simp only [W_ok, W_bad, W_bind, W_opt, W_fin, fin_rt, fin_nx, R.bind_ok, R.bind_bad, R.opt_some, R.opt_none, E_var, E_cst, E_bin, E_neg, E_cmp, E_chn, E_isn, E_and, E_or, E_not, E_tru, E_ife, E_att, E_idx, E_slc, E_tup, E_fz, E_mk, E_call, E_new, E_met, E_blt, E_bmt, E_len, E_str, E_isi, E_frz, E_fst, E_fmt, Eo_no, Eo_yes, Eb_no, Eb_yes, Es_nil, Es_cons, Ej_nil, Ej_cons, EF_lst, EF_cmp, EF_lof, EF_dct, EI_seq, EI_rng, EI_rng2, S_asg, S_par, S_sta, S_sti, S_aug, S_exp, S_mut, S_ret, S_ifs, S_for, S_sup, S_pas, S_con, S_brk, Ss_nil, Ss_cons, bindT_nm, bindT_tp, bindTs_nil, bindTs_cons, layZ_lst, layZ_dct, layM_eq, look_int, look_bl, look_str, look_non, look_tup, look_lst, look_scr, look_dct, look_ins, look_loc, seen_lst, seen_dct, seen_ins, List.getElem?_cons_zero, List.getElem?_cons_succ, List.length_cons, List.length_nil, List.set_cons_zero, List.set_cons_succ, Option.map_some, Option.map_none, Option.bind_some, Option.bind_none, Sc_len, List.map_cons, List.map_nil, Nat.zero_add, Nat.reduceAdd, Nat.reduceLT, reduceIte, Nat.lt_irrefl, and_self, and_true, true_and, if_true, if_false, ↓reduceIte, le_line, Nat.reduceLeDiff, Nat.zero_le, bin_add, bin_sub, cmp_lt, cmp_le, cmp_gt, cmp_ge, cmp_eq, cmp_ne, cmp_in, cmp_nin, blt_int, blt_max2, blt_min2, blt_tupl, blt_tupt, met_lst, met_tup, met_scr, met_str, met_int, len_lst, len_tup, len_scr, decide_true, decide_false, Bool.not_true, Bool.not_false, items_tup, items_lst, items_str, wipe_nil, wipe_cons, idx_t0, idx_t1, idx_t2, idx_t3, idx_l0, idx_l1, eq_ss, eq_ii, ne_ss, ne_ii, ne_bb, tru_bl, w_of_of, w_arg_of, w_got_of, w_arg_at, w_got_at, w_arg_arg, w_got_arg, look_insD, look_tupD, c_does, d_does, w_of_arg, w_of_got, w_got_got, w_arg_got, wordT, signT, prt, if_tt, att_word, att_sign, att_parts, look_insR, look_insL, att_rop, att_rlooks, att_rtarget, att_lix, isi_does, isi_cannot, E_sln, E_sdj, EF_srt, EF_dcm, EI_enm, S_pr3, w_does_can, w_can_can])
theorem merge_pen {x y z : D} : mergeD [] ([Sum.inr (Str.ofString "cells"), Sum.inr (Str.ofString "at"), Sum.inr (Str.ofString "left")].zip [x, y, z]) = [(Sum.inr (Str.ofString "cells"), x), (Sum.inr (Str.ofString "at"), y), (Sum.inr (Str.ofString "left"), z)] := by rfl
theorem slc_scr {ns : List Int} {a b : Option Int} : slcD (.scr ns) a b = some (.lst ((cutL ns a b).map .int)) := rfl
theorem pen (k : Nat) (ns : List Int) : run T F (k + 1) 9 [.scr ns] [] = .ok (.loc 0) [.dct (penO (cutL ns none (some 63)) 0 0)] := by
  rw [r9]
  unfold b9
  (try walk_at "go")
  rw [slc_scr]
  (try walk_at "go")
  rw [merge_pen]
  rfl
theorem ne_same {T : Tab} {k : Nat} {xs : List Str} : neO T (k + 1) (.lst (xs.map .str)) (.lst (xs.map .str)) = some false := by
  obtain ⟨d, h1, h2⟩ := dep_strs (xs := xs)
  have hp : plainD (.lst (xs.map .str)) = true := by show plainL _ = true; exact plainL_map fun t ht => rfl
  rw [neO_room h1 h1 (by omega) (by omega) hp hp, eqD_ll', if_pos rfl, eqL_self fun x hx => ?_]
  · rfl
  · obtain ⟨y, _, rfl⟩ := List.mem_map.mp hx
    rw [eqD_ss, decide_eq_true rfl]
theorem bk_one {r : Ru} : bkL [r] = shapesL.filter (hsB r) := by
  unfold bkL
  congr 1
  funext x
  unfold bkB
  simp
theorem bk_nil : bkL [] = shapesL := by
  unfold bkL bkB
  simp
theorem bk_len (rs : List Ru) : (bkL rs).length ≤ 5 := Nat.le_trans (List.length_filter_le _ _) (Nat.le_refl 5)
theorem bk_snoc {rs : List Ru} {r : Ru} {i : Nat} (h : rs[i]? = some r) : (bkL (rs.take i)).filter (fun x => decide (x ∈ bkL [r])) = bkL (rs.take (i + 1)) := by
  rw [bk_one, List.take_succ, h]
  unfold bkL
  rw [List.filter_filter]
  refine List.filter_congr fun x hx => ?_
  unfold bkB
  rw [List.all_append]
  simp only [Option.toList, List.all_cons, List.all_nil, Bool.and_true]
  rw [Bool.and_comm]
  congr 1
  rw [Bool.eq_iff_iff, decide_eq_true_eq, List.mem_filter]
  exact ⟨fun h => h.2, fun h => ⟨hx, h⟩⟩
theorem nar_is {rs : List Ru} {x : Str} {xs : List Str} (h : bkL rs = x :: xs) : nar rs = x := by unfold nar; rw [h]; rfl
theorem nar_nil : nar [] = "plain" := by unfold nar; rw [bk_nil]; rfl

end K05

/-! part K05_p29 -/
set_option Elab.async false
set_option linter.all false
set_option maxRecDepth 100000
set_option maxHeartbeats 4000000
namespace K05
open PySem Rs L2
local macro_rules | `(tactic| walk_at "ev") => `(tactic| simp only [W_ok, W_bad, W_bind, W_opt, W_fin, fin_rt, fin_nx, R.bind_ok, R.bind_bad, R.opt_some, R.opt_none, E_var, E_cst, E_bin, E_neg, E_cmp, E_chn, E_isn, E_and, E_or, E_not, E_tru, E_ife, E_att, E_idx, E_slc, E_tup, E_fz, E_mk, E_call, E_new, E_met, E_blt, E_bmt, E_len, E_str, E_isi, E_frz, E_fst, E_fmt, Eo_no, Eo_yes, Eb_no, Eb_yes, Es_nil, Es_cons, Ej_nil, Ej_cons, EF_lst, EF_cmp, EF_lof, EF_dct, EI_seq, EI_rng, EI_rng2, S_asg, S_par, S_sta, S_sti, S_aug, S_exp, S_mut, S_ret, S_ifs, S_for, S_sup, S_pas, S_con, S_brk, Ss_nil, Ss_cons, bindT_nm, bindT_tp, bindTs_nil, bindTs_cons, layZ_lst, layZ_dct, layM_eq, look_int, look_bl, look_str, look_non, look_tup, look_lst, look_scr, look_dct, look_ins, look_loc, seen_lst, seen_dct, seen_ins, List.getElem?_cons_zero, List.getElem?_cons_succ, List.length_cons, List.length_nil, List.set_cons_zero, List.set_cons_succ, Option.map_some, Option.map_none, Option.bind_some, Option.bind_none, Sc_len, List.map_cons, List.map_nil, Nat.zero_add, Nat.reduceAdd, Nat.reduceLT, reduceIte, Nat.lt_irrefl, and_self, and_true, true_and, if_true, if_false, ↓reduceIte, le_line, Nat.reduceLeDiff, Nat.zero_le, bin_add, bin_sub, cmp_lt, cmp_le, cmp_gt, cmp_ge, cmp_eq, cmp_ne, cmp_in, cmp_nin, blt_int, blt_max2, blt_min2, blt_tupl, blt_tupt, met_lst, met_tup, met_scr, met_str, met_int, len_lst, len_tup, len_scr, decide_true, decide_false, Bool.not_true, Bool.not_false, items_tup, items_lst, items_str, wipe_nil, wipe_cons, idx_t0, idx_t1, idx_t2, idx_t3, idx_l0, idx_l1, eq_ss, eq_ii, ne_ss, ne_ii, ne_bb, tru_bl])
local macro_rules | `(tactic| walk_at "go") => `(tactic| simp only [W_ok, W_bad, W_bind, W_opt, W_fin, fin_rt, fin_nx, R.bind_ok, R.bind_bad, R.opt_some, R.opt_none, E_var, E_cst, E_bin, E_neg, E_cmp, E_chn, E_isn, E_and, E_or, E_not, E_tru, E_ife, E_att, E_idx, E_slc, E_tup, E_fz, E_mk, E_call, E_new, E_met, E_blt, E_bmt, E_len, E_str, E_isi, E_frz, E_fst, E_fmt, Eo_no, Eo_yes, Eb_no, Eb_yes, Es_nil, Es_cons, Ej_nil, Ej_cons, EF_lst, EF_cmp, EF_lof, EF_dct, EI_seq, EI_rng, EI_rng2, S_asg, S_par, S_sta, S_sti, S_aug, S_exp, S_mut, S_ret, S_ifs, S_for, S_sup, S_pas, S_con, S_brk, Ss_nil, Ss_cons, bindT_nm, bindT_tp, bindTs_nil, bindTs_cons, layZ_lst, layZ_dct, layM_eq, look_int, look_bl, look_str, look_non, look_tup, look_lst, look_scr, look_dct, look_ins, look_loc, seen_lst, seen_dct, seen_ins, List.getElem?_cons_zero, List.getElem?_cons_succ, List.length_cons, List.length_nil, List.set_cons_zero, List.set_cons_succ, Option.map_some, Option.map_none, Option.bind_some, Option.bind_none, Sc_len, List.map_cons, List.map_nil, Nat.zero_add, Nat.reduceAdd, Nat.reduceLT, reduceIte, Nat.lt_irrefl, and_self, and_true, true_and, if_true, if_false, ↓reduceIte, le_line, Nat.reduceLeDiff, Nat.zero_le, bin_add, bin_sub, cmp_lt, cmp_le, cmp_gt, cmp_ge, cmp_eq, cmp_ne, cmp_in, cmp_nin, blt_int, blt_max2, blt_min2, blt_tupl, blt_tupt, met_lst, met_tup, met_scr, met_str, met_int, len_lst, len_tup, len_scr, decide_true, decide_false, Bool.not_true, Bool.not_false, items_tup, items_lst, items_str, wipe_nil, wipe_cons, idx_t0, idx_t1, idx_t2, idx_t3, idx_l0, idx_l1, eq_ss, eq_ii, ne_ss, ne_ii, ne_bb, tru_bl, w_of_of, w_arg_of, w_got_of, w_arg_at, w_got_at, w_arg_arg, w_got_arg, look_insD, look_tupD, c_does, d_does, w_of_arg, w_of_got, w_got_got, w_arg_got, wordT, signT, prt, if_tt, att_word, att_sign, att_parts, look_insR, look_insL, att_rop, att_rlooks, att_rtarget, att_lix, isi_does, isi_cannot, E_sln, E_sdj, EF_srt, EF_dcm, EI_enm, S_pr3, w_does_can, w_can_can])
def EnvL (ns : List Int) (r : Ev) : Prop := ∃ o3 o4 o5 o6 o7 o8 o9 o10 o11 o12, r = [some (.scr ns), some (.loc 0), some (.lst (shapesL.map .str)), o3, o4, o5, o6, o7, o8, o9, o10, o11, o12, none]
theorem oneR (m : Mu) (ns : List Int) (ops : List (Str × Nat)) (n : Nat) (s w : Str) (hops : OpsN ops n) (rs : List Ru) (i : Nat) (r : Ru) (hi : rs[i]? = some r) (hr : RuOk ops s w r) (o3 o5 o6 o8 o9 o11 o12 : Option D) :
    W (Ss T 59 (run T F 59) b24l2l4q0 [some (.scr ns), some (.loc 0), some (.lst (shapesL.map .str)), o3, some (ruD r), o5, o6, some (.lst (ops.map opD)), o8, o9, some (.lst ((bkL (rs.take i)).map .str)), o11, o12, none] m)
      (fun fl m' => (∃ o11 o12, fl = .nx [some (.scr ns), some (.loc 0), some (.lst (shapesL.map .str)), o3, some (ruD r), o5, o6, some (.lst (ops.map opD)), o8, o9, some (.lst ((bkL (rs.take (i + 1))).map .str)), o11, o12, none]) ∧ Ex m m') := by
  have hF := hr.fine hops.ar
  have hrs1 : ∀ r' ∈ [r], ∃ w, RuOk ops s w r' := fun r' h => by
    rw [List.mem_singleton] at h
    subst h
    exact ⟨w, hr⟩
  rw [b24l2l4c0]
  (try walk_at "go")
  refine W_eqm (shapes 53 m ops hops.ar s w r hr) ?_
  rw [law_list hF, ← bk_one]
  (try walk_at "go")
  rw [b24l2l4c1]
  (try walk_at "go")
  rw [List.length_map]
  refine W_filt (bkL (rs.take i)) D.str (fun x => decide (x ∈ bkL [r])) (fun m' => m' = m) rfl (fun x hx m2 hm2 => ?_) fun m2 hm2 => ?_
  · subst hm2
    (try walk_at "go")
    rw [show inD T 59 _ _ = _ from in_strs (k := 58)]
    (try walk_at "go")
    cases decide (x ∈ bkL [r]) <;> (try walk_at "go") <;> first | done | rfl | exact ⟨rfl, rfl⟩
  subst hm2
  (try walk_at "go")
  rw [bk_snoc hi, List.length_map, if_pos (lineLe (by have := bk_len (rs.take (i + 1)); omega))]
  (try walk_at "go")
  rw [b24l2l4c2]
  (try walk_at "go")
  rw [show [ruD r] = [r].map ruD from rfl]
  refine W_mono (made_book 49 m2 ops n hops s [r] (by simp) hrs1) fun v m3 ⟨e, h3⟩ => ?_
  subst e
  (try walk_at "go")
  rw [b24l2l4c3, b24l2l4n]
  (try walk_at "go")
  rw [List.length_map]
  refine W_filt shapesL D.str (bkB [r]) (fun m' => Ex m2 m') h3 (fun x hx m4 hm4 => ?_) (fun m4 hm4 => ?_)
  · (try walk_at "go")
    rw [met_bshape]
    (try walk_at "go")
    refine W_mono (book_shape 51 m4 ops hops.ar s [r] (by simp) hrs1 x) fun v m5 ⟨e, h5⟩ => ?_
    subst e
    (try walk_at "go")
    cases bkB [r] x <;> (try walk_at "go") <;> first | exact hm4.trans h5 | exact ⟨rfl, hm4.trans h5⟩
  rw [show shapesL.filter (bkB [r]) = bkL [r] from rfl, List.length_map, if_pos (lineLe (by have := bk_len [r]; omega))]
  (try walk_at "go")
  rw [show neO T 59 _ _ = _ from ne_same (k := 58)]
  (try walk_at "go")
  rw [met_bnarrow]
  (try walk_at "go")
  refine W_mono (narrowest 50 m4 ops hops.ar s [r] (by simp) hrs1) fun v m5 ⟨e, h5⟩ => ?_
  subst e
  (try walk_at "go")
  obtain ⟨x, xs, hb⟩ := bkL_ne [r]
  rw [nar_is hb, hb]
  (try walk_at "go")
  exact ⟨⟨_, _, rfl⟩, hm4.trans h5⟩

end K05

/-! part K05_p30 -/
set_option Elab.async false
set_option linter.all false
set_option maxRecDepth 100000
set_option maxHeartbeats 4000000
namespace K05
open PySem Rs L2
local macro_rules | `(tactic| walk_at "ev") => `(tactic| simp only [W_ok, W_bad, W_bind, W_opt, W_fin, fin_rt, fin_nx, R.bind_ok, R.bind_bad, R.opt_some, R.opt_none, E_var, E_cst, E_bin, E_neg, E_cmp, E_chn, E_isn, E_and, E_or, E_not, E_tru, E_ife, E_att, E_idx, E_slc, E_tup, E_fz, E_mk, E_call, E_new, E_met, E_blt, E_bmt, E_len, E_str, E_isi, E_frz, E_fst, E_fmt, Eo_no, Eo_yes, Eb_no, Eb_yes, Es_nil, Es_cons, Ej_nil, Ej_cons, EF_lst, EF_cmp, EF_lof, EF_dct, EI_seq, EI_rng, EI_rng2, S_asg, S_par, S_sta, S_sti, S_aug, S_exp, S_mut, S_ret, S_ifs, S_for, S_sup, S_pas, S_con, S_brk, Ss_nil, Ss_cons, bindT_nm, bindT_tp, bindTs_nil, bindTs_cons, layZ_lst, layZ_dct, layM_eq, look_int, look_bl, look_str, look_non, look_tup, look_lst, look_scr, look_dct, look_ins, look_loc, seen_lst, seen_dct, seen_ins, List.getElem?_cons_zero, List.getElem?_cons_succ, List.length_cons, List.length_nil, List.set_cons_zero, List.set_cons_succ, Option.map_some, Option.map_none, Option.bind_some, Option.bind_none, Sc_len, List.map_cons, List.map_nil, Nat.zero_add, Nat.reduceAdd, Nat.reduceLT, reduceIte, Nat.lt_irrefl, and_self, and_true, true_and, if_true, if_false, ↓reduceIte, le_line, Nat.reduceLeDiff, Nat.zero_le, bin_add, bin_sub, cmp_lt, cmp_le, cmp_gt, cmp_ge, cmp_eq, cmp_ne, cmp_in, cmp_nin, blt_int, blt_max2, blt_min2, blt_tupl, blt_tupt, met_lst, met_tup, met_scr, met_str, met_int, len_lst, len_tup, len_scr, decide_true, decide_false, Bool.not_true, Bool.not_false, items_tup, items_lst, items_str, wipe_nil, wipe_cons, idx_t0, idx_t1, idx_t2, idx_t3, idx_l0, idx_l1, eq_ss, eq_ii, ne_ss, ne_ii, ne_bb, tru_bl])
local macro_rules | `(tactic| walk_at "go") => `(tactic| simp only [W_ok, W_bad, W_bind, W_opt, W_fin, fin_rt, fin_nx, R.bind_ok, R.bind_bad, R.opt_some, R.opt_none, E_var, E_cst, E_bin, E_neg, E_cmp, E_chn, E_isn, E_and, E_or, E_not, E_tru, E_ife, E_att, E_idx, E_slc, E_tup, E_fz, E_mk, E_call, E_new, E_met, E_blt, E_bmt, E_len, E_str, E_isi, E_frz, E_fst, E_fmt, Eo_no, Eo_yes, Eb_no, Eb_yes, Es_nil, Es_cons, Ej_nil, Ej_cons, EF_lst, EF_cmp, EF_lof, EF_dct, EI_seq, EI_rng, EI_rng2, S_asg, S_par, S_sta, S_sti, S_aug, S_exp, S_mut, S_ret, S_ifs, S_for, S_sup, S_pas, S_con, S_brk, Ss_nil, Ss_cons, bindT_nm, bindT_tp, bindTs_nil, bindTs_cons, layZ_lst, layZ_dct, layM_eq, look_int, look_bl, look_str, look_non, look_tup, look_lst, look_scr, look_dct, look_ins, look_loc, seen_lst, seen_dct, seen_ins, List.getElem?_cons_zero, List.getElem?_cons_succ, List.length_cons, List.length_nil, List.set_cons_zero, List.set_cons_succ, Option.map_some, Option.map_none, Option.bind_some, Option.bind_none, Sc_len, List.map_cons, List.map_nil, Nat.zero_add, Nat.reduceAdd, Nat.reduceLT, reduceIte, Nat.lt_irrefl, and_self, and_true, true_and, if_true, if_false, ↓reduceIte, le_line, Nat.reduceLeDiff, Nat.zero_le, bin_add, bin_sub, cmp_lt, cmp_le, cmp_gt, cmp_ge, cmp_eq, cmp_ne, cmp_in, cmp_nin, blt_int, blt_max2, blt_min2, blt_tupl, blt_tupt, met_lst, met_tup, met_scr, met_str, met_int, len_lst, len_tup, len_scr, decide_true, decide_false, Bool.not_true, Bool.not_false, items_tup, items_lst, items_str, wipe_nil, wipe_cons, idx_t0, idx_t1, idx_t2, idx_t3, idx_l0, idx_l1, eq_ss, eq_ii, ne_ss, ne_ii, ne_bb, tru_bl, w_of_of, w_arg_of, w_got_of, w_arg_at, w_got_at, w_arg_arg, w_got_arg, look_insD, look_tupD, c_does, d_does, w_of_arg, w_of_got, w_got_got, w_arg_got, wordT, signT, prt, if_tt, att_word, att_sign, att_parts, look_insR, look_insL, att_rop, att_rlooks, att_rtarget, att_lix, isi_does, isi_cannot, E_sln, E_sdj, EF_srt, EF_dcm, EI_enm, S_pr3, w_does_can, w_can_can])
theorem pickSh (k N : Nat) (m : Mu) (h : Pen N m) (hN : N ≤ 2 ^ 60) :
    W (run T F (k + 3) 11 [.loc 0, .lst (shapesL.map .str)] m) (fun v m' => (∃ w : Str, v = .str w) ∧ Pen (N + 1) m' ∧ Ch m m') :=
  W_mono (pick k N m (shapesL.map .str) h hN (by simp [shapesL]) (by rw [List.length_map]; decide)) fun v m' ⟨hv, hp, hc⟩ => by
    obtain ⟨w, _, rfl⟩ := List.mem_map.mp hv
    exact ⟨⟨w, rfl⟩, hp, hc⟩
theorem idx_sh {i : Nat} (h : i < 5) : ∃ w : Str, idxD (.lst (shapesL.map .str)) (.int (i : Int)) = some (.str w) := by
  match i, h with
  | 0, _ => exact ⟨_, rfl⟩
  | 1, _ => exact ⟨_, rfl⟩
  | 2, _ => exact ⟨_, rfl⟩
  | 3, _ => exact ⟨_, rfl⟩
  | 4, _ => exact ⟨_, rfl⟩
/-- the books of one turn: what the law asks of them -/
theorem asked (m : Mu) (ns : List Int) (ops : List (Str × Nat)) (n : Nat) (s : Str) (hops : OpsN ops n) (rs : List Ru) (hl : rs.length ≤ 50) (hrs : ∀ r ∈ rs, ∃ w, RuOk ops s w r) (o3 o4 o5 o6 o9 o10 o11 o12 : Option D) :
    W (Ss T 59 (run T F 59) b24l2q3 [some (.scr ns), some (.loc 0), some (.lst (shapesL.map .str)), o3, o4, o5, o6, some (.lst (ops.map opD)), some (.lst (rs.map ruD)), o9, o10, o11, o12, none] m)
      (fun fl m' => (∃ r, fl = .nx r ∧ EnvL ns r) ∧ Ex m m') := by
  rw [b24l2c3]
  (try walk_at "go")
  refine W_mono (made_book 49 m ops n hops s rs (by omega) hrs) fun v m1 ⟨e, h1⟩ => ?_
  subst e
  (try walk_at "go")
  rw [b24l2c4]
  (try walk_at "go")
  refine W_forF (f0 := ruD) (ps := rs) (fun i q m' => (∃ o4 o11 o12, q = [some (.scr ns), some (.loc 0), some (.lst (shapesL.map .str)), o3, o4, o5, o6, some (.lst (ops.map opD)), some (.lst (rs.map ruD)), some (bookD ops rs), some (.lst ((bkL (rs.take i)).map .str)), o11, o12, none]) ∧ Ex m m')
    ⟨⟨_, _, _, by rw [List.take_zero, bk_nil]⟩, h1⟩ (fun i x q m2 hx ⟨⟨o4, o11, o12, e⟩, h2⟩ => ?_) fun q m2 ⟨⟨o4, o11, o12, e⟩, h2⟩ => ?_
  · subst e
    obtain ⟨w, hw⟩ := hrs x (List.mem_of_getElem? hx)
    (try walk_at "go")
    refine W_mono (oneR m2 ns ops n s w hops rs i x hx hw _ _ _ _ _ _ _) fun fl m3 ⟨⟨a11, a12, e⟩, h3⟩ => ?_
    subst e
    exact ⟨⟨_, _, _, rfl⟩, h2.trans h3⟩
  · subst e
    rw [List.take_length]
    (try walk_at "go")
    rw [b24l2c5]
    (try walk_at "go")
    rw [List.length_map]
    refine W_filt shapesL D.str (bkB rs) (fun m' => Ex m m') h2 (fun x hx m4 hm4 => ?_) (fun m4 hm4 => ?_)
    · (try walk_at "go")
      rw [met_bshape]
      (try walk_at "go")
      refine W_mono (book_shape 51 m4 ops hops.ar s rs (by omega) hrs x) fun v m5 ⟨e, h5⟩ => ?_
      subst e
      (try walk_at "go")
      cases bkB rs x <;> (try walk_at "go") <;> first | exact hm4.trans h5 | exact ⟨rfl, hm4.trans h5⟩
    rw [show shapesL.filter (bkB rs) = bkL rs from rfl, List.length_map, if_pos (lineLe (by have := bk_len rs; omega))]
    (try walk_at "go")
    rw [show neO T 59 _ _ = _ from ne_same (k := 58)]
    (try walk_at "go")
    rw [met_bnarrow]
    (try walk_at "go")
    refine W_mono (narrowest 50 m4 ops hops.ar s rs (by omega) hrs) fun v m5 ⟨e, h5⟩ => ?_
    subst e
    (try walk_at "go")
    obtain ⟨x, xs, hb⟩ := bkL_ne rs
    rw [nar_is hb, hb]
    (try walk_at "go")
    rw [b24l2c6, b24l2n]
    (try walk_at "go")
    refine W_mono (made_book 49 m5 ops n hops s [] (by simp) (fun r h => by cases h)) fun v m6 ⟨e, h6⟩ => ?_
    subst e
    (try walk_at "go")
    rw [met_bnarrow]
    (try walk_at "go")
    refine W_mono (narrowest 50 m6 ops hops.ar s [] (by simp) (fun r h => by cases h)) fun v m7 ⟨e, h7⟩ => ?_
    subst e
    rw [nar_nil]
    (try walk_at "go")
    exact ⟨⟨_, rfl, ⟨_, _, _, _, _, _, _, _, _, _, rfl⟩⟩, (hm4.trans h5).trans (h6.trans h7)⟩

end K05

/-! part K05_p31 -/
set_option Elab.async false
set_option linter.all false
set_option maxRecDepth 100000
set_option maxHeartbeats 4000000
namespace K05
open PySem Rs L2
local macro_rules | `(tactic| walk_at "ev") => `(tactic| simp only [W_ok, W_bad, W_bind, W_opt, W_fin, fin_rt, fin_nx, R.bind_ok, R.bind_bad, R.opt_some, R.opt_none, E_var, E_cst, E_bin, E_neg, E_cmp, E_chn, E_isn, E_and, E_or, E_not, E_tru, E_ife, E_att, E_idx, E_slc, E_tup, E_fz, E_mk, E_call, E_new, E_met, E_blt, E_bmt, E_len, E_str, E_isi, E_frz, E_fst, E_fmt, Eo_no, Eo_yes, Eb_no, Eb_yes, Es_nil, Es_cons, Ej_nil, Ej_cons, EF_lst, EF_cmp, EF_lof, EF_dct, EI_seq, EI_rng, EI_rng2, S_asg, S_par, S_sta, S_sti, S_aug, S_exp, S_mut, S_ret, S_ifs, S_for, S_sup, S_pas, S_con, S_brk, Ss_nil, Ss_cons, bindT_nm, bindT_tp, bindTs_nil, bindTs_cons, layZ_lst, layZ_dct, layM_eq, look_int, look_bl, look_str, look_non, look_tup, look_lst, look_scr, look_dct, look_ins, look_loc, seen_lst, seen_dct, seen_ins, List.getElem?_cons_zero, List.getElem?_cons_succ, List.length_cons, List.length_nil, List.set_cons_zero, List.set_cons_succ, Option.map_some, Option.map_none, Option.bind_some, Option.bind_none, Sc_len, List.map_cons, List.map_nil, Nat.zero_add, Nat.reduceAdd, Nat.reduceLT, reduceIte, Nat.lt_irrefl, and_self, and_true, true_and, if_true, if_false, ↓reduceIte, le_line, Nat.reduceLeDiff, Nat.zero_le, bin_add, bin_sub, cmp_lt, cmp_le, cmp_gt, cmp_ge, cmp_eq, cmp_ne, cmp_in, cmp_nin, blt_int, blt_max2, blt_min2, blt_tupl, blt_tupt, met_lst, met_tup, met_scr, met_str, met_int, len_lst, len_tup, len_scr, decide_true, decide_false, Bool.not_true, Bool.not_false, items_tup, items_lst, items_str, wipe_nil, wipe_cons, idx_t0, idx_t1, idx_t2, idx_t3, idx_l0, idx_l1, eq_ss, eq_ii, ne_ss, ne_ii, ne_bb, tru_bl])
local macro_rules | `(tactic| walk_at "go") => `(tactic| simp only [W_ok, W_bad, W_bind, W_opt, W_fin, fin_rt, fin_nx, R.bind_ok, R.bind_bad, R.opt_some, R.opt_none, E_var, E_cst, E_bin, E_neg, E_cmp, E_chn, E_isn, E_and, E_or, E_not, E_tru, E_ife, E_att, E_idx, E_slc, E_tup, E_fz, E_mk, E_call, E_new, E_met, E_blt, E_bmt, E_len, E_str, E_isi, E_frz, E_fst, E_fmt, Eo_no, Eo_yes, Eb_no, Eb_yes, Es_nil, Es_cons, Ej_nil, Ej_cons, EF_lst, EF_cmp, EF_lof, EF_dct, EI_seq, EI_rng, EI_rng2, S_asg, S_par, S_sta, S_sti, S_aug, S_exp, S_mut, S_ret, S_ifs, S_for, S_sup, S_pas, S_con, S_brk, Ss_nil, Ss_cons, bindT_nm, bindT_tp, bindTs_nil, bindTs_cons, layZ_lst, layZ_dct, layM_eq, look_int, look_bl, look_str, look_non, look_tup, look_lst, look_scr, look_dct, look_ins, look_loc, seen_lst, seen_dct, seen_ins, List.getElem?_cons_zero, List.getElem?_cons_succ, List.length_cons, List.length_nil, List.set_cons_zero, List.set_cons_succ, Option.map_some, Option.map_none, Option.bind_some, Option.bind_none, Sc_len, List.map_cons, List.map_nil, Nat.zero_add, Nat.reduceAdd, Nat.reduceLT, reduceIte, Nat.lt_irrefl, and_self, and_true, true_and, if_true, if_false, ↓reduceIte, le_line, Nat.reduceLeDiff, Nat.zero_le, bin_add, bin_sub, cmp_lt, cmp_le, cmp_gt, cmp_ge, cmp_eq, cmp_ne, cmp_in, cmp_nin, blt_int, blt_max2, blt_min2, blt_tupl, blt_tupt, met_lst, met_tup, met_scr, met_str, met_int, len_lst, len_tup, len_scr, decide_true, decide_false, Bool.not_true, Bool.not_false, items_tup, items_lst, items_str, wipe_nil, wipe_cons, idx_t0, idx_t1, idx_t2, idx_t3, idx_l0, idx_l1, eq_ss, eq_ii, ne_ss, ne_ii, ne_bb, tru_bl, w_of_of, w_arg_of, w_got_of, w_arg_at, w_got_at, w_arg_arg, w_got_arg, look_insD, look_tupD, c_does, d_does, w_of_arg, w_of_got, w_got_got, w_arg_got, wordT, signT, prt, if_tt, att_word, att_sign, att_parts, look_insR, look_insL, att_rop, att_rlooks, att_rtarget, att_lix, isi_does, isi_cannot, E_sln, E_sdj, EF_srt, EF_dcm, EI_enm, S_pr3, w_does_can, w_can_can])
theorem turnT (ns : List Int) (N : Nat) (m : Mu) (i : Nat) (o4 o5 o6 o7 o8 o9 o10 o11 o12 : Option D) (h : Pen N m) (hN : N ≤ 2 ^ 38) :
    W (Ss T 59 (run T F 59) b24l2q0 [some (.scr ns), some (.loc 0), some (.lst (shapesL.map .str)), some (.int (i : Int)), o4, o5, o6, o7, o8, o9, o10, o11, o12, none] m) (fun fl m' => ∃ r, fl = .nx r ∧ EnvL ns r ∧ Pen (N + 6000) m') := by
  rw [b24l2c0]
  (try walk_at "go")
  refine W_mono (draw 57 N m 3 h (by omega) (by decide) (by decide)) fun v m1 ⟨x, e, hx, hx2, hp1, hc1⟩ => ?_
  subst e
  obtain ⟨x, rfl⟩ := Int.eq_ofNat_of_zero_le hx
  (try walk_at "go")
  rw [show (1 + (x : Int)) = ((1 + x : Nat) : Int) by omega]
  refine W_mono (letters 56 _ m1 (1 + x) hp1 (by omega) (by omega)) fun v m2 ⟨s, e, hs, _, hp2, hc2⟩ => ?_
  subst e
  (try walk_at "go")
  have hw : W (match D.bl (decide ((i : Int) < 5)) with
      | D.bl true => R.opt (idxD (D.lst (shapesL.map D.str)) (D.int (i : Int))) m2
      | D.bl false => run T F 59 11 [D.loc 0, D.lst (shapesL.map D.str)] m2
      | _ => R.bad) (fun v m' => (∃ w : Str, v = .str w) ∧ Pen (N + 20) m') := by
    by_cases hi : i < 5
    · rw [decide_eq_true (show (i : Int) < 5 by omega)]
      (try walk_at "go")
      obtain ⟨w, hw⟩ := idx_sh hi
      rw [hw]
      exact ⟨⟨w, rfl⟩, hp2.mono (by omega)⟩
    · rw [decide_eq_false (show ¬ (i : Int) < 5 by omega)]
      (try walk_at "go")
      exact W_mono (pickSh 56 _ m2 hp2 (by omega)) fun v m' ⟨hv, hp, _⟩ => ⟨hv, hp.mono (by omega)⟩
  refine W_mono hw fun v m3 ⟨⟨w, e⟩, hp3⟩ => ?_
  subst e
  rw [b24l2c1]
  (try walk_at "go")
  refine W_mono (book_drawn 35 _ m3 s w 6 hp3 (by omega) (by omega) (by omega) (by decide) (by decide)) fun v m4 ⟨ops, n, rs, e, hops, hrs, _, hrl, hp4, hc4⟩ => ?_
  subst e
  (try walk_at "go")
  have hrs' : ∀ r ∈ rs, ∃ w, RuOk ops s w r := fun r hr => ⟨w, hrs r hr⟩
  rw [b24l2c2]
  (try walk_at "go")
  refine W_mono (draw 57 _ m4 3 hp4 (by omega) (by decide) (by decide)) fun v m5 ⟨y, e, hy, hy2, hp5, hc5⟩ => ?_
  subst e
  (try walk_at "go")
  cases hb : (y == 0) with
  | false =>
    (try walk_at "go")
    refine W_mono (asked m5 ns ops n s hops rs (by omega) hrs' _ _ _ _ _ _ _ _) fun fl m6 ⟨⟨r, e, hr⟩, h6⟩ => ?_
    subst e
    exact ⟨r, rfl, hr, (hp5.ex h6).mono (by omega)⟩
  | true =>
    (try walk_at "go")
    refine W_mono (pick 56 _ m5 (ops.map opD) hp5 (by omega) (by intro e; rw [List.map_eq_nil_iff] at e; have := hops.d; rw [e] at this; cases this) (by rw [List.length_map]; have := hops.ops.len; omega)) fun v m6 ⟨hv, hp6, hc6⟩ => ?_
    obtain ⟨⟨o, a⟩, ho, rfl⟩ := List.mem_map.mp hv
    (try walk_at "go")
    refine W_mono (pickSh 56 _ m6 hp6 (by omega)) fun v m7 ⟨⟨w2, e⟩, hp7, hc7⟩ => ?_
    subst e
    (try walk_at "go")
    refine W_mono (rule_drawnL 39 _ m7 ops o a s w2 hp7 (by omega) hops.ops ho (by omega) (by omega)) fun v m8 ⟨r, e, hr, hp8, hc8⟩ => ?_
    subst e
    (try walk_at "go")
    rw [bin_lst (lineLe (by rw [List.length_map]; simp only [List.length_cons, List.length_nil]; omega)), show rs.map ruD ++ [ruD r] = (rs ++ [r]).map ruD by rw [List.map_append]; rfl]
    (try walk_at "go")
    refine W_mono (asked m8 ns ops n s hops (rs ++ [r]) (by rw [List.length_append, List.length_singleton]; omega) (fun r' h => by
      rcases List.mem_append.mp h with h | h
      · exact hrs' r' h
      · rw [List.mem_singleton] at h
        subst h
        exact ⟨w2, hr⟩) _ _ _ _ _ _ _ _) fun fl m9 ⟨⟨r, e, hr⟩, h9⟩ => ?_
    subst e
    exact ⟨r, rfl, hr, (hp8.ex h9).mono (by omega)⟩
theorem law_w (ns : List Int) (hns : ns.length ≤ 63) : W (run T F 60 24 [.scr ns] []) (fun v _ => v = .bl true) := by
  have hp0 : Pen 0 [.dct (penO (cutL ns none (some 63)) 0 0)] := by
    refine ⟨_, _, _, rfl, ?_, by omega, by omega⟩
    unfold cutL
    rw [List.length_take, List.length_drop]
    omega
  rw [r24 59, b24e, b24c0]
  (try walk_at "go")
  rw [show run T F 59 9 [.scr ns] [] = .ok (.loc 0) [.dct (penO (cutL ns none (some 63)) 0 0)] from pen 58 ns]
  (try walk_at "go")
  rw [b24c1]
  (try walk_at "go")
  rw [b24c2]
  (try walk_at "go")
  have hz : (5 + if (ns.length : Int) < 8 then (ns.length : Int) else 8) ≤ 14 := by split <;> omega
  have hz' : 0 ≤ (5 + if (ns.length : Int) < 8 then (ns.length : Int) else 8) := by split <;> omega
  generalize (5 + if (ns.length : Int) < 8 then (ns.length : Int) else 8) = z at hz hz' ⊢
  rw [rangeD_int (by omega) (by omega), ← shapesL_is]
  simp only [Option.map_some, Sc_len]
  refine W_for (fun i r m => EnvL ns r ∧ Pen (i * 6000) m) ⟨⟨_, _, _, _, _, _, _, _, _, _, rfl⟩, by rw [Nat.zero_mul]; exact hp0⟩ (fun i x r m hx ⟨hr, hp⟩ => ?_) fun r m ⟨hr, hp⟩ => ?_
  · have hi := (List.getElem?_eq_some_iff.mp hx).1
    rw [List.length_map, List.length_range] at hi
    obtain ⟨j, hj, rfl⟩ : ∃ j : Nat, (List.range z.toNat)[i]? = some j ∧ D.int (j : Int) = x := by
      rw [List.getElem?_map] at hx
      exact Option.map_eq_some_iff.mp hx
    obtain ⟨o3, o4, o5, o6, o7, o8, o9, o10, o11, o12, rfl⟩ := hr
    (try walk_at "go")
    refine W_mono (turnT ns (i * 6000) m j _ _ _ _ _ _ _ _ _ hp (by omega)) fun fl m' ⟨r, e, he, hp'⟩ => ?_
    subst e
    exact ⟨he, by rw [Nat.succ_mul]; exact hp'⟩
  · obtain ⟨o3, o4, o5, o6, o7, o8, o9, o10, o11, o12, rfl⟩ := hr
    (try walk_at "go")
    rw [b24c3, b24n]
    (try walk_at "go")
theorem pure_ok (ns : List Int) (h : ns.length ≤ 63) : ∃ mu, Rs.run (M.cls.map (·.2)) (M.fns.map (·.fn)) 60 24 [.scr ns] [] = .ok (.bl true) mu := by
  have z := law_w ns h
  show ∃ mu, run T F 60 24 [.scr ns] [] = .ok (.bl true) mu
  cases hr : run T F 60 24 [.scr ns] [] with
  | ok v m =>
    rw [hr] at z
    exact ⟨m, by rw [show v = .bl true from z]⟩
  | exc => rw [hr] at z; exact z.elim
  | bad => rw [hr] at z; exact z.elim

end K05

/-! part K05_p4 -/
set_option Elab.async false
set_option linter.all false
set_option maxRecDepth 100000
set_option maxHeartbeats 4000000
namespace K05
open PySem Rs L2
local macro_rules | `(tactic| walk_at "ev") => `(tactic| simp only [W_ok, W_bad, W_bind, W_opt, W_fin, fin_rt, fin_nx, R.bind_ok, R.bind_bad, R.opt_some, R.opt_none, E_var, E_cst, E_bin, E_neg, E_cmp, E_chn, E_isn, E_and, E_or, E_not, E_tru, E_ife, E_att, E_idx, E_slc, E_tup, E_fz, E_mk, E_call, E_new, E_met, E_blt, E_bmt, E_len, E_str, E_isi, E_frz, E_fst, E_fmt, Eo_no, Eo_yes, Eb_no, Eb_yes, Es_nil, Es_cons, Ej_nil, Ej_cons, EF_lst, EF_cmp, EF_lof, EF_dct, EI_seq, EI_rng, EI_rng2, S_asg, S_par, S_sta, S_sti, S_aug, S_exp, S_mut, S_ret, S_ifs, S_for, S_sup, S_pas, S_con, S_brk, Ss_nil, Ss_cons, bindT_nm, bindT_tp, bindTs_nil, bindTs_cons, layZ_lst, layZ_dct, layM_eq, look_int, look_bl, look_str, look_non, look_tup, look_lst, look_scr, look_dct, look_ins, look_loc, seen_lst, seen_dct, seen_ins, List.getElem?_cons_zero, List.getElem?_cons_succ, List.length_cons, List.length_nil, List.set_cons_zero, List.set_cons_succ, Option.map_some, Option.map_none, Option.bind_some, Option.bind_none, Sc_len, List.map_cons, List.map_nil, Nat.zero_add, Nat.reduceAdd, Nat.reduceLT, reduceIte, Nat.lt_irrefl, and_self, and_true, true_and, if_true, if_false, ↓reduceIte, le_line, Nat.reduceLeDiff, Nat.zero_le, bin_add, bin_sub, cmp_lt, cmp_le, cmp_gt, cmp_ge, cmp_eq, cmp_ne, cmp_in, cmp_nin, blt_int, blt_max2, blt_min2, blt_tupl, blt_tupt, met_lst, met_tup, met_scr, met_str, met_int, len_lst, len_tup, len_scr, decide_true, decide_false, Bool.not_true, Bool.not_false, items_tup, items_lst, items_str, wipe_nil, wipe_cons, idx_t0, idx_t1, idx_t2, idx_t3, idx_l0, idx_l1, eq_ss, eq_ii, ne_ss, ne_ii, ne_bb, tru_bl])
local macro_rules | `(tactic| walk_at "go") => `(tactic| simp only [W_ok, W_bad, W_bind, W_opt, W_fin, fin_rt, fin_nx, R.bind_ok, R.bind_bad, R.opt_some, R.opt_none, E_var, E_cst, E_bin, E_neg, E_cmp, E_chn, E_isn, E_and, E_or, E_not, E_tru, E_ife, E_att, E_idx, E_slc, E_tup, E_fz, E_mk, E_call, E_new, E_met, E_blt, E_bmt, E_len, E_str, E_isi, E_frz, E_fst, E_fmt, Eo_no, Eo_yes, Eb_no, Eb_yes, Es_nil, Es_cons, Ej_nil, Ej_cons, EF_lst, EF_cmp, EF_lof, EF_dct, EI_seq, EI_rng, EI_rng2, S_asg, S_par, S_sta, S_sti, S_aug, S_exp, S_mut, S_ret, S_ifs, S_for, S_sup, S_pas, S_con, S_brk, Ss_nil, Ss_cons, bindT_nm, bindT_tp, bindTs_nil, bindTs_cons, layZ_lst, layZ_dct, layM_eq, look_int, look_bl, look_str, look_non, look_tup, look_lst, look_scr, look_dct, look_ins, look_loc, seen_lst, seen_dct, seen_ins, List.getElem?_cons_zero, List.getElem?_cons_succ, List.length_cons, List.length_nil, List.set_cons_zero, List.set_cons_succ, Option.map_some, Option.map_none, Option.bind_some, Option.bind_none, Sc_len, List.map_cons, List.map_nil, Nat.zero_add, Nat.reduceAdd, Nat.reduceLT, reduceIte, Nat.lt_irrefl, and_self, and_true, true_and, if_true, if_false, ↓reduceIte, le_line, Nat.reduceLeDiff, Nat.zero_le, bin_add, bin_sub, cmp_lt, cmp_le, cmp_gt, cmp_ge, cmp_eq, cmp_ne, cmp_in, cmp_nin, blt_int, blt_max2, blt_min2, blt_tupl, blt_tupt, met_lst, met_tup, met_scr, met_str, met_int, len_lst, len_tup, len_scr, decide_true, decide_false, Bool.not_true, Bool.not_false, items_tup, items_lst, items_str, wipe_nil, wipe_cons, idx_t0, idx_t1, idx_t2, idx_t3, idx_l0, idx_l1, eq_ss, eq_ii, ne_ss, ne_ii, ne_bb, tru_bl, Bool.not_true, Bool.not_false])
theorem eq_run : M.EqRun := by
  intro c gp n f fs b m k r i j hc hd hi hb hj he
  have hT : M.cls.map (·.2) = T := rfl
  rw [hT] at hc
  exact (eqg_no hc).elim

end K05

/-! part K05_pure -/


/-! part K05_head -/
set_option Elab.async false
set_option linter.all false
set_option maxRecDepth 100000
set_option maxHeartbeats 0
namespace K05
open PySem Rs
abbrev P : Program := PySem.Challenge.pw_ruleshapes_k05_shapes
theorem text_ok : M.text P = true := by decide +kernel
def nam0 : List PySem.Str := ["_wall", "ShapeError", "BadText", "BadRule", "LETTERS", "DIGITS", "MOST_NAME", "MOST_DIGITS", "BARRED", "is_name", "number_of", "Line", "read_operators", "read_target", "read_parts", "read_look", "read_looks", "read_head", "read_rule", "read_book"]
def nam1 : List PySem.Str := ["Term", "At", "Arg", "Got", "Of", "term_text", "parts_of", "term_of", "SHAPES", "Does", "Cannot", "Rule", "Book", "does_of", "cannots_of", "look_text", "rule_text", "arity_asked", "is_right_part", "is_right"]
def nam2 : List PySem.Str := ["check_rules", "is_straight", "is_plain", "has_shape", "has_shape_books", "target_of", "look_of", "rule_of", "_law_pen", "_law_draw", "_law_pick", "_law_letters", "_law_leaf", "_law_target", "_law_looks", "_law_pool", "_law_rule", "_law_book", "_law_made_term", "_law_made_rule"]
def nam3 : List PySem.Str := ["_law_made_book", "_law_leaves", "_law_shapes"]
def names : List PySem.Str := nam0 ++ nam1 ++ nam2 ++ nam3
abbrev R : PySem.W.OpenRow := PySem.W.OpenLaw.row PySem.Challenge.rw_ruleshapes_k05_shapes
abbrev hk : PySem.W.Hook := hookR 1500 M P
def ob (s : PySem.W.SharedT) : AlR := obsRG 1500 M P (HandSHeadRun.getT s)
theorem ob_eq (s : PySem.W.SharedT) : ob s = hk.obs s.abs := obsRG_eq (HandSHeadRun.getT_eq s)
theorem run (w : World) : HandSHeadRun.RunEq R (PySem.W.view R.prog [69]) hk ob 12000 names w := by
  intro os
  kernel_rfl
theorem facts {w : World} {K : PySem.W.Frag} {h : Heap} {mg : Str → Option Value} {f : Addr} (X : K.In h) (G : h.Ns mainGlobals mg) (hfa : mg ("law" : Str) = some (.ref f)) (c : obsR M P K = valR M P) :
    ∃ (fd : FuncData) (sp : L2.Sp), (∀ (s : Shared) (u : Value), BindsTo s fd ⟨[u], []⟩ [("_law_script", u)]) ∧
        (∀ (H : L2.Hp) (a : Addr) (ns : List Int), ns.length ≤ 63 → L2.Only H → L2.SqL K H a (ns.map L2.V.int) → sp [.ref a] H (fun v _ => v = .bl true) fun _ _ _ => False) ∧
        ∀ base : Heap, K.In base → base.Ns mainGlobals mg → L2.FnOk P w K mg base L2.CX0 (lev 60) f fd ["_law_script"] sp := by
  have o : MOk M P K := mok_of c text_ok
  have hg := o.gl (x := "law") (g := .fn 24) (by rfl)
  have e : M.fa K 24 = f := by
    simp only [glLeft, Bool.and_eq_true] at hg
    have e1 := PySem.W.mg_of X G (optB_ok hg.1.2)
    rw [hfa] at e1
    cases e1
    rfl
  have hs := o.gl (x := "super") (g := .bu) (by rfl)
  rw [← e]
  exact law_end (m := f24m) o eq_run X G (by rfl) (by decide +kernel) (PySem.W.mg_none_of X G (optB_ok hs)) pure_ok
end K05
open PySem PySem.W PySem.Calls PyProof.Rows
theorem PySem.Challenge.cw_ruleshapes_k05_shapes_holds : PySem.Challenge.rw_ruleshapes_k05_shapes.Holds := by
  w_on; o_law
  refine HandSHeadRun.head_any (r := OpenLaw.row PySem.Challenge.rw_ruleshapes_k05_shapes) (q := view (OpenLaw.row PySem.Challenge.rw_ruleshapes_k05_shapes).prog [69]) (H := K05.hk) (ob := K05.ob) (M := 12000) (loose := K05.names) (d := HandSHeadRun.topDef (OpenLaw.row PySem.Challenge.rw_ruleshapes_k05_shapes).prog 69) (kwd := []) K05.ob_eq
    (by kernel_rfl) (fun s => by kernel_rfl) K05.run (by kernel_rfl) (by kernel_rfl) (by kernel_rfl) (by rfl) (by first | assumption | decide +kernel) (by decide +kernel) ⟨rfl, rfl, rfl, rfl, rfl, by decide +kernel⟩ ?hw ?hc
  case hw => w_witness2
  case hc =>
    refine L2.walk_ofE (l := PySem.Challenge.rw_ruleshapes_k05_shapes) (n := 63) (k := Rs.lev 60) (x := "_law_script") (CX := L2.CX0) rfl (by decide) (by kernel_rfl) ⟨rfl, by decide, by decide⟩ ?F (fun _ _ _ _ z => z)
    intro w mg fa h Y G hmg0
    obtain ⟨K, KX, c⟩ := Y
    have hmg : mg ("law" : PySem.Str) = some (.ref fa) := by
      have e : (HandSHeadRun.topDef (OpenLaw.row PySem.Challenge.rw_ruleshapes_k05_shapes).prog 69).name = ("law" : PySem.Str) := by kernel_rfl
      rw [← e]
      exact hmg0
    obtain ⟨fd, sp, hb, hsp, hF⟩ := K05.facts (w := w) KX G hmg c
    exact ⟨K, fd, sp, KX, hb, hsp, hF⟩
